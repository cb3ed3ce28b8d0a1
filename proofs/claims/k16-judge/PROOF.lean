import PyProof.Rows.All
import Wide.All
import OpenK.AllK
import Wide.FinOn
import KE.KStateDown
import Lean
import HandS.Head2
import HandS.HeadHook3
import HandS.ExcField
import HandS.Words
import HandS.Exc
import HandS.ForMost
import HandS.ExcOwn
import HandS.WordsExc
import HandS.TryOnly
import HandS.Defaults
import HandS.MakeKwOnly
import HandS.IsInst
import KE.IntTextLaws
import HandS.Replace
import HandS.Ends
import HandS.Head0
import HandS.Head1
import HandS.HeadEnd
import HandS.HeadHook1
import HandS.HeadHook2
import HandS.MakeKw
import HandS.Dict
import HandS.StrMore
import HandS.StrSplit
import HandS.Strs
import HandS.More
import HandS.ExcInit
import HandS.ExcIs
import HandS.SetFor
import HandS.List
import HandS.DictComp
import HandS.SortKw
import KE.DatumOrd
import HandS.WordsDict
import HandS.ReplaceLit
import HandS.ReplaceList
import KE.SortData
import HandS.Iter
import HandS.Style
import PyProof.ReprRoads
import PySem.Challenge.RW_trunkland_k16_judge
set_option Elab.async false
set_option maxRecDepth 100000
set_option linter.all false
set_option maxHeartbeats 4000000
namespace Cn
open PySem PySem.Spec PyProof.Rows L2 He
def clsBody : Stmt → List Stmt
  | .ClassDef _ _ _ b _ _ _ _ _ _ _ => b
  | _ => []
def isLit : V → Value → Bool
  | .non, .none => true
  | .bl b, .bool c => b == c
  | .int i, .int j _ => decide (i = j)
  | .str x, .str y _ => decide (x = y)
  | _, _ => false
def areLit : List V → List Value → Bool
  | [], [] => true
  | v :: vs, u :: us => isLit v u && areLit vs us
  | _, _ => false
def isTy (T : String) : Value → Bool
  | .type n => n == T
  | _ => false
def tupAt (K : PySem.W.Frag) (a : Addr) (vs : List V) : Bool := match K.lookup a with
  | some o => (match o.data with
    | .seq its _ => isTy "tuple" o.cls && decide (its.size ≤ 1000) && areLit vs its.toList
    | _ => false)
  | none => false
structure Cs where
  tups : List (Str × List V)
def Cs.ok (C : Cs) (K : PySem.W.Frag) : Bool := C.tups.all fun p => He.Fa.ok K (.glo p.1) && tupAt K (He.ga K p.1) p.2
def dvalB (K : PySem.W.Frag) (a : Addr) (z : Str) (vs : List V) : Bool := match PySem.W.nsIn K a z with
  | some (some (.ref b)) => tupAt K b vs
  | _ => false
structure Cs2 where
  tups : List (Str × List V)
  dics : List (Str × List (Str × List V))
  xs : List (PySem.W.Frag → Bool)
abbrev DicT : Type := List (Option (List (Option (Str × Int))))
def Cs2.ok (C : Cs2) (K : PySem.W.Frag) : Bool := (C.xs.all fun f => f K) && ((Cs.mk C.tups).ok K && C.dics.all fun d => Fa.ok K (.glo d.1) && d.2.all fun q => dvalB K (ga K d.1) q.1 q.2)
def Cs2.obs (C : Cs2) (K : PySem.W.Frag) : DicT := C.dics.map fun d => dicW K (ga K d.1)
def Cs2.val (C : Cs2) (w : World) : DicT := C.dics.map fun d => some (keysIn w.params (d.2.map Prod.fst))
def Cs2.says (C : Cs2) (w : World) (K : PySem.W.Frag) : Prop := C.ok K = true ∧ C.obs K = C.val w
def oexB (K : PySem.W.Frag) (C : Addr) : Bool := (match K.lookup C with
  | some ⟨.type "type", _, .cls cd, sl⟩ => (match cd.mro, sl.toList with
    | .ref C' :: bm, [_, _, _, _, some (.builtin n), _] => C' == C && n == "ValueError.__new__" && !cd.hasDel && cd.hasDict && PySem.HandSPX.refsVE bm
    | _, _ => false)
  | _ => false) && (decide (PySem.W.findIn K (.ref C) "__setattr__" = some (some (.builtin "object.__setattr__"))) && (decide (PySem.W.subIn K (.ref C) (.type "BaseException") = some true) && (decide (PySem.W.typeIn K (.ref C) = some (.type "type")) && PySem.W.keepIn K (.ref C))))
def tinB (K : PySem.W.Frag) (C : Addr) : Bool := decide (PySem.W.specialIn K (.ref C) "__getattribute__" = some (some (.builtin "type.__getattribute__"))) && (PySem.W.readsIn K C (.type "type") && (match PySem.W.findCls K (.ref C) (.type "type") "__init__" with
  | some (.val (.builtin i)) => i == "ValueError.__init__"
  | _ => false))
def excB (K : PySem.W.Frag) (D : Addr) : Bool := decide (PySem.W.findIn K (.ref D) "__getattribute__" = some (some (.builtin "BaseException.__getattribute__"))) && (decide (PySem.W.findIn K (.ref D) "__getattr__" = some none) &&
  (decide (PySem.W.subIn K (.ref D) (.type "BaseException") = some true) && (PySem.W.hasDictIn K D && (decide (PySem.W.findIn K (.ref D) "__class__" = some (some (.builtin "object.__class__"))) &&
  (decide (PySem.W.specialIn K (.builtin "object.__class__") "__get__" = some (some (.builtin "getset_descriptor.__get__"))) && (decide (PySem.W.takesIn K (.builtin "object.__class__") = some true) && decide (PySem.W.mroIn K D (.type "object") = some true)))))))
def xraB (K : PySem.W.Frag) (C fI : Addr) (f : Str) : Bool := oexB K C && (decide (PySem.W.findIn K (.ref C) "__init__" = some (some (.ref fI))) && (decide (PySem.W.typeIn K (.ref fI) = some (.type "function")) && decide (PySem.W.findIn K (.ref C) f = some none)))
def xcaB (K : PySem.W.Frag) (C : Addr) (f : Str) : Bool := excB K C && (xfB K C && (decide (PySem.W.exmOne K (.ref C) (.ref C) = some true) && decide (PySem.W.findIn K (.ref C) f = some none)))
def kitB2 (K : PySem.W.Frag) (C D : Addr) : Bool := decide (PySem.W.kitOne K (.ref C) (.ref D) = some true)
theorem follow_self (w : World) (row : String) : w.withFollow row (w.params.followText row) = w := by
  have e : (fun r => if r = row then w.params.followText row else w.params.followText r) = w.params.followText := by
    funext r
    split
    · next c => rw [c]
    · rfl
  unfold World.withFollow
  rw [e]
def hookA (as : List Addr) (fa : List Fa) (fn : List DefD) (C : Cs2) : PySem.W.Hook where
  α := AlD × Bool × DicT
  obs := fun s => (obsD fa fn (frG s.heap.get? as), C.ok (frG s.heap.get? as), C.obs (frG s.heap.get? as))
  val := fun w => (valD fn, true, C.val w)
  says := fun w h => ∃ K, K.In h ∧ SaysD fa fn K ∧ C.says w K
  of := fun w s e => by
    have e1 := congrArg Prod.fst e
    have e2 := congrArg Prod.snd e
    have e3 := congrArg Prod.fst e2
    have e4 := congrArg Prod.snd e2
    exact ⟨_, frG_in, e1, e3, e4⟩
  keeps := fun w h h' ⟨K, k1, k2, k3⟩ hk => ⟨K, fun a o e => hk a o (k1 a o e), k2, k3⟩
def obA (as : List Addr) (fa : List Fa) (fn : List DefD) (C : Cs2) (g : Addr → Option Obj) : AlD × Bool × DicT := (obsD fa fn (frG g as), C.ok (frG g as), C.obs (frG g as))
theorem obA_eq {as : List Addr} {fa : List Fa} {fn : List DefD} {C : Cs2} {g : Addr → Option Obj} {s : Shared} (e : ∀ a, g a = s.heap.get? a) : obA as fa fn C g = (hookA as fa fn C).obs s := by
  have : g = s.heap.get? := funext e
  subst this
  rfl
theorem runEq_of {r : PySem.W.OpenRow} {q : Program} {as : List Addr} {fa : List Fa} {fn : List DefD} {C : Cs2} {M : Nat} {loose : List PySem.Str} {w : World} (n : Nat)
    (e1 : ∀ os, (HandSHeadRun.endF (HandSHeadRun.stepQ (HandSHeadRun.denQ HandSHeadRun.tabQ) r.prog w) M r.prog w os).map (fun s => (HandSHeadRun.looksF r.prog (PySem.W.boot_heap w.params) s.abs, HandSHeadRun.seenQ q loose (importedModules r.prog.main.body) (fun s => PySem.W.xlAt q [] s && PySem.W.recOk r.toRowW.records s) s.abs)) = some (true, PySem.W.openGood q loose))
    (e2 : ∀ os, (HandSHeadRun.endF (HandSHeadRun.stepQ (HandSHeadRun.denQ HandSHeadRun.tabQ) r.prog w) M r.prog w os).map (fun s => ((fa.all fun f => f.ok (frG (HandSHeadRun.getT s) as)) && C.ok (frG (HandSHeadRun.getT s) as), C.obs (frG (HandSHeadRun.getT s) as))) = some (true, C.val w))
    (e3 : ∀ os, (HandSHeadRun.endF (HandSHeadRun.stepQ (HandSHeadRun.denQ HandSHeadRun.tabQ) r.prog w) M r.prog w os).map (fun s => ((fn.map fun d => fnW (frG (HandSHeadRun.getT s) as) d.at_), (fn.take n).all fun d => d.ok (frG (HandSHeadRun.getT s) as))) = some (fn.map DefD.val, true))
    (e4 : ∀ os, (HandSHeadRun.endF (HandSHeadRun.stepQ (HandSHeadRun.denQ HandSHeadRun.tabQ) r.prog w) M r.prog w os).map (fun s => (fn.drop n).all fun d => d.ok (frG (HandSHeadRun.getT s) as)) = some true) :
    HandSHeadRun.RunEq r q (hookA as fa fn C) (fun s => obA as fa fn C (HandSHeadRun.getT s)) M loose w := by
  intro os
  have a1 := e1 os
  have a2 := e2 os
  have a3 := e3 os
  have a4 := e4 os
  cases h : HandSHeadRun.endF (HandSHeadRun.stepQ (HandSHeadRun.denQ HandSHeadRun.tabQ) r.prog w) M r.prog w os with
  | none => rw [h] at a1; cases a1
  | some s =>
    rw [h] at a1 a2 a3 a4
    have a1 := Option.some.inj a1
    have a2 := Option.some.inj a2
    have a3 := Option.some.inj a3
    have a4 := Option.some.inj a4
    have b1 := congrArg Prod.fst a1
    have b2 := congrArg Prod.snd a1
    have b3 := Bool.and_eq_true_iff.mp (congrArg Prod.fst a2)
    have b4 := congrArg Prod.snd a2
    have b5 := congrArg Prod.fst a3
    have b6 := congrArg Prod.snd a3
    refine congrArg some (Prod.ext b1 (Prod.ext b2 (Prod.ext (Prod.ext ?_ b5) (Prod.ext b3.2 b4))))
    have b7 : (fn.all fun d => d.ok (frG (HandSHeadRun.getT s) as)) = true := by
      have e : fn = fn.take n ++ fn.drop n := (List.take_append_drop n fn).symm
      rw [e, List.all_append]
      exact Bool.and_eq_true_iff.mpr ⟨b6, a4⟩
    exact Bool.and_eq_true_iff.mpr ⟨b3.1, b7⟩
end Cn
set_option Elab.async false
set_option linter.all false
set_option maxRecDepth 100000
set_option maxHeartbeats 0
namespace Wk
open PySem PySem.Spec PyProof.Rows L2 Cn
def top (i : Nat) : Stmt := PySem.Challenge.pw_trunkland_k16_judge.main.body.getD i (.Pass ⟨0, 0, 0, 0⟩)
abbrev ca (K : PySem.W.Frag) : Nat → Addr := fun n => match n with
  | 14 => He.ga K "Record"
  | 15 => He.ga K "Book"
  | 0 => He.ga K "TrunklandError"
  | 2 => He.ga K "ConfigError"
  | 9 => He.ga K "Tariff"
  | _ => 0
def an : List Str := (["line", "setting", "verb", "code", "call", "origin", "origin_tag", "target", "target_tag", "seq", "way", "offer"] : List Str) ++ (["stay", "goal", "lines", "letter", "place", "first", "state", "gap", "next_send", "end", "keep_text", "text"] : List Str) ++ (["tag", "own", "other", "other_tag", "able", "check", "other_seq", "ways", "next_live", "asking", "waiting", "clients"] : List Str) ++ (["servers", "call_server", "events", "out", "users", "stations", "longest", "ends", "latest", "unit", "bands", "last"] : List Str) ++ (["synced", "number", "caller", "callee", "answer", "cost", "tariff", "journal", "found", "host", "patience", "most_calls"] : List Str) ++ (["save", "begun", "rang", "answered", "ended", "why", "modes", "moves", "records", "now", "sides", "rings"] : List Str) ++ (["over", "worst", "moving", "move_legs", "move_begun", "config", "ledger", "restarts", "places", "legs", "calls", "tags"] : List Str) ++ (["seqs", "user", "auto", "offers", "active", "since", "signs", "fates", "slowest", "sent", "exchange", "phones"] : List Str) ++ (["network"] : List Str)
abbrev sD_m_Record_init : Stmt := (clsBody (top 2)).getD 0 (.Pass ⟨0, 0, 0, 0⟩)
def d_m_Record_init : He.DefD := ⟨("Record", some "__init__"), "__init__", "Record.__init__", defArgs sD_m_Record_init, defBody sD_m_Record_init, defScope sD_m_Record_init, [], []⟩
abbrev sD_m_Record_row : Stmt := (clsBody (top 2)).getD 1 (.Pass ⟨0, 0, 0, 0⟩)
def d_m_Record_row : He.DefD := ⟨("Record", some "row"), "row", "Record.row", defArgs sD_m_Record_row, defBody sD_m_Record_row, defScope sD_m_Record_row, [], []⟩
abbrev sD_m_Book_init : Stmt := (clsBody (top 3)).getD 0 (.Pass ⟨0, 0, 0, 0⟩)
def d_m_Book_init : He.DefD := ⟨("Book", some "__init__"), "__init__", "Book.__init__", defArgs sD_m_Book_init, defBody sD_m_Book_init, defScope sD_m_Book_init, [], []⟩
abbrev sD_m_Book_begin : Stmt := (clsBody (top 3)).getD 1 (.Pass ⟨0, 0, 0, 0⟩)
def d_m_Book_begin : He.DefD := ⟨("Book", some "begin"), "begin", "Book.begin", defArgs sD_m_Book_begin, defBody sD_m_Book_begin, defScope sD_m_Book_begin, [], []⟩
abbrev sD_m_Book_change : Stmt := (clsBody (top 3)).getD 2 (.Pass ⟨0, 0, 0, 0⟩)
def d_m_Book_change : He.DefD := ⟨("Book", some "change"), "change", "Book.change", defArgs sD_m_Book_change, defBody sD_m_Book_change, defScope sD_m_Book_change, [], []⟩
abbrev sD_m_Book_take : Stmt := (clsBody (top 3)).getD 3 (.Pass ⟨0, 0, 0, 0⟩)
def d_m_Book_take : He.DefD := ⟨("Book", some "take"), "take", "Book.take", defArgs sD_m_Book_take, defBody sD_m_Book_take, defScope sD_m_Book_take, [], []⟩
abbrev sD_m_tell : Stmt := top 4
def d_m_tell : He.DefD := ⟨("tell", none), "tell", "tell", defArgs sD_m_tell, defBody sD_m_tell, defScope sD_m_tell, [], []⟩
abbrev sD_m_Tariff_units : Stmt := (clsBody (top 13)).getD 1 (.Pass ⟨0, 0, 0, 0⟩)
def d_m_Tariff_units : He.DefD := ⟨("Tariff", some "units"), "units", "Tariff.units", defArgs sD_m_Tariff_units, defBody sD_m_Tariff_units, defScope sD_m_Tariff_units, [], []⟩
abbrev sD_m_Tariff_cost : Stmt := (clsBody (top 13)).getD 2 (.Pass ⟨0, 0, 0, 0⟩)
def d_m_Tariff_cost : He.DefD := ⟨("Tariff", some "cost"), "cost", "Tariff.cost", defArgs sD_m_Tariff_cost, defBody sD_m_Tariff_cost, defScope sD_m_Tariff_cost, [], []⟩
abbrev sD_m_judge : Stmt := top 6
def d_m_judge : He.DefD := ⟨("judge", none), "judge", "judge", defArgs sD_m_judge, defBody sD_m_judge, defScope sD_m_judge, [], []⟩
abbrev sD_m_Tariff_init : Stmt := (clsBody (top 13)).getD 0 (.Pass ⟨0, 0, 0, 0⟩)
def d_m_Tariff_init : He.DefD := ⟨("Tariff", some "__init__"), "__init__", "Tariff.__init__", defArgs sD_m_Tariff_init, defBody sD_m_Tariff_init, defScope sD_m_Tariff_init, [], []⟩
abbrev sD_m_law_state : Stmt := top 15
def d_m_law_state : He.DefD := ⟨("_law_state", none), "_law_state", "_law_state", defArgs sD_m_law_state, defBody sD_m_law_state, defScope sD_m_law_state, [], []⟩
abbrev sD_m_law_draw : Stmt := top 16
def d_m_law_draw : He.DefD := ⟨("_law_draw", none), "_law_draw", "_law_draw", defArgs sD_m_law_draw, defBody sD_m_law_draw, defScope sD_m_law_draw, [], []⟩
abbrev sD_m_law_pick : Stmt := top 17
def d_m_law_pick : He.DefD := ⟨("_law_pick", none), "_law_pick", "_law_pick", defArgs sD_m_law_pick, defBody sD_m_law_pick, defScope sD_m_law_pick, [], []⟩
abbrev sD_m_law_event : Stmt := top 18
def d_m_law_event : He.DefD := ⟨("_law_event", none), "_law_event", "_law_event", defArgs sD_m_law_event, defBody sD_m_law_event, defScope sD_m_law_event, [], []⟩
abbrev sD_m_law_stands : Stmt := top 19
def d_m_law_stands : He.DefD := ⟨("_law_stands", none), "_law_stands", "_law_stands", defArgs sD_m_law_stands, defBody sD_m_law_stands, defScope sD_m_law_stands, [], []⟩
abbrev sD_m_law_apply : Stmt := top 20
def d_m_law_apply : He.DefD := ⟨("_law_apply", none), "_law_apply", "_law_apply", defArgs sD_m_law_apply, defBody sD_m_law_apply, defScope sD_m_law_apply, [], []⟩
abbrev sD_m_law_changed_bill : Stmt := top 21
def d_m_law_changed_bill : He.DefD := ⟨("_law_changed_bill", none), "_law_changed_bill", "_law_changed_bill", defArgs sD_m_law_changed_bill, defBody sD_m_law_changed_bill, defScope sD_m_law_changed_bill, [], []⟩
abbrev sD_m_law_bills : Stmt := top 22
def d_m_law_bills : He.DefD := ⟨("_law_bills", none), "_law_bills", "_law_bills", defArgs sD_m_law_bills, defBody sD_m_law_bills, defScope sD_m_law_bills, [], []⟩
abbrev sD_m_law_pending : Stmt := top 23
def d_m_law_pending : He.DefD := ⟨("_law_pending", none), "_law_pending", "_law_pending", defArgs sD_m_law_pending, defBody sD_m_law_pending, defScope sD_m_law_pending, [], []⟩
abbrev sD_m_law_findings : Stmt := top 24
def d_m_law_findings : He.DefD := ⟨("_law_findings", none), "_law_findings", "_law_findings", defArgs sD_m_law_findings, defBody sD_m_law_findings, defScope sD_m_law_findings, [], []⟩
abbrev sD_m_law : Stmt := top 25
def d_m_law : He.DefD := ⟨("law", none), "law", "law", defArgs sD_m_law, defBody sD_m_law, defScope sD_m_law, [], []⟩
abbrev sD_m_ConfigError_init : Stmt := (clsBody (top 9)).getD 0 (.Pass ⟨0, 0, 0, 0⟩)
def d_m_ConfigError_init : He.DefD := ⟨("ConfigError", some "__init__"), "__init__", "ConfigError.__init__", defArgs sD_m_ConfigError_init, defBody sD_m_ConfigError_init, defScope sD_m_ConfigError_init, [], []⟩
def fns : List He.DefD := [d_m_Record_init, d_m_Record_row, d_m_Book_init, d_m_Book_begin, d_m_Book_change, d_m_Book_take, d_m_tell, d_m_Tariff_units, d_m_Tariff_cost, d_m_judge, d_m_Tariff_init, d_m_law_state, d_m_law_draw, d_m_law_pick, d_m_law_event, d_m_law_stands, d_m_law_apply, d_m_law_changed_bill, d_m_law_bills, d_m_law_pending, d_m_law_findings, d_m_law, d_m_ConfigError_init]
def fas0 : List He.Fa := [.free "len", .mkr "Record", .glo "Record", .cls "Book", .meth "Book" "begin", .meth "Book" "change", .mkr "Book", .glo "Book", .meth "Book" "take", .free "enumerate", .cls "Record", .meth "Record" "row", .glo "tell", .cls "Tariff", .meth "Tariff" "cost", .int "MOST_VALUE" (10000), .glo "ConfigError", .int "MOST_BANDS" (8), .free "list", .meth "Tariff" "units", .free "min", .free "int", .free "abs", .glo "_law_draw", .glo "_law_pick", .free "tuple", .glo "_law_changed_bill", .glo "_law_state", .mkr "Tariff", .glo "Tariff", .free "max", .glo "_law_event", .glo "_law_stands", .glo "_law_apply", .free "range", .glo "_law_bills", .glo "_law_pending", .glo "_law_findings", .free "repr", .glo "judge"]
def fas1 : List He.Fa := [.free "isinstance", .noat "Record" "number", .noat "Record" "caller", .noat "Record" "callee", .noat "Record" "begun", .noat "Record" "rang", .noat "Record" "answered", .noat "Record" "ended", .noat "Record" "why", .noat "Record" "modes", .noat "Record" "moves", .noat "Book" "records", .noat "Book" "now", .noat "Tariff" "unit", .noat "Tariff" "bands", .noat "Tariff" "last", .glo "TrunklandError", .glo "law"]
def fas : List He.Fa := fas0 ++ fas1
def ccs : Cs2 := ⟨[("SIDES", [.int 0, .int 1])], [], [fun K => xraB K (He.ga K "ConfigError") (He.fAd K d_m_ConfigError_init.at_) "setting", fun K => tinB K (He.ga K "TrunklandError")]⟩
abbrev R : PySem.W.OpenRow := PySem.W.OpenLaw.row PySem.Challenge.rw_trunkland_k16_judge
def asL : List Nat := ([3, 39, 81, 105, 125, 158, 38, 80, 104, 124, 157, 15, 29, 28, 36, 35, 57, 56, 64, 63, 71, 70, 78, 77, 90, 89, 148, 147, 155, 154, 95, 94, 141, 140, 167, 166, 174, 173, 181, 180, 188, 187, 195, 194, 202, 201, 209, 208, 216, 215, 223, 222, 228, 227, 233, 232, 122, 121, 2] : List Nat)
abbrev hk : PySem.W.Hook := hookA asL fas fns ccs
def ob (s : PySem.W.SharedT) : He.AlD × Bool × DicT := obA asL fas fns ccs (HandSHeadRun.getT s)
theorem ob_eq (s : PySem.W.SharedT) : ob s = hk.obs s.abs := obA_eq (HandSHeadRun.getT_eq s)
def loose : List Str := (["SIDES", "Record", "Book", "tell", "judge", "TrunklandError", "ConfigError", "MOST_BANDS", "MOST_VALUE", "Tariff", "_law_state", "_law_draw"] : List Str) ++ (["_law_pick", "_law_event", "_law_stands", "_law_apply", "_law_changed_bill", "_law_bills", "_law_pending", "_law_findings"] : List Str)
theorem runt (w : World) : HandSHeadRun.RunEq R (PySem.W.view R.prog [25]) hk ob 1854 loose (w.withFollow "special-get-raises" true) := by
  intro os
  kernel_rfl
theorem runf (w : World) : HandSHeadRun.RunEq R (PySem.W.view R.prog [25]) hk ob 1854 loose (w.withFollow "special-get-raises" false) := by
  intro os
  kernel_rfl
theorem run (w : World) : HandSHeadRun.RunEq R (PySem.W.view R.prog [25]) hk ob 1854 loose w := by
  rw [← follow_self w "special-get-raises"]
  generalize w.params.followText "special-get-raises" = b
  cases b
  · exact runf w
  · exact runt w
end Wk
namespace Cn
inductive CV where
  | non | bl (b : Bool) | int (i : Int) | str (s : List Nat) | ref (n : Nat) | tup (xs : List CV) | scr
abbrev CK := Sum Int (List Nat)
inductive CO where
  | lst (xs : List CV) | dK (kvs : List (CK × CV)) | dT (kvs : List (List CK × CV)) | ins (c : Nat) (fs : List (Nat × CV)) | fz (kvs : List (CK × CV))
structure CH where
  sc : List Int
  os : List CO
abbrev CS := List (Option CV)
inductive Res (α : Type) where
  | ok (a : α) (h : CH) | ex (c : Nat) (d : List (Nat × CV)) (h : CH) | bad
inductive SR where
  | nx (s : CS) (h : CH) | rt (v : CV) (h : CH) | bk (s : CS) (h : CH) | ct (s : CS) (h : CH) | ex (c : Nat) (d : List (Nat × CV)) (s : CS) (h : CH) | bad
abbrev ME (α : Type) := CS → CH → Res α
abbrev MS := CS → CH → SR
abbrev Def := List CV → CH → Res CV
abbrev LINE : Nat := 16777216
def B62 : Int := 4611686018427387904

namespace Res
def bind {α β : Type} (r : Res α) (f : α → CH → Res β) : Res β := match r with
  | .ok a h => f a h
  | .ex c d h => .ex c d h
  | .bad => .bad
end Res
theorem bind_ok {α β : Type} (a : α) (h : CH) (f : α → CH → Res β) : (Res.ok a h).bind f = f a h := rfl
theorem bind_ex {α β : Type} (c : Nat) (d : List (Nat × CV)) (h : CH) (f : α → CH → Res β) : (Res.ex c d h : Res α).bind f = .ex c d h := rfl
theorem bind_bad {α β : Type} (f : α → CH → Res β) : (Res.bad : Res α).bind f = .bad := rfl

def CH.new (h : CH) (o : CO) : CH := { h with os := h.os ++ [o] }
def CH.set (h : CH) (n : Nat) (o : CO) : CH := { h with os := h.os.set n o }
def alloc (o : CO) (h : CH) : Res CV := .ok (.ref h.os.length) (h.new o)
def lstOf (h : CH) : CV → Option (List CV)
  | .ref n => match h.os[n]? with
    | some (.lst xs) => some xs
    | _ => none
  | .scr => some (h.sc.map CV.int)
  | _ => none

inductive CD where
  | non | bl (b : Bool) | int (i : Int) | str (s : List Nat) | lst (xs : List CD) | tup (xs : List CD)
mutual
def eqD : CD → CD → Bool
  | .non, .non => true
  | .bl a, .bl b => a == b
  | .bl a, .int j => (if a then 1 else 0) == j
  | .int i, .bl b => i == (if b then 1 else 0)
  | .int i, .int j => i == j
  | .str x, .str y => x == y
  | .lst xs, .lst ys => eqDs xs ys
  | .tup xs, .tup ys => eqDs xs ys
  | _, _ => false
def eqDs : List CD → List CD → Bool
  | [], [] => true
  | x :: xs, y :: ys => eqD x y && eqDs xs ys
  | _, _ => false
end
mutual
def dataC (h : CH) : Nat → CV → Option CD
  | _, .non => some .non
  | _, .bl b => some (.bl b)
  | _, .int i => some (.int i)
  | _, .str s => some (.str s)
  | 0, _ => none
  | f + 1, .tup xs => match dataCs h f xs with
    | some ds => some (.tup ds)
    | none => none
  | f + 1, .ref n => match h.os[n]? with
    | some (.lst xs) => match dataCs h f xs with
      | some ds => some (.lst ds)
      | none => none
    | _ => none
  | _ + 1, .scr => some (.lst (h.sc.map CD.int))
def dataCs (h : CH) : Nat → List CV → Option (List CD)
  | _, [] => some []
  | f, x :: xs => match dataC h f x, dataCs h f xs with
    | some d, some ds => some (d :: ds)
    | _, _ => none
end
def eqV (a b : CV) (h : CH) : Res CV := match dataC h 60 a, dataC h 60 b with
  | some d, some e => .ok (.bl (eqD d e)) h
  | _, _ => .bad
def neV (a b : CV) (h : CH) : Res CV := match dataC h 60 a, dataC h 60 b with
  | some d, some e => .ok (.bl (!eqD d e)) h
  | _, _ => .bad

def addV : CV → CV → CH → Res CV
  | .int i, .int j, h => .ok (.int (i + j)) h
  | .str a, .str b, h => if a.length + b.length ≤ LINE then .ok (.str (a ++ b)) h else .bad
  | .tup a, .tup b, h => if a ≠ [] ∧ b ≠ [] ∧ a.length + b.length ≤ LINE then .ok (.tup (a ++ b)) h else .bad
  | .ref m, .ref n, h => match h.os[m]?, h.os[n]? with
    | some (.lst a), some (.lst b) => if a.length + b.length ≤ LINE then alloc (.lst (a ++ b)) h else .bad
    | _, _ => .bad
  | _, _, _ => .bad
def addI : CV → CV → CH → Res CV
  | .int i, .int j, h => .ok (.int (i + j)) h
  | _, _, _ => .bad
def subV : CV → CV → CH → Res CV
  | .int i, .int j, h => .ok (.int (i - j)) h
  | _, _, _ => .bad
def B64 : Int := 18446744073709551616
def mulV : CV → CV → CH → Res CV
  | .int i, .int j, h => if (-B64 < i ∧ i < B64) ∨ (-B64 < j ∧ j < B64) then .ok (.int (i * j)) h else .bad
  | _, _, _ => .bad
def fdivV : CV → CV → CH → Res CV
  | .int i, .int j, h => if 0 < j ∧ j < 1073741824 then .ok (.int (i / j)) h else .bad
  | _, _, _ => .bad
def modV : CV → CV → CH → Res CV
  | .int i, .int j, h => if 0 < j then .ok (.int (i % j)) h else .bad
  | _, _, _ => .bad
def negV : CV → CH → Res CV
  | .int i, h => .ok (.int (-i)) h
  | _, _ => .bad
def ltV : CV → CV → CH → Res CV
  | .int i, .int j, h => .ok (.bl (decide (i < j))) h
  | _, _, _ => .bad
def leV : CV → CV → CH → Res CV
  | .int i, .int j, h => .ok (.bl (decide (i ≤ j))) h
  | _, _, _ => .bad
def gtV : CV → CV → CH → Res CV
  | .int i, .int j, h => .ok (.bl (decide (j < i))) h
  | _, _, _ => .bad
def geV : CV → CV → CH → Res CV
  | .int i, .int j, h => .ok (.bl (decide (j ≤ i))) h
  | _, _, _ => .bad
def isNon : CV → Bool
  | .non => true
  | _ => false
def isNV (a : CV) (h : CH) : Res CV := .ok (.bl (isNon a)) h
def notNV (a : CV) (h : CH) : Res CV := .ok (.bl (!isNon a)) h
def flatC : CV → Bool
  | .non => true | .bl _ => true | .int _ => true | .str _ => true
  | _ => false
def eqF : CV → CV → Bool
  | .non, .non => true
  | .bl a, .bl b => a == b
  | .bl a, .int b => (if a then 1 else 0) == b
  | .int a, .bl b => a == (if b then 1 else 0)
  | .int a, .int b => a == b
  | .str a, .str b => a == b
  | _, _ => false
def seqOf (h : CH) : CV → Option (List CV)
  | .tup ys => some ys
  | y => lstOf h y
def inB (x y : CV) (h : CH) : Option Bool := match x, y with
  | .str [c], .str z => some (decide (c ∈ z))
  | x, y => match seqOf h y with
    | some ys => if flatC x && ys.all flatC then some (ys.any fun y => eqF y x) else none
    | none => none
def inV (a b : CV) (h : CH) : Res CV := match inB a b h with
  | some k => .ok (.bl k) h
  | none => .bad
def ninV (a b : CV) (h : CH) : Res CV := match inB a b h with
  | some k => .ok (.bl (!k)) h
  | none => .bad

def ixC (n : Nat) (i : Int) : Option Nat := if 0 ≤ i then (if i < n then some i.toNat else none) else if -(n : Int) ≤ i then some (i + n).toNat else none
def atC {α : Type} (xs : List α) (i : Int) : Option α := (ixC xs.length i).bind fun j => xs[j]?
def ixV : CV → CV → CH → Res CV
  | .tup xs, .int i, h => match atC xs i with
    | some v => .ok v h
    | none => .bad
  | .str z, .int i, h => if z.length ≤ LINE then (match atC z i with
    | some c => .ok (.str [c]) h
    | none => .bad) else .bad
  | x, .int i, h => match lstOf h x with
    | some xs => (match atC xs i with
      | some v => .ok v h
      | none => .bad)
    | none => .bad
  | _, _, _ => .bad
def sixC (n d : Nat) : Option Int → Nat
  | none => d
  | some v => (if v < 0 then max (v + (n : Int)) 0 else min v (n : Int)).toNat
def cutC {α : Type} (xs : List α) (lo hi : Option Int) : List α := (xs.drop (sixC xs.length 0 lo)).take (sixC xs.length xs.length hi - sixC xs.length 0 lo)
def sliceV (x : CV) (lo hi : Option Int) (h : CH) : Res CV := match x with
  | .str z => if z.length ≤ LINE then .ok (.str (cutC z lo hi)) h else .bad
  | .tup xs => if (cutC xs lo hi).length < xs.length then .ok (.tup (cutC xs lo hi)) h else .bad
  | _ => match lstOf h x with
    | some xs => alloc (.lst (cutC xs lo hi)) h
    | none => .bad
def setIxV (x i v : CV) (h : CH) : Option CH := match x, i with
  | .ref n, .int k => (match h.os[n]? with
    | some (.lst xs) => (match ixC xs.length k with
      | some j => some (h.set n (.lst (xs.set j v)))
      | none => none)
    | _ => none)
  | _, _ => none

def lenV : Def := fun cs h => match cs with
  | [.str z] => if z.length ≤ LINE then .ok (.int z.length) h else .bad
  | [.tup xs] => .ok (.int xs.length) h
  | [x] => match lstOf h x with
    | some xs => .ok (.int xs.length) h
    | none => .bad
  | _ => .bad
def absV : Def := fun cs h => match cs with
  | [.int i] => .ok (.int (if i < 0 then -i else i)) h
  | _ => .bad
def numC (n : Nat) : List Nat := (Nat.toDigits 10 n).map Char.toNat
def strI (i : Int) : List Nat := if i < 0 then 45 :: numC (-i).toNat else numC i.toNat
def strV : Def := fun cs h => match cs with
  | [.int i] => if 0 ≤ i ∧ i < 1000000000000000000000000000000 then .ok (.str (numC i.toNat)) h else .bad
  | _ => .bad
def digsVal (l : List Nat) : Nat := l.foldl (fun acc c => acc * 10 + (c - 48)) 0
def intV : Def := fun cs h => match cs with
  | [.int i] => .ok (.int i) h
  | [.bl b] => .ok (.int (if b then 1 else 0)) h
  | [.str z] => if z ≠ [] ∧ z.length ≤ 640 ∧ z.all (fun c => decide (48 ≤ c ∧ c ≤ 57)) then .ok (.int (digsVal z)) h else .bad
  | _ => .bad
def kindO : Option CO → Nat
  | some (.lst _) => 5
  | some (.dK _) => 6
  | some (.dT _) => 6
  | some (.ins _ _) => 7
  | some (.fz _) => 8
  | none => 8
def kindC (x : CV) (h : CH) : Nat := match x with
  | .non => 0 | .bl _ => 1 | .int _ => 2 | .str _ => 3 | .tup _ => 4 | .scr => 5
  | .ref n => kindO h.os[n]?
def isiV (k : Nat) (x : CV) (h : CH) : Res CV := if kindC x h < 7 then .ok (.bl (kindC x h == k)) h else .bad

def joinC (sep : List Nat) : List (List Nat) → List Nat
  | [] => []
  | [x] => x
  | x :: y :: r => x ++ sep ++ joinC sep (y :: r)
def strsOf : List CV → Option (List (List Nat))
  | [] => some []
  | .str x :: r => match strsOf r with
    | some ys => some (x :: ys)
    | none => none
  | _ => none
def joinV : Def := fun cs h => match cs with
  | [.str a, y] => (match seqOf h y with
    | some xs => (match strsOf xs with
      | some zs => if (zs.map (·.length)).sum + zs.length * a.length ≤ LINE then .ok (.str (joinC a zs)) h else .bad
      | none => .bad)
    | none => .bad)
  | _ => .bad
def partC (c : Nat) : List Nat → Option (List Nat × List Nat)
  | [] => none
  | x :: r => if x = c then some ([], r) else match partC c r with
    | some (a, b) => some (x :: a, b)
    | none => none
def partitionV : Def := fun cs h => match cs with
  | [.str a, .str [c]] => if a.length ≤ LINE ∧ c < 256 then (match partC c a with
    | some (x, y) => .ok (.tup [.str x, .str [c], .str y]) h
    | none => .ok (.tup [.str a, .str [], .str []]) h) else .bad
  | _ => .bad
def rpartC (c : Nat) : List Nat → Option (List Nat × List Nat)
  | [] => none
  | x :: r => match rpartC c r with
    | some (a, b) => some (x :: a, b)
    | none => if x = c then some ([], r) else none
def rpartitionV : Def := fun cs h => match cs with
  | [.str a, .str [c]] => if a.length ≤ LINE ∧ c < 256 then (match rpartC c a with
    | some (x, y) => .ok (.tup [.str x, .str [c], .str y]) h
    | none => .ok (.tup [.str [], .str [], .str a]) h) else .bad
  | _ => .bad
def ordV : Def := fun cs h => match cs with
  | [.str [c]] => .ok (.int c) h
  | _ => .bad
def countV : Def := fun cs h => match cs with
  | [.str a, .str [c]] => if a.length ≤ LINE then .ok (.int (a.count c)) h else .bad
  | _ => .bad
def indexV : Def := fun cs h => match cs with
  | [.str a, .str [c]] => if a.length ≤ LINE ∧ c ∈ a then .ok (.int (a.idxOf c)) h else .bad
  | _ => .bad
def appendV : Def := fun cs h => match cs with
  | [.ref n, v] => (match h.os[n]? with
    | some (.lst xs) => if xs.length < LINE then .ok .non (h.set n (.lst (xs ++ [v]))) else .bad
    | _ => .bad)
  | _ => .bad
def popAtV : Def := fun cs h => match cs with
  | [.ref n, .int i] => (match h.os[n]? with
    | some (.lst xs) => if 0 ≤ i ∧ i < xs.length ∧ i < B62 then (match xs[i.toNat]? with
      | some v => .ok v (h.set n (.lst (xs.eraseIdx i.toNat)))
      | none => .bad) else .bad
    | _ => .bad)
  | _ => .bad
def popV : Def := fun cs h => match cs with
  | [.ref n] => (match h.os[n]? with
    | some (.lst xs) => (match xs[xs.length - 1]? with
      | some v => .ok v (h.set n (.lst xs.dropLast))
      | none => .bad)
    | _ => .bad)
  | _ => .bad

def minV : Def := fun cs h => match cs with
  | [.int i, .int j] => .ok (.int (if j < i then j else i)) h
  | _ => .bad
def maxV : Def := fun cs h => match cs with
  | [.int i, .int j] => .ok (.int (if j > i then j else i)) h
  | _ => .bad
def listV : Def := fun cs h => match cs with
  | [x] => (match seqOf h x with
    | some xs => alloc (.lst xs) h
    | none => .bad)
  | _ => .bad
def tupV : Def := fun cs h => match cs with
  | [x] => (match seqOf h x with
    | some xs => .ok (.tup xs) h
    | none => .bad)
  | _ => .bad
def extendV : Def := fun cs h => match cs with
  | [.ref n, .ref m] => (match h.os[n]?, h.os[m]? with
    | some (.lst xs), some (.lst ys) => if xs.length + ys.length ≤ LINE then .ok .non (h.set n (.lst (xs ++ ys))) else .bad
    | _, _ => .bad)
  | _ => .bad
def clearV : Def := fun cs h => match cs with
  | [.ref n] => (match h.os[n]? with
    | some (.lst _) => .ok .non (h.set n (.lst []))
    | _ => .bad)
  | _ => .bad
def splC (c : Nat) : List Nat → List (List Nat)
  | [] => [[]]
  | x :: r => if x = c then [] :: splC c r else match splC c r with
    | p :: ps => (x :: p) :: ps
    | [] => [[x]]
def splitV : Def := fun cs h => match cs with
  | [.str a, .str [c]] => if a.length + 2 ≤ LINE ∧ c < 256 then alloc (.lst ((splC c a).map CV.str)) h else .bad
  | _ => .bad
def swV : Def := fun cs h => match cs with
  | [.str a, .str b] => .ok (.bl (b.isPrefixOf a)) h
  | _ => .bad

def keyOf : CV → Option CK
  | .int i => some (.inl i)
  | .str s => some (.inr s)
  | _ => none
def keysOf : List CV → Option (List CK)
  | [] => some []
  | x :: r => match keyOf x, keysOf r with
    | some k, some ks => some (k :: ks)
    | _, _ => none
def valC {κ : Type} [DecidableEq κ] (kvs : List (κ × CV)) (k : κ) : Option CV := (kvs.find? fun kv => decide (kv.1 = k)).map (·.2)
def putD {κ : Type} [DecidableEq κ] (kvs : List (κ × CV)) (k : κ) (v : CV) : List (κ × CV) :=
  if (kvs.any fun kv => decide (kv.1 = k)) = true then kvs.map (fun kv => if kv.1 = k then (kv.1, v) else kv) else kvs ++ [(k, v)]
def dGet (d y : CV) (h : CH) : Option (Option CV) := match d with
  | .ref n => (match h.os[n]? with
    | some (.dK kvs) => (match keyOf y with
      | some k => some (valC kvs k)
      | none => none)
    | some (.fz kvs) => (match keyOf y with
      | some k => some (valC kvs k)
      | none => none)
    | some (.dT kvs) => (match y with
      | .tup xs => (match keysOf xs with
        | some ks => some (valC kvs ks)
        | none => none)
      | _ => none)
    | _ => none)
  | _ => none
def dPut (d y v : CV) (h : CH) : Option CH := match d with
  | .ref n => (match h.os[n]? with
    | some (.dK kvs) => (match keyOf y with
      | some k => if kvs.length < LINE then some (h.set n (.dK (putD kvs k v))) else none
      | none => none)
    | some (.dT kvs) => (match y with
      | .tup xs => (match keysOf xs with
        | some ks => if kvs.length < LINE then some (h.set n (.dT (putD kvs ks v))) else none
        | none => none)
      | _ => none)
    | _ => none)
  | _ => none
def dixV (d y : CV) (h : CH) : Res CV := match dGet d y h with
  | some (some v) => .ok v h
  | _ => .bad
def dinV (y d : CV) (h : CH) : Res CV := match dGet d y h with
  | some o => .ok (.bl o.isSome) h
  | none => .bad
def dninV (y d : CV) (h : CH) : Res CV := match dGet d y h with
  | some o => .ok (.bl (!o.isSome)) h
  | none => .bad
def isD (d : CV) (h : CH) : Bool := match d with
  | .ref n => (match h.os[n]? with
    | some (.dK _) => true
    | some (.dT _) => true
    | some (.fz _) => true
    | _ => false)
  | _ => false

def eVar (i : Nat) : ME CV := fun s h => match s[i]? with
  | some (some c) => .ok c h
  | _ => .bad
def eC (c : CV) : ME CV := fun _ h => .ok c h
def e1 (f : CV → CH → Res CV) (a : ME CV) : ME CV := fun s h => (a s h).bind f
def e2 (f : CV → CV → CH → Res CV) (a b : ME CV) : ME CV := fun s h => (a s h).bind fun x h1 => (b s h1).bind fun y h2 => f x y h2
def aNil : ME (List CV) := fun _ h => .ok [] h
def aCons (a : ME CV) (r : ME (List CV)) : ME (List CV) := fun s h => (a s h).bind fun x h1 => (r s h1).bind fun xs h2 => .ok (x :: xs) h2
def eCall (f : Def) (as : ME (List CV)) : ME CV := fun s h => (as s h).bind f
def eBM (k : Nat) (f : Def) (o : ME CV) (as : ME (List CV)) : ME CV := fun s h => (o s h).bind fun x h1 => if kindC x h1 = k then (as s h1).bind fun xs h2 => f (x :: xs) h2 else .bad
def eTup (as : ME (List CV)) : ME CV := fun s h => (as s h).bind fun xs h1 => if xs.length ≤ LINE then .ok (.tup xs) h1 else .bad
def eLst (as : ME (List CV)) : ME CV := fun s h => (as s h).bind fun xs h1 => if xs.length ≤ LINE then alloc (.lst xs) h1 else .bad
def oNone : ME (Option Int) := fun _ h => .ok none h
def oSome (a : ME CV) : ME (Option Int) := fun s h => (a s h).bind fun x h1 => match x with
  | .int i => .ok (some i) h1
  | _ => .bad
def eSlice (a : ME CV) (lo hi : ME (Option Int)) : ME CV := fun s h => (a s h).bind fun x h1 => (lo s h1).bind fun l h2 => (hi s h2).bind fun u h3 => sliceV x l u h3
def tV (a : ME CV) : ME Bool := fun s h => (a s h).bind fun x h1 => match x with
  | .bl b => .ok b h1
  | _ => .bad
def tAnd (a b : ME Bool) : ME Bool := fun s h => (a s h).bind fun k h1 => if k then b s h1 else .ok false h1
def tOr (a b : ME Bool) : ME Bool := fun s h => (a s h).bind fun k h1 => if k then .ok true h1 else b s h1
def tNot (a : ME Bool) : ME Bool := fun s h => (a s h).bind fun k h1 => .ok (!k) h1
def eIf (t : ME Bool) (a b : ME CV) : ME CV := fun s h => (t s h).bind fun k h1 => if k then a s h1 else b s h1
def eAnd (a b : ME CV) : ME CV := fun s h => (a s h).bind fun x h1 => match x with
  | .bl true => b s h1
  | .bl false => .ok (.bl false) h1
  | _ => .bad
def eOr (a b : ME CV) : ME CV := fun s h => (a s h).bind fun x h1 => match x with
  | .bl true => .ok (.bl true) h1
  | .bl false => b s h1
  | _ => .bad
def eNot (a : ME CV) : ME CV := fun s h => (a s h).bind fun x h1 => match x with
  | .bl k => .ok (.bl (!k)) h1
  | _ => .bad
def eChain (f g : CV → CV → CH → Res CV) (a b c : ME CV) : ME CV := fun s h => (a s h).bind fun x h1 => (b s h1).bind fun y h2 => (f x y h2).bind fun z h3 => match z with
  | .bl true => (c s h3).bind fun w h4 => g y w h4
  | .bl false => .ok (.bl false) h3
  | _ => .bad

def rBind {α : Type} (r : Res α) (s : CS) (f : α → CH → SR) : SR := match r with
  | .ok a h => f a h
  | .ex c d h => .ex c d s h
  | .bad => .bad
def sNil : MS := fun s h => .nx s h
def sSeq (a b : MS) : MS := fun s h => match a s h with
  | .nx s1 h1 => b s1 h1
  | r => r
def sE (a : ME CV) : MS := fun s h => rBind (a s h) s fun _ h1 => .nx s h1
def sRet (a : ME CV) : MS := fun s h => rBind (a s h) s fun x h1 => .rt x h1
def sRetN : MS := fun _ h => .rt .non h
def sSet (i : Nat) (a : ME CV) : MS := fun s h => rBind (a s h) s fun x h1 => .nx (s.set i (some x)) h1
def sIf (t : ME Bool) (a b : MS) : MS := fun s h => rBind (t s h) s fun k h1 => if k then a s h1 else b s h1
def sCont : MS := fun s h => .ct s h
abbrev MG := CV → CS → CH → Option (CS × CH)
def gSet (i : Nat) : MG := fun v s h => some (s.set i (some v), h)
abbrev MGs := List CV → CS → CH → Option (CS × CH)
def gsNil : MGs := fun vs s h => match vs with
  | [] => some (s, h)
  | _ => none
def gsCons (a : MG) (r : MGs) : MGs := fun vs s h => match vs with
  | v :: vs => (match a v s h with
    | some (s1, h1) => r vs s1 h1
    | none => none)
  | [] => none
def gTup (n : Nat) (g : MGs) : MG := fun v s h => match v with
  | .tup xs => if xs.length = n then g xs s h else none
  | _ => none
def sAsg (a : ME CV) (g : MG) : MS := fun s h => rBind (a s h) s fun x h1 => match g x s h1 with
  | some (s1, h2) => .nx s1 h2
  | none => .bad
def sSetIx (v o i : ME CV) : MS := fun s h => rBind (v s h) s fun x h1 => rBind (o s h1) s fun y h2 => rBind (i s h2) s fun z h3 => match setIxV y z x h3 with
  | some h4 => .nx s h4
  | none => .bad
def sWhile (t : ME Bool) (b : MS) : Nat → MS
  | 0, _, _ => .bad
  | n + 1, s, h => rBind (t s h) s fun k h1 => if k then (match b s h1 with
    | .nx s2 h2 => sWhile t b n s2 h2
    | .ct s2 h2 => sWhile t b n s2 h2
    | .bk s2 h2 => .nx s2 h2
    | r => r) else .nx s h1
def itemAt (x : CV) (i : Nat) (h : CH) : Option (Option CV) := match x with
  | .tup xs => some xs[i]?
  | .str z => some (z[i]?.map fun c => .str [c])
  | x => match lstOf h x with
    | some xs => some xs[i]?
    | none => none
def lenAt (x : CV) (h : CH) : Nat := match x with
  | .tup xs => xs.length
  | .str z => z.length
  | x => match lstOf h x with
    | some xs => xs.length
    | none => 0
def forLoop (x : CV) (g : MG) (b : MS) : Nat → Nat → MS
  | 0, _, _, _ => .bad
  | n + 1, i, s, h => match itemAt x i h with
    | none => .bad
    | some none => .nx s h
    | some (some v) => match g v s h with
      | none => .bad
      | some (s1, h1) => match b s1 h1 with
        | .nx s2 h2 => forLoop x g b n (i + 1) s2 h2
        | .ct s2 h2 => forLoop x g b n (i + 1) s2 h2
        | .bk s2 h2 => .nx s2 h2
        | r => r
def sFor (a : ME CV) (g : MG) (b : MS) : MS := fun s h => rBind (a s h) s fun x h1 => forLoop x g b (lenAt x h1 + 1) 0 s h1
def rngLoop (lo : Int) (g : MG) (b : MS) : Nat → Nat → MS
  | 0, _, s, h => .nx s h
  | n + 1, i, s, h => match g (.int (lo + i)) s h with
    | none => .bad
    | some (s1, h1) => match b s1 h1 with
      | .nx s2 h2 => rngLoop lo g b n (i + 1) s2 h2
      | .ct s2 h2 => rngLoop lo g b n (i + 1) s2 h2
      | .bk s2 h2 => .nx s2 h2
      | r => r
def sForR1 (a : ME CV) (g : MG) (b : MS) : MS := fun s h => rBind (a s h) s fun x h1 => match x with
  | .int j => if -B62 ≤ j ∧ j < B62 then rngLoop 0 g b j.toNat 0 s h1 else .bad
  | _ => .bad
def sForR2 (a a2 : ME CV) (g : MG) (b : MS) : MS := fun s h => rBind (a s h) s fun x h1 => rBind (a2 s h1) s fun y h2 => match x, y with
  | .int i, .int j => if -B62 ≤ i ∧ i < B62 ∧ -B62 ≤ j ∧ j < B62 then rngLoop i g b (j - i).toNat 0 s h2 else .bad
  | _, _ => .bad

def wipeC (s : CS) : List Nat → CS
  | [] => s
  | v :: vs => (wipeC s vs).set v none
def lcTurn (D : Nat) (g : MG) (t : ME Bool) (e : ME CV) (v : CV) (s : CS) (h : CH) : Option CH := match g v s h with
  | none => none
  | some (s1, h1) => match t s1 h1 with
    | .ok false h2 => some h2
    | .ok true h2 => (match e s1 h2 with
      | .ok x h3 => (match h3.os[D]? with
        | some (.lst xs) => if xs.length < LINE then some (h3.set D (.lst (xs ++ [x]))) else none
        | _ => none)
      | _ => none)
    | _ => none
def lcLoop (x : CV) (D : Nat) (g : MG) (t : ME Bool) (e : ME CV) (s : CS) : Nat → Nat → CH → Option CH
  | 0, _, _ => none
  | n + 1, i, h => match itemAt x i h with
    | none => none
    | some none => some h
    | some (some v) => match lcTurn D g t e v s h with
      | none => none
      | some h1 => lcLoop x D g t e s n (i + 1) h1
def eComp (own : List Nat) (a : ME CV) (g : MG) (t : ME Bool) (e : ME CV) : ME CV := fun s h => (a s h).bind fun x h1 =>
  match lcLoop x h1.os.length g t e (wipeC s own) (lenAt x h1 + 1) 0 (h1.new (.lst [])) with
  | some h2 => .ok (.ref h1.os.length) h2
  | none => .bad
def lcRng (lo : Int) (D : Nat) (g : MG) (t : ME Bool) (e : ME CV) (s : CS) : Nat → Nat → CH → Option CH
  | 0, _, h => some h
  | n + 1, i, h => match lcTurn D g t e (.int (lo + i)) s h with
    | none => none
    | some h1 => lcRng lo D g t e s n (i + 1) h1
def eCompR (own : List Nat) (a : ME CV) (g : MG) (t : ME Bool) (e : ME CV) : ME CV := fun s h => (a s h).bind fun x h1 => match x with
  | .int j => if -B62 ≤ j ∧ j < B62 then (match lcRng 0 h1.os.length g t e (wipeC s own) j.toNat 0 (h1.new (.lst [])) with
    | some h2 => .ok (.ref h1.os.length) h2
    | none => .bad) else .bad
  | _ => .bad
def tYes : ME Bool := fun _ h => .ok true h

def eNewD (o : CO) : ME CV := fun _ h => alloc o h
def eDGet1 (d y : ME CV) : ME CV := fun s h => (d s h).bind fun x h1 => if isD x h1 then (y s h1).bind fun k h2 => (match dGet x k h2 with
  | some o => .ok (o.getD .non) h2
  | none => .bad) else .bad
def eDGet2 (d y z : ME CV) : ME CV := fun s h => (d s h).bind fun x h1 => if isD x h1 then (y s h1).bind fun k h2 => (z s h2).bind fun w h3 => (match dGet x k h3 with
  | some o => .ok (o.getD w) h3
  | none => .bad) else .bad
def sDPut (v d y : ME CV) : MS := fun s h => rBind (v s h) s fun u h1 => rBind (d s h1) s fun x h2 => rBind (y s h2) s fun k h3 => match dPut x k u h3 with
  | some h4 => .nx s h4
  | none => .bad

def lookC (k : Nat) : List (Nat × CV) → Option CV
  | [] => none
  | (j, v) :: r => if j = k then some v else lookC k r
def putC (k : Nat) (v : CV) : List (Nat × CV) → List (Nat × CV)
  | [] => [(k, v)]
  | (j, x) :: r => if j = k then (j, v) :: r else (j, x) :: putC k v r
def insC (x : CV) (h : CH) : Option (Nat × Nat × List (Nat × CV)) := match x with
  | .ref n => (match h.os[n]? with
    | some (.ins c fs) => some (n, c, fs)
    | _ => none)
  | _ => none
def getF (cs : List Nat) (k : Nat) (x : CV) (h : CH) : Option CV := match insC x h with
  | some (_, c, fs) => if c ∈ cs then lookC k fs else none
  | none => none
def eFld (cs : List Nat) (k : Nat) (a : ME CV) : ME CV := fun s h => (a s h).bind fun x h1 => match getF cs k x h1 with
  | some v => .ok v h1
  | none => .bad
def setF (cs : List Nat) (k : Nat) (v x : CV) (h : CH) : Option CH := match insC x h with
  | some (n, c, fs) => if c ∈ cs ∧ fs.length < 800 then some (h.set n (.ins c (putC k v fs))) else none
  | none => none
def sFld (cs : List Nat) (k : Nat) (o v : ME CV) : MS := fun s h => rBind (v s h) s fun y h1 => rBind (o s h1) s fun x h2 => match setF cs k y x h2 with
  | some h3 => .nx s h3
  | none => .bad
def sameC (x : CV) (h h3 : CH) : Bool := match insC x h, insC x h3 with
  | some (_, c, _), some (_, d, _) => c == d
  | _, _ => false
def sFldAug (f : CV → CV → CH → Res CV) (cs : List Nat) (k : Nat) (o v : ME CV) : MS := fun s h => rBind (o s h) s fun x h1 => match getF cs k x h1 with
  | some u => rBind (v s h1) s fun y h2 => rBind (f u y h2) s fun z h3 => if sameC x h1 h3 then (match setF cs k z x h3 with
    | some h4 => .nx s h4
    | none => .bad) else .bad
  | none => .bad
def sAug (f : CV → CV → CH → Res CV) (i : Nat) (a : ME CV) : MS := fun s h => match s[i]? with
  | some (some u) => rBind (a s h) s fun y h1 => rBind (f u y h1) s fun z h2 => .nx (s.set i (some z)) h2
  | _ => .bad
def lookD (c : Nat) : List (Nat × Def) → Option Def
  | [] => none
  | (d, f) :: r => if d = c then some f else lookD c r
def hasF (nf : Option Nat) (fs : List (Nat × CV)) : Bool := match nf with
  | none => false
  | some k => (lookC k fs).isSome
def methC (tb : List (Nat × Def)) (nf : Option Nat) (x : CV) (h : CH) : Option Def := match insC x h with
  | some (_, c, fs) => if hasF nf fs then none else lookD c tb
  | none => none
def eMeth (tb : List (Nat × Def)) (nf : Option Nat) (o : ME CV) (as : ME (List CV)) : ME CV := fun s h => (o s h).bind fun x h1 => match methC tb nf x h1 with
  | some f => (as s h1).bind fun xs h2 => f (x :: xs) h2
  | none => .bad
def aApp (a b : ME (List CV)) : ME (List CV) := fun s h => (a s h).bind fun xs h1 => (b s h1).bind fun ys h2 => .ok (xs ++ ys) h2
def gsel {α : Type} (pos : List Nat) (vs ds zs : List α) : List α := pos.filterMap fun p => (vs ++ (ds ++ zs))[p]?
def re (g : List CV → List CV) (f : Def) : Def := fun cs h => f (g cs) h
def mkC (c : Nat) (f : Def) : Def := fun xs h => (f (.ref h.os.length :: xs) (h.new (.ins c []))).bind fun r h2 => match r with
  | .non => .ok (.ref h.os.length) h2
  | _ => .bad
def eMake (c : Nat) (f : Def) (as : ME (List CV)) : ME CV := eCall (mkC c f) as

def inC (xs : List CV) (x : CV) (h : CH) : Res CV := inV x (.tup xs) h
def ninC (xs : List CV) (x : CV) (h : CH) : Res CV := ninV x (.tup xs) h
def sNever : MS := fun _ _ => .bad
def sRaise (c k : Nat) (e : ME CV) : MS := fun _ _ => .bad

def runD (n k : Nat) (b : MS) : Def := fun vs h => if vs.length = k then (match b (vs.map some ++ List.replicate (n - vs.length) none) h with
  | .nx _ h1 => .ok .non h1
  | .rt v h1 => .ok v h1
  | .ex c d _ h1 => .ex c d h1
  | _ => .bad) else .bad
end Cn
set_option Elab.async false
set_option linter.all false
namespace Cn
def metStep {α : Type} [DecidableEq α] (s : List α) (z : α) : List α := if z ∈ s then s else z :: s
def met {α : Type} [DecidableEq α] (zs : List α) : List α := zs.foldl metStep []
def lsetV (x : CV) (h : CH) : Res CV := match lstOf h x with
  | some xs => match strsOf xs with
    | some zs => if zs.length < 4000 then .ok (.int (met zs).length) h else .bad
    | none => .bad
  | none => .bad
section
variable {α : Type} [DecidableEq α]
theorem met_add (zs : List α) (z : α) : met (zs ++ [z]) = metStep (met zs) z := by simp [met, List.foldl_append]
theorem mem_met {z : α} (zs : List α) : z ∈ met zs ↔ z ∈ zs := by
  have : ∀ (zs s : List α), z ∈ zs.foldl metStep s ↔ z ∈ s ∨ z ∈ zs := by
    intro zs
    induction zs with
    | nil => simp
    | cons y r ih =>
      intro s
      rw [List.foldl_cons, ih]
      unfold metStep
      by_cases c : y ∈ s
      · rw [if_pos c]; constructor
        · rintro (a | a); exact .inl a; exact .inr (List.mem_cons_of_mem _ a)
        · rintro (a | a); exact .inl a
          rcases List.mem_cons.mp a with rfl | a
          · exact .inl c
          · exact .inr a
      · rw [if_neg c]; simp only [List.mem_cons]; exact ⟨fun x => by rcases x with (a | a) | a <;> simp [a], fun x => by rcases x with a | a | a <;> simp [a]⟩
  simpa [met] using this zs []
theorem met_len (zs : List α) : (met zs).length ≤ zs.length := by
  have : ∀ (zs s : List α), (zs.foldl metStep s).length ≤ s.length + zs.length := by
    intro zs
    induction zs with
    | nil => simp
    | cons y r ih =>
      intro s
      rw [List.foldl_cons]
      have := ih (metStep s y)
      have : (metStep s y).length ≤ s.length + 1 := by unfold metStep; split <;> simp
      simp; omega
  simpa [met] using this zs []
theorem met_map {β : Type} [DecidableEq β] (f : α → β) (inj : ∀ a b, f a = f b → a = b) (zs : List α) : met (zs.map f) = (met zs).map f := by
  have : ∀ (zs s : List α), (zs.map f).foldl metStep (s.map f) = (zs.foldl metStep s).map f := by
    intro zs
    induction zs with
    | nil => simp
    | cons y r ih =>
      intro s
      have e : metStep (s.map f) (f y) = (metStep s y).map f := by
        unfold metStep
        by_cases c : y ∈ s
        · rw [if_pos c, if_pos (List.mem_map_of_mem c)]
        · rw [if_neg c, if_neg (fun m => by obtain ⟨a, ma, ea⟩ := List.mem_map.mp m; exact c (inj _ _ ea ▸ ma))]; rfl
      rw [List.map_cons, List.foldl_cons, e, ih]; rfl
  simpa [met] using this zs []
end
def keyAt (kvs : List (List Nat × List CV)) (z : List Nat) : Option (List CV) := (kvs.find? fun q => q.1 == z).map Prod.snd
def dicC (kvs : List (List Nat × List CV)) (x : CV) (h : CH) : Res CV := match x with
  | .str z => match keyAt kvs z with
    | some vs => .ok (.tup vs) h
    | none => .bad
  | _ => .bad
def dicIC (kvs : List (List Nat × List CV)) (i : Nat) (x : CV) (h : CH) : Res CV := match x with
  | .str z => match keyAt kvs z with
    | some vs => match vs[i]? with
      | some c => .ok c h
      | none => .bad
    | none => .bad
  | _ => .bad
def kinC (neg : Bool) (kvs : List (List Nat × List CV)) (x : CV) (h : CH) : Res CV := match x with
  | .str z => .ok (.bl (cond neg (!(keyAt kvs z).isSome) (keyAt kvs z).isSome)) h
  | _ => .bad
def sRaiseX (c k : Nat) (e : ME CV) : MS := fun s h => match e s h with
  | .ok v h1 => .ex c [(k, v)] s h1
  | .ex c2 d h1 => .ex c2 d s h1
  | .bad => .bad
def sTry (c : Nat) (b : MS) (hd : List (Nat × CV) → MS) : MS := fun s h => match b s h with
  | .ex c2 d s1 h1 => if c2 = c then hd d s1 h1 else .bad
  | r => r
def sAs (i : Nat) (m : MS) : MS := fun s h => if i < s.length then (match m (s.set i none) h with
  | .nx s2 h2 => .nx (s2.set i none) h2
  | .ct s2 h2 => .ct (s2.set i none) h2
  | .bk s2 h2 => .bk (s2.set i none) h2
  | .rt v h2 => .rt v h2
  | _ => .bad) else .bad
def eExc (d : List (Nat × CV)) (k : Nat) : ME CV := fun _ h => match lookC k d with
  | some v => .ok v h
  | none => .bad
def blsOf : List CV → Option (List Bool)
  | [] => some []
  | .bl b :: r => (blsOf r).map (b :: ·)
  | _ :: _ => none
def allV : Def := fun args h => match args with
  | [x] => match (lstOf h x).bind blsOf with
    | some bs => .ok (.bl (bs.all id)) h
    | none => .bad
  | _ => .bad
def lcntV : Def := fun args h => match args with
  | [x, .str k] => match (lstOf h x).bind strsOf with
    | some zs => .ok (.int (zs.count k : Nat)) h
    | none => .bad
  | _ => .bad
end Cn
namespace Cn
def insertV : Def := fun cs h => match cs with
  | [.ref n, .int i, v] => (match h.os[n]? with
    | some (.lst xs) => if xs.length < LINE ∧ 0 ≤ i ∧ i < B62 then .ok .non (h.set n (.lst (xs.take i.toNat ++ [v] ++ xs.drop i.toNat))) else .bad
    | _ => .bad)
  | _ => .bad
def lindexV : Def := fun args h => match args with
  | [x, .str k] => match (lstOf h x).bind strsOf with
    | some zs => if k ∈ zs then .ok (.int (zs.idxOf k : Nat)) h else .bad
    | none => .bad
  | _ => .bad
def dispGo : List (List Nat × ME CV) → ME (List CV)
  | [] => fun _ h => .ok [] h
  | q :: r => fun s h => (q.2 s h).bind fun x h1 => (dispGo r s h1).bind fun xs h2 => .ok (x :: xs) h2
def putsD : List (CK × CV) → List CK → List CV → List (CK × CV)
  | acc, k :: ks, x :: xs => putsD (putD acc k x) ks xs
  | acc, _, _ => acc
def eDisp (kvs : List (List Nat × ME CV)) : ME CV := fun s h => (dispGo kvs s (h.new (.dK []))).bind fun xs h2 => match h2.os[h.os.length]? with
  | some (.dK []) => .ok (.ref h.os.length) (h2.set h.os.length (.dK (putsD [] (kvs.map fun q => .inr q.1) xs)))
  | _ => .bad
def intsOf : List CV → Option (List Int)
  | [] => some []
  | .int i :: r => (intsOf r).map (i :: ·)
  | _ :: _ => none
def maxI : Int → List Int → Int
  | a, [] => a
  | a, x :: r => maxI (if a < x then x else a) r
def maxLV : Def := fun args h => match args with
  | [x] => match (lstOf h x).bind intsOf with
    | some (a :: r) => .ok (.int (maxI a r)) h
    | _ => .bad
  | _ => .bad
def keysI : List (CK × CV) → Option (List Int)
  | [] => some []
  | (.inl i, _) :: r => (keysI r).map (i :: ·)
  | _ :: _ => none
def sortI (l : List Int) : List Int := l.mergeSort fun a b => decide (a ≤ b)
def sortDV : Def := fun args h => match args with
  | [.ref n] => match h.os[n]? with
    | some (.dK kvs) => match keysI kvs with
      | some ks => if ks.length < 64 then alloc (.lst ((sortI ks).map CV.int)) h else .bad
      | none => .bad
    | _ => .bad
  | _ => .bad
def keyV : CK → CV
  | .inl i => .int i
  | .inr l => .str l
def keyOkC : CK → Bool
  | .inl _ => true
  | .inr l => l.all fun c => decide (c < 1114112)
def lenDV : Def := fun args h => match args with
  | [.ref n] => match h.os[n]? with
    | some (.dK kvs) => .ok (.int kvs.length) h
    | _ => .bad
  | _ => .bad
def listDV : Def := fun args h => match args with
  | [.ref n] => match h.os[n]? with
    | some (.dK kvs) => if (kvs.all fun q => keyOkC q.1) = true then alloc (.lst (kvs.map fun q => keyV q.1)) h else .bad
    | _ => .bad
  | _ => .bad
def lockC (n : Nat) (kvs : List (CK × CV)) (h : CH) : CH := h.set n (.fz kvs)
def unlC (n : Nat) (h : CH) : Option CH := match h.os[n]? with
  | some (.fz kvs) => some (h.set n (.dK kvs))
  | _ => none
def unlS (n : Nat) : SR → SR
  | .nx s h => match unlC n h with
    | some h' => .nx s h'
    | none => .bad
  | .rt v h => match unlC n h with
    | some h' => .rt v h'
    | none => .bad
  | .bk s h => match unlC n h with
    | some h' => .bk s h'
    | none => .bad
  | .ct s h => match unlC n h with
    | some h' => .ct s h'
    | none => .bad
  | _ => .bad
def keyLoop (g : MG) (m : MS) : List (CK × CV) → MS
  | [] => fun s h => .nx s h
  | q :: r => fun s h => match g (keyV q.1) s h with
    | none => .bad
    | some (s1, h1) => match m s1 h1 with
      | .nx s2 h2 => keyLoop g m r s2 h2
      | .ct s2 h2 => keyLoop g m r s2 h2
      | .bk s2 h2 => .nx s2 h2
      | r => r
def keysL (a : ME CV) (n : Nat) (kvs : List (CK × CV)) (s : CS) (h : CH) : Option (List (CK × CV) × CH) := match a s (lockC n kvs h) with
  | .ok (.ref k) h1 => if k = n then (match h1.os[n]? with
    | some (.fz kvs1) => if (kvs1.all fun q => keyOkC q.1) = true then some (kvs1, h1) else none
    | _ => none) else none
  | _ => none
def dictA (a : ME CV) (s : CS) (h : CH) : Option (Nat × List (CK × CV)) := match a s h with
  | .ok (.ref n) _ => (match h.os[n]? with
    | some (.dK kvs) => some (n, kvs)
    | _ => none)
  | _ => none
def sForD (a : ME CV) (g : MG) (m : MS) : MS := fun s h => match dictA a s h with
  | some (n, kvs) => (match keysL a n kvs s h with
    | some (kvs1, h1) => unlS n (keyLoop g m kvs1 s h1)
    | none => .bad)
  | none => .bad
def sForA (a : ME CV) (g : MG) (m : MS) : MS := fun s h => match dictA a s h with
  | some _ => sForD a g m s h
  | none => sFor a g m s h
def dcTurn (D : Nat) (g : MG) (t : ME Bool) (k v : ME CV) (x : CV) (s : CS) (h : CH) : Option CH := match g x s h with
  | none => none
  | some (s1, h1) => match t s1 h1 with
    | .ok false h2 => some h2
    | .ok true h2 => (match k s1 h2 with
      | .ok y h3 => (match v s1 h3 with
        | .ok z h4 => (match h4.os[D]? with
          | some (.dK kvs) => (match keyOf y with
            | some q => if kvs.length < LINE then some (h4.set D (.dK (putD kvs q z))) else none
            | none => none)
          | _ => none)
        | _ => none)
      | _ => none)
    | _ => none
def dcLoop (D : Nat) (g : MG) (t : ME Bool) (k v : ME CV) (s : CS) : List (CK × CV) → CH → Option CH
  | [], h => some h
  | q :: r, h => match dcTurn D g t k v (keyV q.1) s h with
    | some h1 => dcLoop D g t k v s r h1
    | none => none
def eDComp (own : List Nat) (a : ME CV) (g : MG) (t : ME Bool) (k v : ME CV) : ME CV := fun s h => match dictA a s h with
  | some (n, kvs) => (match keysL a n kvs s h with
    | some (kvs1, h1) => (match dcLoop h1.os.length g t k v (wipeC s own) kvs1 (h1.new (.dK [])) with
      | some h2 => (match unlC n h2 with
        | some h3 => .ok (.ref h1.os.length) h3
        | none => .bad)
      | none => .bad)
    | none => .bad)
  | none => .bad
def eMaxD (d : Int) (a : ME CV) : ME CV := fun s h => (a s h).bind fun x h1 => match (lstOf h1 x).bind intsOf with
  | some [] => .ok (.int d) h1
  | some (b :: bs) => .ok (.int (maxI b bs)) h1
  | none => .bad
end Cn
namespace Cn
def replC (c : Nat) (z : List Nat) : List Nat → List Nat
  | [] => []
  | x :: r => if x = c then z ++ replC c z r else x :: replC c z r
def eReplC (c : Nat) (z : List Nat) (a : ME CV) : ME CV := fun s h => (a s h).bind fun x h1 => match x with
  | .str l => if l.length ≤ 4000 then .ok (.str (replC c z l)) h1 else .bad
  | _ => .bad
def rowOf (h : CH) : CV → Option (Int × Bool)
  | .ref m => match h.os[m]? with
    | some (.lst [.int n, .str _, .str _, .int _, .non, .non]) => some (n, false)
    | some (.lst [.int n, .str _, .str _, .int _, .int _, .int _]) => some (n, true)
    | _ => none
  | _ => none
def rowsOf (h : CH) : List CV → Option (List ((Int × Bool) × CV))
  | [] => some []
  | x :: r => match rowOf h x, rowsOf h r with
    | some k, some ks => some ((k, x) :: ks)
    | _, _ => none
def sortR (ks : List ((Int × Bool) × CV)) : List ((Int × Bool) × CV) := ks.mergeSort fun a b => decide (a.1.1 ≤ b.1.1)
def sortLV : Def := fun args h => match args with
  | [x] => match (lstOf h x).bind (rowsOf h) with
    | some ks => if ks.length < 1000 ∧ (ks.map fun k => k.1.1).Nodup ∧ (∀ k ∈ ks, ∀ k' ∈ ks, k.1.2 = k'.1.2) then alloc (.lst ((sortR ks).map (·.2))) h else .bad
    | none => .bad
  | _ => .bad
end Cn
namespace Cn
def joinR : List (List Nat) → List Nat
  | [] => []
  | [x] => x
  | x :: r => x ++ [44, 32] ++ joinR r
mutual
def reprC : CD → List Nat
  | .non => [78, 111, 110, 101]
  | .bl _ => []
  | .int i => numC i.toNat
  | .str s => 39 :: s ++ [39]
  | .lst xs => 91 :: joinR (reprCs xs) ++ [93]
  | .tup xs => 40 :: joinR (reprCs xs) ++ (if xs.length = 1 then [44, 41] else [41])
def reprCs : List CD → List (List Nat)
  | [] => []
  | x :: r => reprC x :: reprCs r
end
def plainC (c : Nat) : Bool := decide (32 ≤ c ∧ c < 127 ∧ c ≠ 39 ∧ c ≠ 92)
mutual
def okR : CD → Bool
  | .non => true
  | .bl _ => false
  | .int i => decide (0 ≤ i ∧ i < 1000000000000000000000000000000)
  | .str s => s.all plainC
  | .lst xs => okRs xs
  | .tup xs => okRs xs
def okRs : List CD → Bool
  | [] => true
  | x :: r => okR x && okRs r
end
def reprV : Def := fun args h => match args with
  | [.ref n] => match dataC h 50 (.ref n) with
    | some d => if okR d = true ∧ (reprC d).length ≤ LINE then .ok (.str (reprC d)) h else .bad
    | none => .bad
  | _ => .bad
def itemE (x : CV) (i : Nat) (h : CH) : Option (Option CV) := match lstOf h x with
  | some xs => some (xs[i]?.map fun c => .tup [.int i, c])
  | none => none
def forLoopE (x : CV) (g : MG) (b : MS) : Nat → Nat → MS
  | 0, _, _, _ => .bad
  | n + 1, i, s, h => match itemE x i h with
    | none => .bad
    | some none => .nx s h
    | some (some v) => match g v s h with
      | none => .bad
      | some (s1, h1) => match b s1 h1 with
        | .nx s2 h2 => forLoopE x g b n (i + 1) s2 h2
        | .ct s2 h2 => forLoopE x g b n (i + 1) s2 h2
        | .bk s2 h2 => .nx s2 h2
        | r => r
def sForE (a : ME CV) (g : MG) (b : MS) : MS := fun s h => rBind (a s h) s fun x h1 => forLoopE x g b (lenAt x h1 + 1) 0 s h1
def sPar3 (i j l : Nat) (as : ME (List CV)) : MS := fun s h => rBind (as s h) s fun xs h1 => match xs with
  | [a, b, c] => .nx (((s.set i (some a)).set j (some b)).set l (some c)) h1
  | _ => .bad
end Cn
set_option Elab.async false
set_option linter.all false
set_option maxRecDepth 100000
set_option maxHeartbeats 4000000
namespace Cn
open PySem PySem.Spec PyProof.Rows L2

structure Bs where
  ca : Nat → Addr
  an : List Str
  sc : List Int
abbrev Pts (s : List Nat) : Prop := ∀ c ∈ s, c < 1114112

def ScrAt (K : PySem.W.Frag) (H : Hp) (a : Addr) (xs : List V) : Prop :=
  (∃ o, H a = some (.frz o (.lst xs))) ∨
    ∃ (o : Obj) (its : Array Value) (n : Nat), K.lookup a = some o ∧ o.cls = .type "list" ∧ o.dict = none ∧ o.data = .seq its n ∧ its.size ≤ sizeLine ∧ Vals xs its.toList
theorem ScrAt.sq {K : PySem.W.Frag} {H : Hp} {a : Addr} {xs : List V} (h : ScrAt K H a xs) : SqL K H a xs := by
  rcases h with ⟨o, h⟩ | h
  · exact .inl (.inr ⟨o, h⟩)
  · exact .inr h

structure Per (K : PySem.W.Frag) (H H' : Hp) : Prop where
  tups : ∀ a xs, SqT K H a xs → SqT K H' a xs
  frzs : ∀ a o xs, H a = some (.frz o (.lst xs)) → H' a = some (.frz o (.lst xs))
  tupl : ∀ a xs, H a = some (.tup xs) → H' a = some (.tup xs)
  xds : ∀ a fs, H a = some (.xd fs) → H' a = some (.xd fs)
  frzd : ∀ a o kvs, H a = some (.frz o (.dK kvs)) → H' a = some (.frz o (.dK kvs))
section
variable {K : PySem.W.Frag} {H H1 H2 : Hp}
theorem Per.refl : Per K H H := ⟨fun _ _ h => h, fun _ _ _ h => h, fun _ _ h => h, fun _ _ h => h, fun _ _ _ h => h⟩
theorem Per.trans (a : Per K H H1) (b : Per K H1 H2) : Per K H H2 := ⟨fun c xs h => b.tups c xs (a.tups c xs h), fun c o xs h => b.frzs c o xs (a.frzs c o xs h), fun c xs h => b.tupl c xs (a.tupl c xs h), fun c fs h => b.xds c fs (a.xds c fs h), fun c o xs h => b.frzd c o xs (a.frzd c o xs h)⟩
theorem Per.new {p : Addr} {o : HO} (hp : H p = none) : Per K H (upd H p o) := by
  refine ⟨fun a xs h => ?_, fun a ob xs h => ?_, fun a xs h => by rw [upd_ne (ne_of_none h hp)]; exact h, fun a fs h => by rw [upd_ne (ne_of_none h hp)]; exact h, fun a ob fs h => by rw [upd_ne (ne_of_none h hp)]; exact h⟩
  · rcases h with (h | ⟨ob, h⟩) | h
    · exact .inl (.inl (by rw [upd_ne (ne_of_none h hp)]; exact h))
    · exact .inl (.inr ⟨ob, by rw [upd_ne (ne_of_none h hp)]; exact h⟩)
    · exact .inr h
  · rw [upd_ne (ne_of_none h hp)]; exact h
theorem Per.write {p : Addr} {o : HO} (mu : Mut (H p)) : Per K H (upd H p o) := by
  have ne : ∀ {a : Addr} {u : HO}, H a = some u → ¬ Mut (some u) → a ≠ p := fun {a u} h nm z => by
    rw [← z, h] at mu; exact nm mu
  refine ⟨fun a xs h => ?_, fun a ob xs h => ?_, fun a xs h => by rw [upd_ne (ne h fun z => z)]; exact h, fun a fs h => by rw [upd_ne (ne h fun z => z)]; exact h, fun a ob fs h => by rw [upd_ne (ne h fun z => z)]; exact h⟩
  · rcases h with (h | ⟨ob, h⟩) | h
    · exact .inl (.inl (by rw [upd_ne (ne h fun z => z)]; exact h))
    · exact .inl (.inr ⟨ob, by rw [upd_ne (ne h fun z => z)]; exact h⟩)
    · exact .inr h
  · rw [upd_ne (ne h fun z => z)]; exact h
theorem ScrAt.per {a : Addr} {xs : List V} (p : Per K H H1) (h : ScrAt K H a xs) : ScrAt K H1 a xs := by
  rcases h with ⟨o, h⟩ | h
  · exact .inl ⟨o, p.frzs _ _ _ h⟩
  · exact .inr h
end

mutual
def RepV (K : PySem.W.Frag) (sc : List Int) (ρ : List Addr) (H : Hp) : CV → V → Prop
  | .non, v => v = .non
  | .bl b, v => v = .bl b
  | .int i, v => v = .int i
  | .str s, v => v = .str ⟨s.toArray⟩ ∧ Pts s
  | .ref n, v => ∃ a, ρ[n]? = some a ∧ v = .ref a
  | .tup xs, v => ∃ a vs, v = .ref a ∧ H a = some (.tup vs) ∧ RepVs K sc ρ H xs vs
  | .scr, v => ∃ a, v = .ref a ∧ ScrAt K H a (sc.map V.int)
def RepVs (K : PySem.W.Frag) (sc : List Int) (ρ : List Addr) (H : Hp) : List CV → List V → Prop
  | [], vs => vs = []
  | x :: xs, vs => ∃ v r, vs = v :: r ∧ RepV K sc ρ H x v ∧ RepVs K sc ρ H xs r
end
section
variable {K : PySem.W.Frag} {sc : List Int} {ρ ρ' : List Addr} {H H' : Hp}
theorem pre_get {α : Type} {l m : List α} (p : l <+: m) {i : Nat} {x : α} (h : l[i]? = some x) : m[i]? = some x := by
  obtain ⟨t, rfl⟩ := p
  obtain ⟨hi, e⟩ := List.getElem?_eq_some_iff.mp h
  rw [List.getElem?_append_left hi]
  exact h
mutual
theorem RepV.per (p : ρ <+: ρ') (q : Per K H H') : ∀ (c : CV) (v : V), RepV K sc ρ H c v → RepV K sc ρ' H' c v
  | .non, _, h => h
  | .bl _, _, h => h
  | .int _, _, h => h
  | .str _, _, h => h
  | .ref n, _, h => by
    obtain ⟨a, e, e2⟩ := h
    exact ⟨a, pre_get p e, e2⟩
  | .tup xs, _, h => by
    obtain ⟨a, vs, e, e2, r⟩ := h
    exact ⟨a, vs, e, q.tupl _ _ e2, RepVs.per p q xs vs r⟩
  | .scr, _, h => by
    obtain ⟨a, e, e2⟩ := h
    exact ⟨a, e, e2.per q⟩
theorem RepVs.per (p : ρ <+: ρ') (q : Per K H H') : ∀ (cs : List CV) (vs : List V), RepVs K sc ρ H cs vs → RepVs K sc ρ' H' cs vs
  | [], _, h => h
  | x :: xs, _, h => by
    obtain ⟨v, r, e, h1, h2⟩ := h
    exact ⟨v, r, e, RepV.per p q x v h1, RepVs.per p q xs r h2⟩
end
theorem RepVs.len : ∀ {cs : List CV} {vs : List V}, RepVs K sc ρ H cs vs → vs.length = cs.length
  | [], _, h => by
    have h' : _ = [] := h
    rw [h'] <;> rfl
  | x :: xs, _, h => by
    obtain ⟨v, r, e, h1, h2⟩ := h
    rw [e, List.length_cons, List.length_cons, RepVs.len h2]
theorem RepVs.get : ∀ {cs : List CV} {vs : List V} {i : Nat} {c : CV}, RepVs K sc ρ H cs vs → cs[i]? = some c → ∃ v, vs[i]? = some v ∧ RepV K sc ρ H c v
  | [], _, _, _, _, e => by simp at e
  | x :: xs, _, 0, c, h, e => by
    obtain ⟨v, r, rfl, h1, h2⟩ := h
    have e' : x = c := by simpa using e
    subst e'
    exact ⟨v, rfl, h1⟩
  | x :: xs, _, i + 1, c, h, e => by
    obtain ⟨v, r, rfl, h1, h2⟩ := h
    exact RepVs.get (i := i) h2 (by simpa using e)
theorem RepVs.append : ∀ {cs ds : List CV} {vs ws : List V}, RepVs K sc ρ H cs vs → RepVs K sc ρ H ds ws → RepVs K sc ρ H (cs ++ ds) (vs ++ ws)
  | [], _, _, _, h, h' => by
    have e : _ = [] := h
    rw [e]; exact h'
  | x :: xs, _, _, _, h, h' => by
    obtain ⟨v, r, rfl, h1, h2⟩ := h
    exact ⟨v, r ++ _, rfl, h1, RepVs.append h2 h'⟩
theorem RepVs.one {c : CV} {v : V} (h : RepV K sc ρ H c v) : RepVs K sc ρ H [c] [v] := ⟨v, [], rfl, h, rfl⟩
theorem RepVs.set {c : CV} {v : V} (h : RepV K sc ρ H c v) : ∀ {cs : List CV} {vs : List V} (i : Nat), RepVs K sc ρ H cs vs → RepVs K sc ρ H (cs.set i c) (vs.set i v)
  | [], _, _, h' => by
    have e : _ = [] := h'
    rw [e] <;> rfl
  | x :: xs, _, 0, h' => by
    obtain ⟨v', r, rfl, h1, h2⟩ := h'
    exact ⟨v, r, rfl, h, h2⟩
  | x :: xs, _, i + 1, h' => by
    obtain ⟨v', r, rfl, h1, h2⟩ := h'
    exact ⟨v', r.set i v, rfl, h1, RepVs.set h i h2⟩
theorem RepVs.drop : ∀ {cs : List CV} {vs : List V} (n : Nat), RepVs K sc ρ H cs vs → RepVs K sc ρ H (cs.drop n) (vs.drop n)
  | _, _, 0, h => h
  | [], _, n + 1, h => by
    have e : _ = [] := h
    rw [e] <;> rfl
  | x :: xs, _, n + 1, h => by
    obtain ⟨v', r, rfl, h1, h2⟩ := h
    exact RepVs.drop n h2
theorem RepVs.take : ∀ {cs : List CV} {vs : List V} (n : Nat), RepVs K sc ρ H cs vs → RepVs K sc ρ H (cs.take n) (vs.take n)
  | _, _, 0, h => rfl
  | [], _, n + 1, h => by
    have e : _ = [] := h
    rw [e] <;> rfl
  | x :: xs, _, n + 1, h => by
    obtain ⟨v', r, rfl, h1, h2⟩ := h
    exact ⟨v', r.take n, rfl, h1, RepVs.take n h2⟩
theorem RepVs.eraseIdx : ∀ {cs : List CV} {vs : List V} (n : Nat), RepVs K sc ρ H cs vs → RepVs K sc ρ H (cs.eraseIdx n) (vs.eraseIdx n)
  | [], _, n, h => by
    have e : _ = [] := h
    rw [e] <;> cases n <;> rfl
  | x :: xs, _, 0, h => by
    obtain ⟨v', r, rfl, h1, h2⟩ := h
    exact h2
  | x :: xs, _, n + 1, h => by
    obtain ⟨v', r, rfl, h1, h2⟩ := h
    exact ⟨v', r.eraseIdx n, rfl, h1, RepVs.eraseIdx n h2⟩
theorem RepVs.dropLast {cs : List CV} {vs : List V} (h : RepVs K sc ρ H cs vs) : RepVs K sc ρ H cs.dropLast vs.dropLast := by
  rw [List.dropLast_eq_take, List.dropLast_eq_take, h.len]
  exact RepVs.take _ h
theorem RepVs.ints : ∀ {l : List Int}, RepVs K sc ρ H (l.map CV.int) (l.map V.int)
  | [] => rfl
  | i :: r => ⟨_, _, rfl, rfl, RepVs.ints⟩
theorem RepVs.strs : ∀ {cs : List CV} {zs : List (List Nat)} {vs : List V}, RepVs K sc ρ H cs vs → strsOf cs = some zs → vs = (zs.map fun z => (⟨z.toArray⟩ : Str)).map V.str ∧ ∀ z ∈ zs, Pts z
  | [], zs, _, h, e => by
    have e1 : _ = [] := h
    have e2 : ([] : List (List Nat)) = zs := Option.some.inj e
    rw [e1, ← e2]
    exact ⟨rfl, fun z hz => nomatch hz⟩
  | x :: xs, zs, _, h, e => by
    obtain ⟨v', r, rfl, h1, h2⟩ := h
    cases x with
    | str y =>
      unfold strsOf at e
      cases q : strsOf xs with
      | none => rw [q] at e; cases e
      | some ys =>
        rw [q] at e
        have e2 : y :: ys = zs := Option.some.inj e
        have e3 : v' = .str ⟨y.toArray⟩ := h1.1
        obtain ⟨q1, q2⟩ := RepVs.strs h2 q
        rw [← e2, e3, q1]
        refine ⟨rfl, fun z hz => ?_⟩
        rcases List.mem_cons.mp hz with hz | hz
        · rw [hz]; exact h1.2
        · exact q2 z hz
    | _ => cases e
end

def keyC : CK → Key
  | .inl i => .inl i
  | .inr s => .inr ⟨s.toArray⟩
def RepKs (K : PySem.W.Frag) (sc : List Int) (ρ : List Addr) (H : Hp) {κ κ' : Type} (f : κ → κ') : List (κ × CV) → List (κ' × V) → Prop
  | [], vs => vs = []
  | (k, c) :: r, vs => ∃ v r', vs = (f k, v) :: r' ∧ RepV K sc ρ H c v ∧ RepKs K sc ρ H f r r'
def RepFs (K : PySem.W.Frag) (B : Bs) (sc : List Int) (ρ : List Addr) (H : Hp) : List (Nat × CV) → List (Str × V) → Prop
  | [], vs => vs = []
  | (k, c) :: r, vs => ∃ f v r', vs = (f, v) :: r' ∧ B.an[k]? = some f ∧ RepV K sc ρ H c v ∧ RepFs K B sc ρ H r r'
def RepO (K : PySem.W.Frag) (B : Bs) (sc : List Int) (ρ : List Addr) (H : Hp) : CO → HO → Prop
  | .lst xs, o => ∃ vs, o = .lst vs ∧ RepVs K sc ρ H xs vs
  | .dK kvs, o => ∃ vs, o = .dK vs ∧ RepKs K sc ρ H keyC kvs vs
  | .dT kvs, o => ∃ vs, o = .dT vs ∧ RepKs K sc ρ H (fun l => l.map keyC) kvs vs
  | .ins c fs, o => ∃ dx vs, o = .ins (B.ca c) dx vs ∧ RepFs K B sc ρ H fs vs ∧ fs.length < 900
  | .fz kvs, o => ∃ od vs, o = .frz od (.dK vs) ∧ RepKs K sc ρ H keyC kvs vs
structure Rel (K : PySem.W.Frag) (B : Bs) (ρ : List Addr) (H : Hp) (h : CH) : Prop where
  scq : h.sc = B.sc
  len : ρ.length = h.os.length
  nd : ρ.Nodup
  obj : ∀ (i : Nat) (o : CO), h.os[i]? = some o → ∃ a u, ρ[i]? = some a ∧ H a = some u ∧ RepO K B B.sc ρ H o u
section
variable {K : PySem.W.Frag} {B : Bs} {sc : List Int} {ρ ρ' : List Addr} {H H' : Hp} {h : CH}
theorem RepKs.per (p : ρ <+: ρ') (q : Per K H H') {κ κ' : Type} {f : κ → κ'} : ∀ {cs : List (κ × CV)} {vs : List (κ' × V)}, RepKs K sc ρ H f cs vs → RepKs K sc ρ' H' f cs vs
  | [], _, h => h
  | (k, c) :: r, _, h => by
    obtain ⟨v, r', e, h1, h2⟩ := h
    exact ⟨v, r', e, RepV.per p q c v h1, RepKs.per p q h2⟩
theorem RepFs.per (p : ρ <+: ρ') (q : Per K H H') : ∀ {cs : List (Nat × CV)} {vs : List (Str × V)}, RepFs K B sc ρ H cs vs → RepFs K B sc ρ' H' cs vs
  | [], _, h => h
  | (k, c) :: r, _, h => by
    obtain ⟨f, v, r', e, h0, h1, h2⟩ := h
    exact ⟨f, v, r', e, h0, RepV.per p q c v h1, RepFs.per p q h2⟩
theorem RepO.per (p : ρ <+: ρ') (q : Per K H H') {o : CO} {u : HO} (h : RepO K B sc ρ H o u) : RepO K B sc ρ' H' o u := by
  cases o with
  | lst xs => obtain ⟨vs, e, r⟩ := h; exact ⟨vs, e, RepVs.per p q _ _ r⟩
  | dK kvs => obtain ⟨vs, e, r⟩ := h; exact ⟨vs, e, r.per p q⟩
  | dT kvs => obtain ⟨vs, e, r⟩ := h; exact ⟨vs, e, r.per p q⟩
  | ins c fs => obtain ⟨dx, vs, e, r, l⟩ := h; exact ⟨dx, vs, e, r.per p q, l⟩
  | fz kvs => obtain ⟨od, vs, e, r⟩ := h; exact ⟨od, vs, e, r.per p q⟩
theorem Rel.tracked (R : Rel K B ρ H h) {a : Addr} (ha : a ∈ ρ) : ∃ u, H a = some u := by
  obtain ⟨i, hi, e⟩ := List.mem_iff_getElem.mp ha
  obtain ⟨o, ho⟩ : ∃ o, h.os[i]? = some o := ⟨h.os[i]'(by rw [← R.len]; exact hi), by rw [List.getElem?_eq_getElem]⟩
  obtain ⟨b, u, e1, e2, _⟩ := R.obj i o ho
  have e3 : ρ[i]? = some a := by rw [List.getElem?_eq_getElem hi, e]
  rw [e3] at e1
  cases e1
  exact ⟨u, e2⟩
theorem Rel.new (R : Rel K B ρ H h) {p : Addr} {o : CO} {u : HO} (hp : H p = none) (r : RepO K B B.sc (ρ ++ [p]) (upd H p u) o u) : Rel K B (ρ ++ [p]) (upd H p u) (h.new o) := by
  have np : ∀ a ∈ ρ, a ≠ p := fun a ha z => by
    obtain ⟨w, e⟩ := R.tracked ha
    rw [z, hp] at e; cases e
  refine ⟨R.scq, ?_, ?_, fun i x hx => ?_⟩
  · show (ρ ++ [p]).length = (h.os ++ [o]).length
    rw [List.length_append, List.length_append, R.len] <;> rfl
  · rw [List.nodup_append]
    refine ⟨R.nd, by simp, fun a ha b hb => ?_⟩
    have eb : b = p := by simpa using hb
    rw [eb]
    exact np a ha
  · have hx' : (h.os ++ [o])[i]? = some x := hx
    by_cases hi : i < h.os.length
    · rw [List.getElem?_append_left hi] at hx'
      obtain ⟨a, w, e1, e2, e3⟩ := R.obj i x hx'
      have ea : a ∈ ρ := List.mem_of_getElem? e1
      exact ⟨a, w, pre_get (List.prefix_append _ _) e1, by rw [upd_ne (np a ea)]; exact e2, e3.per (List.prefix_append _ _) (.new hp)⟩
    · have hi2 : i = h.os.length := by
        have := (List.getElem?_eq_some_iff.mp hx').1
        rw [List.length_append, List.length_singleton] at this
        omega
      rw [hi2, List.getElem?_append_right (Nat.le_refl _), Nat.sub_self] at hx'
      have ex : o = x := by simpa using hx'
      subst ex
      refine ⟨p, u, ?_, upd_same, r⟩
      rw [hi2, ← R.len, List.getElem?_append_right (Nat.le_refl _), Nat.sub_self] <;> rfl
theorem Rel.set (R : Rel K B ρ H h) {n : Nat} {a : Addr} {o : CO} {u : HO} (ha : ρ[n]? = some a) (mu : Mut (H a)) (r : RepO K B B.sc ρ (upd H a u) o u) : Rel K B ρ (upd H a u) (h.set n o) := by
  refine ⟨R.scq, ?_, R.nd, fun i x hx => ?_⟩
  · show ρ.length = (h.os.set n o).length
    rw [List.length_set]; exact R.len
  · have hx' : (h.os.set n o)[i]? = some x := hx
    by_cases hi : n = i
    · subst hi
      have hn : n < h.os.length := by rw [← R.len]; exact (List.getElem?_eq_some_iff.mp ha).1
      rw [List.getElem?_set_self hn] at hx'
      have ex : o = x := Option.some.inj hx'
      subst ex
      exact ⟨a, u, ha, upd_same, r⟩
    · rw [List.getElem?_set_ne hi] at hx'
      obtain ⟨b, w, e1, e2, e3⟩ := R.obj i x hx'
      have nb : b ≠ a := fun z => hi (by
        subst z
        exact nodup_ix_any R.nd ha e1)
      exact ⟨b, w, e1, by rw [upd_ne nb]; exact e2, e3.per (List.prefix_refl _) (.write mu)⟩
where
  nodup_ix_any {l : List Addr} (hN : l.Nodup) {i j : Nat} {x : Addr} (a : l[i]? = some x) (b : l[j]? = some x) : i = j := by
    obtain ⟨h1, e1⟩ := List.getElem?_eq_some_iff.mp a
    obtain ⟨h2, e2⟩ := List.getElem?_eq_some_iff.mp b
    exact (List.getElem_inj hN).mp (e1.trans e2.symm)
end
end Cn
set_option Elab.async false
set_option linter.all false
set_option maxRecDepth 100000
set_option maxHeartbeats 4000000
namespace Cn
open PySem PySem.Spec PyProof.Rows L2

def RepX (K : PySem.W.Frag) (B : Bs) (ρ : List Addr) (H : Hp) (d : List (Nat × CV)) (dx : Option Addr) : Prop :=
  (d = [] ∧ dx = none) ∨ (d ≠ [] ∧ ∃ D fs, dx = some D ∧ H D = some (.xd fs) ∧ RepFs K B B.sc ρ H d fs)
abbrev RP (α β : Type) := List Addr → Hp → α → β → Prop
def Post {α β : Type} (K : PySem.W.Frag) (B : Bs) (rep : RP α β) (W : XK) (r : Res α) (ρ : List Addr) (H : Hp) (Q : β → Hp → Prop) : Prop := match r with
  | .ok c h' => ∀ ρ' H' v, ρ <+: ρ' → Per K H H' → Rel K B ρ' H' h' → rep ρ' H' c v → Q v H'
  | .ex c d h' => ∀ ρ' H' dx, ρ <+: ρ' → Per K H H' → Rel K B ρ' H' h' → RepX K B ρ' H' d dx → W (.ref (B.ca c)) dx H'
  | .bad => False
abbrev rV (K : PySem.W.Frag) (B : Bs) : RP CV V := fun ρ H c v => RepV K B.sc ρ H c v
abbrev rVs (K : PySem.W.Frag) (B : Bs) : RP (List CV) (List V) := fun ρ H c v => RepVs K B.sc ρ H c v
abbrev rEqual (α : Type) : RP α α := fun _ _ a b => a = b
section
variable {α β γ δ : Type} {K : PySem.W.Frag} {B : Bs} {rep : RP α β} {rep2 : RP γ δ} {W : XK} {r : Res α} {ρ ρ1 : List Addr} {H H1 : Hp} {Q : β → Hp → Prop} {Q2 : δ → Hp → Prop}
theorem Post.imp {Q' : β → Hp → Prop} (hq : ∀ v H1, Q v H1 → Q' v H1) (p : Post K B rep W r ρ H Q) : Post K B rep W r ρ H Q' := by
  cases r with
  | ok c h' => exact fun ρ' H' v a b c d => hq _ _ (p ρ' H' v a b c d)
  | ex c d h' => exact p
  | bad => exact p
theorem Post.later (a : ρ <+: ρ1) (b : Per K H H1) (p : Post K B rep W r ρ H Q) : Post K B rep W r ρ1 H1 Q := by
  cases r with
  | ok c h' => exact fun ρ' H' v a' b' c d => p ρ' H' v (a.trans a') (b.trans b') c d
  | ex c d h' => exact fun ρ' H' dx a' b' c d => p ρ' H' dx (a.trans a') (b.trans b') c d
  | bad => exact p
structure Mid (K : PySem.W.Frag) (B : Bs) (rep : RP α β) (ρ : List Addr) (H : Hp) (v : β) (H1 : Hp) (a : α) (h1 : CH) (ρ1 : List Addr) : Prop where
  pre : ρ <+: ρ1
  per : Per K H H1
  rel : Rel K B ρ1 H1 h1
  rp : rep ρ1 H1 a v
theorem Post.bind {f : α → CH → Res γ} (rep : RP α β) (p : Post K B rep2 W (r.bind f) ρ H Q2) :
    Post K B rep W r ρ H (fun v H1 => ∃ a h1 ρ1, Mid K B rep ρ H v H1 a h1 ρ1 ∧ Post K B rep2 W (f a h1) ρ1 H1 Q2) := by
  cases r with
  | ok c h' => exact fun ρ' H' v a b cc d => ⟨c, h', ρ', ⟨a, b, cc, d⟩, Post.later a b (show Post K B rep2 W (f c h') ρ H Q2 from p)⟩
  | ex c d h' => exact p
  | bad => exact p
theorem Post.ok {c : α} {h : CH} {v : β} (R : Rel K B ρ H h) (rp : rep ρ H c v) (p : Post K B rep W (.ok c h) ρ H Q) : Q v H := p ρ H v (List.prefix_refl _) Per.refl R rp
theorem Post.alloc {o : CO} {u : HO} {h : CH} {p : Addr} {Q : V → Hp → Prop} (R : Rel K B ρ H h) (hp : H p = none) (r : RepO K B B.sc (ρ ++ [p]) (upd H p u) o u) (q : Post K B (rV K B) W (Cn.alloc o h) ρ H Q) : Q (.ref p) (upd H p u) := by
  refine q (ρ ++ [p]) (upd H p u) (.ref p) (List.prefix_append _ _) (.new hp) (R.new hp r) ⟨p, ?_, rfl⟩
  rw [← R.len, List.getElem?_append_right (Nat.le_refl _), Nat.sub_self] <;> rfl
end

def RepS (K : PySem.W.Frag) (B : Bs) (ρ : List Addr) (H : Hp) (s : CS) (σ : L2.St) : Prop := s.length = σ.length ∧ ∀ (i : Nat) c, s[i]? = some (some c) → ∃ v, σ[i]? = some (some v) ∧ RepV K B.sc ρ H c v
theorem RepS.per {K : PySem.W.Frag} {B : Bs} {ρ ρ' : List Addr} {H H' : Hp} {s : CS} {σ : L2.St} (a : ρ <+: ρ') (b : Per K H H') (S : RepS K B ρ H s σ) : RepS K B ρ' H' s σ :=
  ⟨S.1, fun i c e => let ⟨v, e2, r⟩ := S.2 i c e; ⟨v, e2, r.per a b⟩⟩
theorem RepS.set {K : PySem.W.Frag} {B : Bs} {ρ : List Addr} {H : Hp} {s : CS} {σ : L2.St} {i : Nat} {c : CV} {v : V} (S : RepS K B ρ H s σ) (r : RepV K B.sc ρ H c v) : RepS K B ρ H (s.set i (some c)) (σ.set i (some v)) := by
  refine ⟨by rw [List.length_set, List.length_set]; exact S.1, fun j d e => ?_⟩
  by_cases hij : i = j
  · subst hij
    by_cases hi : i < s.length
    · rw [List.getElem?_set_self hi] at e
      have ed : c = d := Option.some.inj (Option.some.inj e)
      subst ed
      exact ⟨v, by rw [List.getElem?_set_self (by rw [← S.1]; exact hi)], r⟩
    · rw [List.getElem?_eq_none (by rw [List.length_set]; omega)] at e
      cases e
  · rw [List.getElem?_set_ne hij] at e
    obtain ⟨w, e2, r2⟩ := S.2 j d e
    exact ⟨w, by rw [List.getElem?_set_ne hij]; exact e2, r2⟩
def tX {α β : Type} (K : PySem.W.Frag) (B : Bs) (rep : RP α β) (W : WX) (m : ME α) : L2.St → Hp → (β → Hp → Prop) → Prop := fun σ H Q =>
  ∃ ρ h s, Rel K B ρ H h ∧ RepS K B ρ H s σ ∧ Post K B rep (fun c d H' => W c d σ H') (m s h) ρ H Q
abbrev SE (X : Cx) (B : Bs) (W : WX) (e : Expr) (m : ME CV) : Prop := PE X e (tX X.K B (rV X.K B) W m)
abbrev ST (X : Cx) (B : Bs) (W : WX) (e : Expr) (m : ME Bool) : Prop := PT X e (tX X.K B (rEqual Bool) W m)
abbrev SW (X : Cx) (B : Bs) (W : WX) (e : Expr) (m : ME Bool) : Prop := PW X e (tX X.K B (rEqual Bool) W m)
abbrev SA (X : Cx) (B : Bs) (W : WX) (es : List Expr) (m : ME (List CV)) : Prop := PA X es (tX X.K B (rVs X.K B) W m)
abbrev SO (X : Cx) (B : Bs) (W : WX) (e : Option Expr) (m : ME (Option Int)) : Prop := PO X e (tX X.K B (rEqual (Option Int)) W m)
theorem PE.imp {X : Cx} {e : Expr} {t t' : TE} (p : PE X e t) (h : ∀ σ H Q, t' σ H Q → t σ H Q) : PE X e t' := ⟨fun pins s σ H Q I hw => p.run pins s σ H Q I (h σ H Q hw)⟩
theorem PT.imp {X : Cx} {e : Expr} {t t' : TT} (p : PT X e t) (h : ∀ σ H Q, t' σ H Q → t σ H Q) : PT X e t' := ⟨fun pins s σ H Q I hw => p.run pins s σ H Q I (h σ H Q hw)⟩
theorem PW.imp {X : Cx} {e : Expr} {t t' : TT} (p : PW X e t) (h : ∀ σ H Q, t' σ H Q → t σ H Q) : PW X e t' := ⟨fun wh pins s σ H Q I hw => p.run wh pins s σ H Q I (h σ H Q hw)⟩
theorem PA.imp {X : Cx} {es : List Expr} {t t' : TA} (p : PA X es t) (h : ∀ σ H Q, t' σ H Q → t σ H Q) : PA X es t' := ⟨fun pos pins s σ H Q I hw => p.run pos pins s σ H Q I (h σ H Q hw)⟩
theorem PO.imp {X : Cx} {e : Option Expr} {t t' : TO} (p : PO X e t) (h : ∀ σ H Q, t' σ H Q → t σ H Q) : PO X e t' := ⟨fun pins s σ H Q I hw => p.run pins s σ H Q I (h σ H Q hw)⟩

section
variable {X : Cx} {B : Bs} {W : WX} {a b c e : Expr} {es : List Expr} {ma mb mc : ME CV} {pos : Pos}
theorem tX_bind {α β γ δ : Type} {K : PySem.W.Frag} {rep : RP α β} {rep2 : RP γ δ} {m : ME α} {f : CS → α → CH → Res γ} {σ : L2.St} {H : Hp} {Q : δ → Hp → Prop} {R : β → Hp → Prop}
    (h : tX K B rep2 W (fun s h => (m s h).bind (f s)) σ H Q)
    (k : ∀ ρ1 h1 s a v H1, Rel K B ρ1 H1 h1 → RepS K B ρ1 H1 s σ → rep ρ1 H1 a v → Post K B rep2 (fun c d H' => W c d σ H') (f s a h1) ρ1 H1 Q → R v H1) : tX K B rep W m σ H R := by
  obtain ⟨ρ, h0, s, R0, S, p⟩ := h
  refine ⟨ρ, h0, s, R0, S, Post.imp (fun v H1 hh => ?_) (Post.bind rep p)⟩
  obtain ⟨a, h1, ρ1, M, p1⟩ := hh
  exact k ρ1 h1 s a v H1 M.rel (S.per M.pre M.per) M.rp p1

theorem se_var (i : Nat) {x : Str} (hN : X.N[i]? = some x := by rfl) (hv : Vis X.env.scope x := by first | exact Or.inl rfl | exact Or.inr (Or.inl rfl) | exact Or.inr (Or.inr rfl)) (hd : (x == ("__debug__" : Str)) = false := by decide +kernel)
    (hcd : (x == ("__classdict__" : Str)) = false := by decide +kernel) : SE X B W (.Name x pos) (eVar i) := by
  refine PE.imp (pe_var hN hv hd hcd) fun σ H Q h => ?_
  obtain ⟨ρ, h0, s, R, S, p⟩ := h
  unfold eVar at p
  cases q : s[i]? with
  | none => rw [q] at p; exact p.elim
  | some o =>
    cases o with
    | none => rw [q] at p; exact p.elim
    | some c =>
      rw [q] at p
      obtain ⟨v, e2, r⟩ := S.2 i c q
      exact ⟨v, e2, p.ok R r⟩
theorem se_c {v : V} {c : CV} (he : PE X e (tC v)) (r : ∀ ρ H, RepV X.K B.sc ρ H c v) : SE X B W e (eC c) := by
  refine PE.imp he fun σ H Q h => ?_
  obtain ⟨ρ, h0, s, R, S, p⟩ := h
  exact Post.ok R (r ρ H) p
theorem se_int {i : Int} {j} : SE X B W (.Constant (.int i) j pos) (eC (.int i)) := se_c pe_int fun _ _ => rfl
theorem se_bl {b : Bool} {j} : SE X B W (.Constant (.bool b) j pos) (eC (.bl b)) := se_c pe_bl fun _ _ => rfl
theorem se_non {j} : SE X B W (.Constant .none j pos) (eC .non) := se_c pe_non fun _ _ => rfl
theorem se_str (l : List Nat) {x : Str} {j} (h : (decide (x = ⟨l.toArray⟩) && l.all fun c => decide (c < 1114112)) = true := by decide +kernel) : SE X B W (.Constant (.str x) j pos) (eC (.str l)) := by
  obtain ⟨h1, h2⟩ := Bool.and_eq_true_iff.mp h
  exact se_c pe_str fun _ _ => ⟨congrArg V.str (of_decide_eq_true h1), fun c hc => of_decide_eq_true (List.all_eq_true.mp h2 c hc)⟩
theorem se_glob {x : Str} {v : V} {u : Value} {c : CV} (hg : Gl X x) (hm : X.mg x = some u) (r : RelV v u) (rc : ∀ ρ H, RepV X.K B.sc ρ H c v) (hd : (x == ("__debug__" : Str)) = false := by decide +kernel) : SE X B W (.Name x pos) (eC c) :=
  se_c (pe_glob hg hm r hd) rc

def VOp2 (K : PySem.W.Frag) (B : Bs) (f : CV → CV → CH → Res CV) (r : R2) : Prop := ∀ ρ H h c1 c2 v1 v2 (W : XK) Q, Rel K B ρ H h → RepV K B.sc ρ H c1 v1 → RepV K B.sc ρ H c2 v2 → Post K B (rV K B) W (f c1 c2 h) ρ H Q → r v1 v2 H Q
theorem tX_op2 {K : PySem.W.Frag} {f : CV → CV → CH → Res CV} {r : R2} {σ : L2.St} {H : Hp} {Q : VK} (hv : VOp2 K B f r) (h : tX K B (rV K B) W (e2 f ma mb) σ H Q) : tOp r (tX K B (rV K B) W ma) (tX K B (rV K B) W mb) σ H Q := by
  refine tX_bind (rep := rV K B) (f := fun s x h1 => (mb s h1).bind fun y h2 => f x y h2) h fun ρ1 h1 s a v H1 R1 S1 r1 p1 => ?_
  refine ⟨ρ1, h1, s, R1, S1, Post.imp (fun y H2 hh => ?_) (Post.bind (rV K B) p1)⟩
  obtain ⟨a2, h2, ρ2, M, p2⟩ := hh
  exact hv ρ2 H2 h2 a a2 v y _ Q M.rel (RepV.per M.pre M.per _ _ r1) M.rp p2
theorem se_op2 {op : Operator} {f : CV → CV → CH → Res CV} {r : R2} (ho : OpR X (binaryOp op) r) (hv : VOp2 X.K B f r) (ha : SE X B W a ma) (hb : SE X B W b mb) : SE X B W (.BinOp a op b pos) (e2 f ma mb) :=
  PE.imp (pe_op ho ha hb) fun σ H Q h => tX_op2 hv h
theorem se_cmp {op : CmpOp} {f : CV → CV → CH → Res CV} {r : R2} (ho : OpR X (compareOp op) r) (hv : VOp2 X.K B f r) (ha : SE X B W a ma) (hb : SE X B W b mb) (hm : behindInMarks op b = false := by rfl) : SE X B W (.Compare a [op] [b] pos) (e2 f ma mb) :=
  PE.imp (pe_cmpR ho ha hb hm) fun σ H Q h => tX_op2 hv h
theorem tX_tV {K : PySem.W.Frag} {m : ME CV} {σ : L2.St} {H : Hp} {Q : Bool → Hp → Prop} (h : tX K B (rEqual Bool) W (tV m) σ H Q) : tX K B (rV K B) W m σ H (fun x H1 => ∃ k, x = .bl k ∧ Q k H1) := by
  refine tX_bind (rep := rV K B) (f := fun _ x h1 => match x with
    | .bl b => .ok b h1
    | _ => .bad) h fun ρ1 h1 s a v H1 R1 S1 r1 p1 => ?_
  cases a with
  | bl k => exact ⟨k, r1, p1.ok R1 rfl⟩
  | _ => exact p1.elim
theorem st_cmp {op : CmpOp} {f : CV → CV → CH → Res CV} {r : R2} (ho : OpR X (compareOp op) r) (hv : VOp2 X.K B f r) (ha : SE X B W a ma) (hb : SE X B W b mb) (hm : behindInMarks op b = false := by rfl) : ST X B W (.Compare a [op] [b] pos) (tV (e2 f ma mb)) :=
  PT.imp (pt_cmpR ho ha hb hm) fun σ H Q h => tX_op2 (Q := fun x H' => ∃ k, x = .bl k ∧ Q k H') hv (tX_tV h)
theorem st_val (ha : SE X B W a ma) (he : ∀ whole, isTrue a X.env whole = (do let v ← whole; standAt a.pos; holding [v] (truthy v)) := by intro _; rfl) : ST X B W a (tV ma) :=
  PT.imp (pt_val ha he) fun σ H Q h => tX_tV h

theorem v_addI {f : CV → CV → CH → Res CV} : True := trivial
theorem vop_int {f : CV → CV → CH → Res CV} {g : Int → Int → V} {C : Int → Int → Prop} {k : Int → Int → Bool} {gc : Int → Int → CV} {K : PySem.W.Frag}
    (hf : ∀ a b h, (∃ i j, a = .int i ∧ b = .int j ∧ k i j = true ∧ f a b h = .ok (gc i j) h) ∨ f a b h = .bad) (hC : ∀ i j, k i j = true → C i j) (hg : ∀ i j ρ H, RepV K B.sc ρ H (gc i j) (g i j)) : VOp2 K B f (rI C g) := by
  intro ρ H h c1 c2 v1 v2 W Q R r1 r2 p
  rcases hf c1 c2 h with ⟨i, j, rfl, rfl, hk, e⟩ | e
  · rw [e] at p
    exact ⟨i, j, r1, r2, hC i j hk, p.ok R (hg i j ρ H)⟩
  · rw [e] at p; exact p.elim
theorem vop_int0 {f : CV → CV → CH → Res CV} {g : Int → Int → V} {gc : Int → Int → CV} {K : PySem.W.Frag}
    (hf : ∀ a b h, (∃ i j, a = .int i ∧ b = .int j ∧ f a b h = .ok (gc i j) h) ∨ f a b h = .bad) (hg : ∀ i j ρ H, RepV K B.sc ρ H (gc i j) (g i j)) : VOp2 K B f (rI0 g) := by
  intro ρ H h c1 c2 v1 v2 W Q R r1 r2 p
  rcases hf c1 c2 h with ⟨i, j, rfl, rfl, e⟩ | e
  · rw [e] at p
    exact ⟨i, j, r1, r2, p.ok R (hg i j ρ H)⟩
  · rw [e] at p; exact p.elim
theorem v_sub {K : PySem.W.Frag} : VOp2 K B subV (rI0 fun i j => .int (i - j)) := vop_int0 (gc := fun i j => .int (i - j)) (fun a b h => by
  cases a <;> cases b <;> first | exact .inl ⟨_, _, rfl, rfl, rfl⟩ | exact .inr rfl) fun _ _ _ _ => rfl
theorem v_lt {K : PySem.W.Frag} : VOp2 K B ltV (rI0 fun i j => .bl (decide (i < j))) := vop_int0 (gc := fun i j => .bl (decide (i < j))) (fun a b h => by
  cases a <;> cases b <;> first | exact .inl ⟨_, _, rfl, rfl, rfl⟩ | exact .inr rfl) fun _ _ _ _ => rfl
theorem v_le {K : PySem.W.Frag} : VOp2 K B leV (rI0 fun i j => .bl (decide (i ≤ j))) := vop_int0 (gc := fun i j => .bl (decide (i ≤ j))) (fun a b h => by
  cases a <;> cases b <;> first | exact .inl ⟨_, _, rfl, rfl, rfl⟩ | exact .inr rfl) fun _ _ _ _ => rfl
theorem v_gt {K : PySem.W.Frag} : VOp2 K B gtV (rI0 fun i j => .bl (decide (j < i))) := vop_int0 (gc := fun i j => .bl (decide (j < i))) (fun a b h => by
  cases a <;> cases b <;> first | exact .inl ⟨_, _, rfl, rfl, rfl⟩ | exact .inr rfl) fun _ _ _ _ => rfl
theorem v_ge {K : PySem.W.Frag} : VOp2 K B geV (rI0 fun i j => .bl (decide (j ≤ i))) := vop_int0 (gc := fun i j => .bl (decide (j ≤ i))) (fun a b h => by
  cases a <;> cases b <;> first | exact .inl ⟨_, _, rfl, rfl, rfl⟩ | exact .inr rfl) fun _ _ _ _ => rfl
theorem v_mul {K : PySem.W.Frag} : VOp2 K B mulV (rI CMul fun i j => .int (i * j)) := vop_int (k := fun i j => decide ((-B64 < i ∧ i < B64) ∨ (-B64 < j ∧ j < B64))) (gc := fun i j => .int (i * j)) (fun a b h => by
  cases a <;> cases b <;> first
    | (rename_i i j
       by_cases hc : (-B64 < i ∧ i < B64) ∨ (-B64 < j ∧ j < B64)
       · exact .inl ⟨i, j, rfl, rfl, (by simp only [decide_eq_true_eq]; exact hc), (by simp only [mulV]; rw [if_pos hc])⟩
       · exact .inr (by simp only [mulV]; rw [if_neg hc]))
    | exact .inr rfl) (fun i j hk => by
      simp only [decide_eq_true_eq] at hk
      unfold B64 at hk
      show (-(2 ^ 64) < i ∧ i < 2 ^ 64) ∨ (-(2 ^ 64) < j ∧ j < 2 ^ 64)
      rw [show (2 : Int) ^ 64 = 18446744073709551616 by decide]
      exact hk) fun _ _ _ _ => rfl
theorem v_fdiv {K : PySem.W.Frag} : VOp2 K B fdivV (rI CDiv fun i j => .int (i / j)) := vop_int (k := fun i j => decide (0 < j ∧ j < 1073741824)) (gc := fun i j => .int (i / j)) (fun a b h => by
  cases a <;> cases b <;> first
    | (rename_i i j
       by_cases hc : 0 < j ∧ j < 1073741824
       · exact .inl ⟨i, j, rfl, rfl, decide_eq_true hc, if_pos hc⟩
       · exact .inr (if_neg hc))
    | exact .inr rfl) (fun i j hk => by
      simp only [decide_eq_true_eq] at hk
      exact hk) fun _ _ _ _ => rfl
theorem v_mod {K : PySem.W.Frag} : VOp2 K B modV (rI (fun _ j => 0 < j) fun i j => .int (i % j)) := vop_int (k := fun i j => decide (0 < j)) (gc := fun i j => .int (i % j)) (fun a b h => by
  cases a <;> cases b <;> first
    | (rename_i i j
       by_cases hc : 0 < j
       · exact .inl ⟨i, j, rfl, rfl, decide_eq_true hc, if_pos hc⟩
       · exact .inr (if_neg hc))
    | exact .inr rfl) (fun i j hk => of_decide_eq_true hk) fun _ _ _ _ => rfl
theorem se_sub (ha : SE X B W a ma) (hb : SE X B W b mb) : SE X B W (.BinOp a .Sub b pos) (e2 subV ma mb) := se_op2 op_sub v_sub ha hb
theorem se_mul (ha : SE X B W a ma) (hb : SE X B W b mb) : SE X B W (.BinOp a .Mult b pos) (e2 mulV ma mb) := se_op2 op_mul v_mul ha hb
theorem se_fdiv (ha : SE X B W a ma) (hb : SE X B W b mb) : SE X B W (.BinOp a .FloorDiv b pos) (e2 fdivV ma mb) := se_op2 op_fdiv v_fdiv ha hb
theorem se_mod (ha : SE X B W a ma) (hb : SE X B W b mb) : SE X B W (.BinOp a .Mod b pos) (e2 modV ma mb) := se_op2 op_mod v_mod ha hb
theorem tup_ne {K : PySem.W.Frag} {ρ : List Addr} {H : Hp} {xs : List CV} {vs : List V} (r : RepVs K B.sc ρ H xs vs) (h : xs ≠ []) : vs ≠ [] := fun e => by
  have l := r.len
  rw [e] at l
  exact h (List.length_eq_zero_iff.mp l.symm)
theorem Rel.lst {K : PySem.W.Frag} {ρ : List Addr} {H : Hp} {h : CH} {n : Nat} {xs : List CV} {v : V} (R : Rel K B ρ H h) (r : RepV K B.sc ρ H (.ref n) v) (e : h.os[n]? = some (.lst xs)) : ∃ a vs, ρ[n]? = some a ∧ v = .ref a ∧ H a = some (.lst vs) ∧ RepVs K B.sc ρ H xs vs := by
  obtain ⟨a, e1, e2⟩ := r
  obtain ⟨b, u, f1, f2, vs, f3, f4⟩ := R.obj n _ e
  rw [e1] at f1
  cases f1
  exact ⟨a, vs, e1, e2, by rw [f2, f3], f4⟩
theorem Rel.sq {K : PySem.W.Frag} {ρ : List Addr} {H : Hp} {h : CH} {c : CV} {xs : List CV} {v : V} (R : Rel K B ρ H h) (r : RepV K B.sc ρ H c v) (e : lstOf h c = some xs) : ∃ a vs, v = .ref a ∧ SqL K H a vs ∧ RepVs K B.sc ρ H xs vs := by
  cases c with
  | ref n =>
    have e' : (match h.os[n]? with
      | some (.lst xs) => some xs
      | _ => none) = some xs := e
    cases q : h.os[n]? with
    | none => rw [q] at e'; cases e'
    | some o =>
      rw [q] at e'
      cases o with
      | lst ys =>
        have ey : ys = xs := Option.some.inj e'
        subst ey
        obtain ⟨a, vs, _, e2, e3, e4⟩ := R.lst r q
        exact ⟨a, vs, e2, SqL.of e3, e4⟩
      | _ => cases e'
  | scr =>
    have e' : some (h.sc.map CV.int) = some xs := e
    have ex := Option.some.inj e'
    rw [R.scq] at ex
    obtain ⟨a, e1, e2⟩ := r
    exact ⟨a, _, e1, e2.sq, by rw [← ex]; exact RepVs.ints⟩
  | _ => cases e
theorem pts_append {a b : List Nat} (ha : Pts a) (hb : Pts b) : Pts (a ++ b) := fun c hc => (List.mem_append.mp hc).elim (ha c) (hb c)
theorem str_append (a b : List Nat) : (⟨a.toArray⟩ : Str) ++ (⟨b.toArray⟩ : Str) = ⟨(a ++ b).toArray⟩ := TL.ext_tl (by rw [TL.tl_append, TL.tl_mk, TL.tl_mk, TL.tl_mk])
theorem str_len (a : List Nat) : (⟨a.toArray⟩ : Str).length = a.length := by rw [TL.len_tl, TL.tl_mk]
theorem line_eq : LINE = sizeLine := by rw [sizeLine_eq]
abbrev rAddAny (K : PySem.W.Frag) : R2 := fun x y H Q => rI0 (fun i j => .int (i + j)) x y H Q ∨ (fun x y H Q => (fun x y H Q => ∃ i j, x = V.str i ∧ y = .str j ∧ i.length + j.length ≤ sizeLine ∧ Q (.str (i ++ j)) H) x y H Q ∨ (fun x y H Q => rCat x y H Q ∨ rCatT K x y H Q) x y H Q) x y H Q
theorem op_addAny : OpR X (binaryOp .Add) (rAddAny X.K) := op_add.or (op_add_str.or (op_cat.or op_catT))
theorem v_add {K : PySem.W.Frag} : VOp2 K B addV (rAddAny K) := by
  intro ρ H h c1 c2 v1 v2 W Q R r1 r2 p
  cases c1 with
  | int i =>
    cases c2 with
    | int j => exact .inl ⟨i, j, r1, r2, p.ok R rfl⟩
    | _ => exact p.elim
  | str s =>
    cases c2 with
    | str t =>
      have p' : Post K B (rV K B) W (if s.length + t.length ≤ LINE then .ok (.str (s ++ t)) h else .bad) ρ H Q := p
      by_cases hl : s.length + t.length ≤ LINE
      · rw [if_pos hl] at p'
        refine .inr (.inl ⟨_, _, r1.1, r2.1, by rw [str_len, str_len, ← line_eq]; exact hl, ?_⟩)
        rw [str_append]
        exact p'.ok R ⟨rfl, pts_append r1.2 r2.2⟩
      · rw [if_neg hl] at p'; exact p'.elim
    | _ => exact p.elim
  | tup xs =>
    cases c2 with
    | tup ys =>
      have p' : Post K B (rV K B) W (if xs ≠ [] ∧ ys ≠ [] ∧ xs.length + ys.length ≤ LINE then .ok (.tup (xs ++ ys)) h else .bad) ρ H Q := p
      by_cases hl : xs ≠ [] ∧ ys ≠ [] ∧ xs.length + ys.length ≤ LINE
      · rw [if_pos hl] at p'
        obtain ⟨a, vs, e1, q1, s1⟩ := r1
        obtain ⟨b, ws, e2, q2, s2⟩ := r2
        refine .inr (.inr (.inr ⟨a, b, vs, ws, e1, e2, SqT.of q1, SqT.of q2, tup_ne s1 hl.1, by rw [s1.len, s2.len, ← line_eq]; exact hl.2.2, ?_⟩))
        have fin : ∀ t, H t = none → Q (.ref t) (upd H t (.tup (vs ++ ws))) := fun t ht =>
          p' ρ (upd H t (.tup (vs ++ ws))) (.ref t) (List.prefix_refl _) (.new ht) ⟨R.scq, R.len, R.nd, fun i o ho => by
            obtain ⟨a', u, f1, f2, f3⟩ := R.obj i o ho
            exact ⟨a', u, f1, by rw [upd_ne (ne_of_none f2 ht)]; exact f2, f3.per (List.prefix_refl _) (.new ht)⟩⟩
            ⟨t, vs ++ ws, rfl, upd_same, (RepVs.per (List.prefix_refl _) (.new ht) _ _ s1).append (RepVs.per (List.prefix_refl _) (.new ht) _ _ s2)⟩
        first
          | exact ⟨fun z => absurd z (tup_ne s2 hl.2.1), fun _ => fin⟩
          | (rw [if_neg (tup_ne s2 hl.2.1)]; exact fin)
          | exact fin
      · rw [if_neg hl] at p'; exact p'.elim
    | _ => exact p.elim
  | ref m =>
    cases c2 with
    | ref n =>
      have p' : Post K B (rV K B) W (match h.os[m]?, h.os[n]? with
        | some (.lst a), some (.lst b) => if a.length + b.length ≤ LINE then alloc (.lst (a ++ b)) h else .bad
        | _, _ => .bad) ρ H Q := p
      cases q1 : h.os[m]? with
      | none => rw [q1] at p'; exact p'.elim
      | some o1 =>
        cases q2 : h.os[n]? with
        | none => rw [q1, q2] at p'; cases o1 <;> exact p'.elim
        | some o2 =>
          rw [q1, q2] at p'
          cases o1 with
          | lst xs =>
            cases o2 with
            | lst ys =>
              have p2 : Post K B (rV K B) W (if xs.length + ys.length ≤ LINE then alloc (.lst (xs ++ ys)) h else .bad) ρ H Q := p'
              by_cases hl : xs.length + ys.length ≤ LINE
              · rw [if_pos hl] at p2
                obtain ⟨a, vs, _, e1, h1, s1⟩ := R.lst r1 q1
                obtain ⟨b, ws, _, e2, h2, s2⟩ := R.lst r2 q2
                refine .inr (.inr (.inl ⟨a, b, vs, ws, e1, e2, h1, h2, by rw [s1.len, s2.len, ← line_eq]; exact hl, fun t ht => ?_⟩))
                refine Post.alloc (o := .lst (xs ++ ys)) R ht ⟨_, rfl, ?_⟩ p2
                exact (RepVs.per (List.prefix_append _ _) (.new ht) _ _ s1).append (RepVs.per (List.prefix_append _ _) (.new ht) _ _ s2)
              · rw [if_neg hl] at p2; exact p2.elim
            | _ => exact p'.elim
          | _ => exact p'.elim
    | _ => exact p.elim
  | _ => exact p.elim
theorem se_add (ha : SE X B W a ma) (hb : SE X B W b mb) : SE X B W (.BinOp a .Add b pos) (e2 addV ma mb) := se_op2 op_addAny v_add ha hb
end
end Cn
set_option Elab.async false
set_option linter.all false
set_option maxRecDepth 100000
set_option maxHeartbeats 4000000
namespace Cn
open PySem PySem.Spec PyProof.Rows L2

mutual
def toPy : CD → PyData
  | .non => .none
  | .bl b => .bool b
  | .int i => .int i
  | .str s => .str ⟨s.toArray⟩
  | .lst xs => .list (toPys xs)
  | .tup xs => .tuple (toPys xs)
def toPys : List CD → List PyData
  | [] => []
  | x :: xs => toPy x :: toPys xs
end
theorem beq_str (a b : List Nat) : ((⟨a.toArray⟩ : Str) == ⟨b.toArray⟩) = (a == b) := by
  by_cases e : a = b
  · subst e; simp
  · have h : ¬ (⟨a.toArray⟩ : Str) = ⟨b.toArray⟩ := fun q => e (by
      have := congrArg (fun z : Str => z.cps.toList) q
      simpa using this)
    rw [beq_eq_false_iff_ne.mpr h, beq_eq_false_iff_ne.mpr e]
mutual
theorem eqv_toPy : ∀ d e : CD, PyData.eqv (toPy d) (toPy e) = eqD d e
  | .non, e => by cases e <;> simp [toPy, PyData.eqv, eqD]
  | .bl b, e => by cases e <;> simp [toPy, PyData.eqv, eqD]
  | .int i, e => by cases e <;> simp [toPy, PyData.eqv, eqD]
  | .str s, e => by cases e <;> simp [toPy, PyData.eqv, eqD, beq_str]
  | .lst xs, .lst ys => by simp only [toPy, PyData.eqv, eqD]; exact eqv_toPys xs ys
  | .tup xs, .tup ys => by simp only [toPy, PyData.eqv, eqD]; exact eqv_toPys xs ys
  | .lst _, .non | .lst _, .bl _ | .lst _, .int _ | .lst _, .str _ | .lst _, .tup _ => by simp [toPy, PyData.eqv, eqD]
  | .tup _, .non | .tup _, .bl _ | .tup _, .int _ | .tup _, .str _ | .tup _, .lst _ => by simp [toPy, PyData.eqv, eqD]
theorem eqv_toPys : ∀ d e : List CD, PyData.eqvAll (toPys d) (toPys e) = eqDs d e
  | [], [] => by simp [toPys, PyData.eqvAll, eqDs]
  | [], _ :: _ => by simp [toPys, PyData.eqvAll, eqDs]
  | _ :: _, [] => by simp [toPys, PyData.eqvAll, eqDs]
  | x :: xs, y :: ys => by
    simp only [toPys, PyData.eqvAll, eqDs]
    rw [eqv_toPy x y, eqv_toPys xs ys]
end
theorem strOk_pts {s : List Nat} (h : Pts s) : PyData.strOk ⟨s.toArray⟩ = true := by
  unfold PyData.strOk
  rw [Array.all_toList.symm]
  simp only [List.all_eq_true]
  intro c hc
  exact decide_eq_true (h c hc)
theorem toPys_ints (l : List Int) : toPys (l.map CD.int) = l.map PyData.int := by
  induction l with
  | nil => rfl
  | cons i r ih => simp only [List.map_cons, toPys, toPy, ih]
theorem dpAll_ints {K : PySem.W.Frag} {H : Hp} : ∀ l : List Int, DpAll K H (l.map V.int) (l.map PyData.int)
  | [] => .nil
  | i :: r => .cons (.int i) (dpAll_ints r)
theorem canLay_ints : ∀ l : List Int, PyData.canLayAll0 (l.map PyData.int) = true
  | [] => rfl
  | i :: r => by
    simp only [List.map_cons, PyData.canLayAll0, PyData.canLay0, Bool.true_and]
    exact canLay_ints r
theorem depth_ints : ∀ l : List Int, PyData.depthAll (l.map PyData.int) = 0
  | [] => rfl
  | i :: r => by
    simp only [List.map_cons, PyData.depthAll, PyData.depth, depth_ints r] <;> rfl
section
variable {K : PySem.W.Frag} {B : Bs} {ρ : List Addr} {H : Hp} {h : CH}
structure DatOk (K : PySem.W.Frag) (H : Hp) (v : V) (d : CD) (f : Nat) : Prop where
  dp : Dp K H v (toPy d)
  lay : PyData.canLay0 (toPy d) = true
  dep : PyData.depth (toPy d) ≤ f
structure DatsOk (K : PySem.W.Frag) (H : Hp) (v : List V) (d : List CD) (f : Nat) : Prop where
  dp : DpAll K H v (toPys d)
  lay : PyData.canLayAll0 (toPys d) = true
  dep : PyData.depthAll (toPys d) ≤ f
mutual
theorem data_ok (R : Rel K B ρ H h) : ∀ (f : Nat) (c : CV) (v : V) (d : CD), dataC h f c = some d → RepV K B.sc ρ H c v → DatOk K H v d f
  | f, .non, v, d, e, r => by
    have ed : some CD.non = some d := by simpa [dataC] using e
    cases ed
    have ev : v = .non := r
    subst ev
    exact ⟨.non, rfl, Nat.zero_le _⟩
  | f, .bl b, v, d, e, r => by
    have ed : some (CD.bl b) = some d := by simpa [dataC] using e
    cases ed
    have ev : v = .bl b := r
    subst ev
    exact ⟨.bl b, rfl, Nat.zero_le _⟩
  | f, .int i, v, d, e, r => by
    have ed : some (CD.int i) = some d := by simpa [dataC] using e
    cases ed
    have ev : v = .int i := r
    subst ev
    exact ⟨.int i, rfl, Nat.zero_le _⟩
  | f, .str s, v, d, e, r => by
    have ed : some (CD.str s) = some d := by simpa [dataC] using e
    cases ed
    obtain ⟨ev, hp⟩ := r
    subst ev
    exact ⟨.str _, by simp only [toPy, PyData.canLay0]; exact strOk_pts hp, Nat.zero_le _⟩
  | 0, .tup xs, v, d, e, r => by simp [dataC] at e
  | 0, .ref n, v, d, e, r => by simp [dataC] at e
  | 0, .scr, v, d, e, r => by simp [dataC] at e
  | f + 1, .tup xs, v, d, e, r => by
    simp only [dataC] at e
    cases q : dataCs h f xs with
    | none => rw [q] at e; cases e
    | some ds =>
      rw [q] at e
      cases e
      obtain ⟨a, vs, ev, hs, hr⟩ := r
      subst ev
      obtain ⟨h1, h2, h3⟩ := datas_ok R f xs vs ds q hr
      exact ⟨.tup (SqT.of hs) h1, by simp only [toPy, PyData.canLay0]; exact h2, by simp only [toPy, PyData.depth]; omega⟩
  | f + 1, .ref n, v, d, e, r => by
    simp only [dataC] at e
    cases q0 : h.os[n]? with
    | none => rw [q0] at e; cases e
    | some o =>
      rw [q0] at e
      cases o with
      | lst xs =>
        simp only at e
        cases q : dataCs h f xs with
        | none => rw [q] at e; cases e
        | some ds =>
          rw [q] at e
          cases e
          obtain ⟨a, vs, _, ev, hs, hr⟩ := R.lst r q0
          subst ev
          obtain ⟨h1, h2, h3⟩ := datas_ok R f xs vs ds q hr
          exact ⟨.lst (SqL.of hs) h1, by simp only [toPy, PyData.canLay0]; exact h2, by simp only [toPy, PyData.depth]; omega⟩
      | _ => cases e
  | f + 1, .scr, v, d, e, r => by
    have ed : some (CD.lst (h.sc.map CD.int)) = some d := by simpa [dataC] using e
    cases ed
    obtain ⟨a, ev, hs⟩ := r
    subst ev
    rw [R.scq]
    refine ⟨?_, ?_, ?_⟩
    · simp only [toPy, toPys_ints]
      exact .lst hs.sq (dpAll_ints _)
    · simp only [toPy, PyData.canLay0, toPys_ints]
      exact canLay_ints _
    · simp only [toPy, PyData.depth, toPys_ints, depth_ints]
      omega
theorem datas_ok (R : Rel K B ρ H h) : ∀ (f : Nat) (c : List CV) (v : List V) (d : List CD), dataCs h f c = some d → RepVs K B.sc ρ H c v → DatsOk K H v d f
  | f, [], v, d, e, r => by
    have ed : some [] = some d := by simpa [dataCs] using e
    cases ed
    have ev : v = [] := r
    subst ev
    exact ⟨.nil, rfl, Nat.zero_le _⟩
  | f, x :: xs, v, d, e, r => by
    simp only [dataCs] at e
    cases q1 : dataC h f x with
    | none => rw [q1] at e; cases e
    | some d1 =>
      cases q2 : dataCs h f xs with
      | none => rw [q1, q2] at e; cases e
      | some ds =>
        rw [q1, q2] at e
        cases e
        obtain ⟨w, r', ev, hr1, hr2⟩ := r
        subst ev
        obtain ⟨h1, h2, h3⟩ := data_ok R f x w d1 q1 hr1
        obtain ⟨k1, k2, k3⟩ := datas_ok R f xs r' ds q2 hr2
        refine ⟨.cons h1 k1, ?_, ?_⟩
        · simp only [toPys, PyData.canLayAll0, h2, k2, Bool.and_self]
        · simp only [toPys, PyData.depthAll]
          omega
end
theorem shaped_of {d : CD} {v : V} {f : Nat} (o : DatOk K H v d f) (hf : f ≤ 64) : SeqAt.shaped (toPy d) = true := by
  unfold SeqAt.shaped
  rw [o.lay, decide_eq_true (Nat.le_trans o.dep hf)] <;> rfl
theorem v_eq : VOp2 K B eqV (rEqD K) := by
  intro ρ H h c1 c2 v1 v2 W Q R r1 r2 p
  unfold eqV at p
  cases q1 : dataC h 60 c1 with
  | none => rw [q1] at p; exact p.elim
  | some d =>
    cases q2 : dataC h 60 c2 with
    | none => rw [q1, q2] at p; exact p.elim
    | some e =>
      rw [q1, q2] at p
      have o1 := data_ok R 60 c1 v1 d q1 r1
      have o2 := data_ok R 60 c2 v2 e q2 r2
      refine ⟨toPy d, toPy e, o1.dp, o2.dp, shaped_of o1 (by decide), shaped_of o2 (by decide), ?_⟩
      rw [eqv_toPy]
      exact p.ok R rfl
theorem v_ne : VOp2 K B neV (rNeD K) := by
  intro ρ H h c1 c2 v1 v2 W Q R r1 r2 p
  unfold neV at p
  cases q1 : dataC h 60 c1 with
  | none => rw [q1] at p; exact p.elim
  | some d =>
    cases q2 : dataC h 60 c2 with
    | none => rw [q1, q2] at p; exact p.elim
    | some e =>
      rw [q1, q2] at p
      have o1 := data_ok R 60 c1 v1 d q1 r1
      have o2 := data_ok R 60 c2 v2 e q2 r2
      refine ⟨toPy d, toPy e, o1.dp, o2.dp, shaped_of o1 (by decide), shaped_of o2 (by decide), ?_⟩
      rw [eqv_toPy]
      exact p.ok R rfl

theorem flat_rep {c : CV} {v : V} (f : flatC c = true) (r : RepV K B.sc ρ H c v) : flatV v = true := by
  cases c with
  | non => have e : v = .non := r; subst e; rfl
  | bl b => have e : v = .bl b := r; subst e; rfl
  | int i => have e : v = .int i := r; subst e; rfl
  | str s => have e := r.1; subst e; rfl
  | _ => cases f
theorem eqF_ok {c d : CV} {v w : V} (f1 : flatC c = true) (f2 : flatC d = true) (r : RepV K B.sc ρ H c v) (r2 : RepV K B.sc ρ H d w) : L2.eqV v w = eqF c d := by
  cases c with
  | non =>
    have e : v = .non := r
    subst e
    cases d with
    | non => have e : w = .non := r2; subst e; rfl
    | bl b => have e : w = .bl b := r2; subst e; rfl
    | int i => have e : w = .int i := r2; subst e; rfl
    | str s => have e := r2.1; subst e; rfl
    | _ => cases f2
  | bl b =>
    have e : v = .bl b := r
    subst e
    cases d with
    | non => have e : w = .non := r2; subst e; rfl
    | bl b => have e : w = .bl b := r2; subst e; rfl
    | int i => have e : w = .int i := r2; subst e; rfl
    | str s => have e := r2.1; subst e; rfl
    | _ => cases f2
  | int i =>
    have e : v = .int i := r
    subst e
    cases d with
    | non => have e : w = .non := r2; subst e; rfl
    | bl b => have e : w = .bl b := r2; subst e; rfl
    | int i => have e : w = .int i := r2; subst e; rfl
    | str s => have e := r2.1; subst e; rfl
    | _ => cases f2
  | str s =>
    have e := r.1
    subst e
    cases d with
    | non => have e : w = .non := r2; subst e; rfl
    | bl b => have e : w = .bl b := r2; subst e; rfl
    | int i => have e : w = .int i := r2; subst e; rfl
    | str t =>
      have e := r2.1
      subst e
      exact beq_str s t
    | _ => cases f2
  | _ => cases f1
theorem any_ok {d : CV} {w : V} (f2 : flatC d = true) (r2 : RepV K B.sc ρ H d w) : ∀ {cs : List CV} {vs : List V}, cs.all flatC = true → RepVs K B.sc ρ H cs vs → L2.inV w vs = (cs.any fun y => eqF y d) ∧ vs.all flatV = true
  | [], vs, _, r => by
    have e : vs = [] := r
    subst e
    exact ⟨rfl, rfl⟩
  | c :: cs, vs, f, r => by
    obtain ⟨v, r', e, h1, h2⟩ := r
    subst e
    rw [List.all_cons, Bool.and_eq_true] at f
    obtain ⟨k1, k2⟩ := any_ok f2 r2 f.2 h2
    refine ⟨?_, ?_⟩
    · unfold L2.inV
      rw [List.any_cons, List.any_cons, eqF_ok f.1 f2 h1 r2]
      unfold L2.inV at k1
      rw [k1]
    · rw [List.all_cons, flat_rep f.1 h1, k2] <;> rfl
theorem Rel.sqT (R : Rel K B ρ H h) {c : CV} {xs : List CV} {v : V} (r : RepV K B.sc ρ H c v) (e : seqOf h c = some xs) : ∃ a vs, v = .ref a ∧ (SqL K H a vs ∨ SqT K H a vs) ∧ RepVs K B.sc ρ H xs vs := by
  cases c with
  | tup ys =>
    have ey : some ys = some xs := e
    cases ey
    obtain ⟨a, vs, e1, e2, e3⟩ := r
    exact ⟨a, vs, e1, .inr (SqT.of e2), e3⟩
  | ref n =>
    obtain ⟨a, vs, e1, e2, e3⟩ := R.sq r (show lstOf h (.ref n) = some xs from e)
    exact ⟨a, vs, e1, .inl e2, e3⟩
  | scr =>
    obtain ⟨a, vs, e1, e2, e3⟩ := R.sq r (show lstOf h .scr = some xs from e)
    exact ⟨a, vs, e1, .inl e2, e3⟩
  | _ => cases e
def rInAny (K : PySem.W.Frag) (neg : Bool) : R2 := fun x y H Q => (∃ (c : Nat) (z : Str), x = .str ⟨#[c]⟩ ∧ y = .str z ∧ Q (.bl (if neg then !decide (c ∈ z.cps.toList) else decide (c ∈ z.cps.toList))) H) ∨ rIn K neg x y H Q
theorem op_inAny {X : Cx} : OpR X (compareOp .In) (rInAny X.K false) := OpR.or op_in_sign op_in_seq
theorem op_notInAny {X : Cx} : OpR X (compareOp .NotIn) (rInAny X.K true) := OpR.or op_notIn_sign op_notIn_seq
theorem v_inB {x y : CV} {v w : V} {k : Bool} {neg : Bool} {Q : VK} (R : Rel K B ρ H h) (r1 : RepV K B.sc ρ H x v) (r2 : RepV K B.sc ρ H y w) (e : inB x y h = some k) (q : Q (.bl (if neg then !k else k)) H) : rInAny K neg v w H Q := by
  have seq : ∀ (c d : CV), c = x → d = y → (match seqOf h d with
    | some ys => if flatC c && ys.all flatC then some (ys.any fun y => eqF y c) else none
    | none => none) = some k → rInAny K neg v w H Q := fun c d ec ed e2 => by
    subst ec ed
    cases q0 : seqOf h d with
    | none => rw [q0] at e2; cases e2
    | some ys =>
      rw [q0] at e2
      simp only at e2
      by_cases hf : (flatC c && ys.all flatC) = true
      · rw [if_pos hf] at e2
        cases e2
        obtain ⟨f1, f2⟩ := Bool.and_eq_true_iff.mp hf
        obtain ⟨a, vs, e1, hs, hr⟩ := R.sqT r2 q0
        obtain ⟨k1, k2⟩ := any_ok f1 r1 f2 hr
        exact .inr ⟨a, vs, e1, hs, flat_rep f1 r1, k2, by rw [k1]; exact q⟩
      · rw [if_neg hf] at e2; cases e2
  unfold inB at e
  split at e
  · rename_i c z
    cases e
    have e1 := r1.1
    have e2 := r2.1
    subst e1 e2
    exact .inl ⟨c, _, rfl, rfl, q⟩
  · exact seq _ _ rfl rfl e
theorem v_in : VOp2 K B Cn.inV (rInAny K false) := by
  intro ρ H h c1 c2 v1 v2 W Q R r1 r2 p
  unfold Cn.inV at p
  cases q : inB c1 c2 h with
  | none => rw [q] at p; exact p.elim
  | some k =>
    rw [q] at p
    exact v_inB (neg := false) R r1 r2 q (p.ok R rfl)
theorem v_nin : VOp2 K B ninV (rInAny K true) := by
  intro ρ H h c1 c2 v1 v2 W Q R r1 r2 p
  unfold ninV at p
  cases q : inB c1 c2 h with
  | none => rw [q] at p; exact p.elim
  | some k =>
    rw [q] at p
    exact v_inB (neg := true) R r1 r2 q (p.ok R rfl)
end

section
variable {X : Cx} {B : Bs} {W : WX} {a b c e : Expr} {es : List Expr} {ma mb mc : ME CV} {pos : Pos} {k : Nat}
theorem se_eq (hr : Room k X.A) (ha : SE X B W a ma) (hb : SE X B W b mb) : SE X B W (.Compare a [.Eq] [b] pos) (e2 Cn.eqV ma mb) := se_cmp (op_eqD hr.units) v_eq ha hb (nomark _)
theorem se_ne (hr : Room k X.A) (ha : SE X B W a ma) (hb : SE X B W b mb) : SE X B W (.Compare a [.NotEq] [b] pos) (e2 neV ma mb) := se_cmp (op_neD hr.units) v_ne ha hb (nomark _)
theorem st_eq (hr : Room k X.A) (ha : SE X B W a ma) (hb : SE X B W b mb) : ST X B W (.Compare a [.Eq] [b] pos) (tV (e2 Cn.eqV ma mb)) := st_cmp (op_eqD hr.units) v_eq ha hb (nomark _)
theorem st_ne (hr : Room k X.A) (ha : SE X B W a ma) (hb : SE X B W b mb) : ST X B W (.Compare a [.NotEq] [b] pos) (tV (e2 neV ma mb)) := st_cmp (op_neD hr.units) v_ne ha hb (nomark _)
theorem se_lt (ha : SE X B W a ma) (hb : SE X B W b mb) : SE X B W (.Compare a [.Lt] [b] pos) (e2 ltV ma mb) := se_cmp op_lt v_lt ha hb (nomark _)
theorem se_le (ha : SE X B W a ma) (hb : SE X B W b mb) : SE X B W (.Compare a [.LtE] [b] pos) (e2 leV ma mb) := se_cmp op_le v_le ha hb (nomark _)
theorem se_gt (ha : SE X B W a ma) (hb : SE X B W b mb) : SE X B W (.Compare a [.Gt] [b] pos) (e2 gtV ma mb) := se_cmp op_gt v_gt ha hb (nomark _)
theorem se_ge (ha : SE X B W a ma) (hb : SE X B W b mb) : SE X B W (.Compare a [.GtE] [b] pos) (e2 geV ma mb) := se_cmp op_ge v_ge ha hb (nomark _)
theorem st_lt (ha : SE X B W a ma) (hb : SE X B W b mb) : ST X B W (.Compare a [.Lt] [b] pos) (tV (e2 ltV ma mb)) := st_cmp op_lt v_lt ha hb (nomark _)
theorem st_le (ha : SE X B W a ma) (hb : SE X B W b mb) : ST X B W (.Compare a [.LtE] [b] pos) (tV (e2 leV ma mb)) := st_cmp op_le v_le ha hb (nomark _)
theorem st_gt (ha : SE X B W a ma) (hb : SE X B W b mb) : ST X B W (.Compare a [.Gt] [b] pos) (tV (e2 gtV ma mb)) := st_cmp op_gt v_gt ha hb (nomark _)
theorem st_ge (ha : SE X B W a ma) (hb : SE X B W b mb) : ST X B W (.Compare a [.GtE] [b] pos) (tV (e2 geV ma mb)) := st_cmp op_ge v_ge ha hb (nomark _)
theorem se_in (ha : SE X B W a ma) (hb : SE X B W b mb) (hm : behindInMarks .In b = false := by rfl) : SE X B W (.Compare a [.In] [b] pos) (e2 Cn.inV ma mb) := se_cmp op_inAny v_in ha hb hm
theorem se_nin (ha : SE X B W a ma) (hb : SE X B W b mb) (hm : behindInMarks .NotIn b = false := by rfl) : SE X B W (.Compare a [.NotIn] [b] pos) (e2 ninV ma mb) := se_cmp op_notInAny v_nin ha hb hm
theorem st_in (ha : SE X B W a ma) (hb : SE X B W b mb) (hm : behindInMarks .In b = false := by rfl) : ST X B W (.Compare a [.In] [b] pos) (tV (e2 Cn.inV ma mb)) := st_cmp op_inAny v_in ha hb hm
theorem st_nin (ha : SE X B W a ma) (hb : SE X B W b mb) (hm : behindInMarks .NotIn b = false := by rfl) : ST X B W (.Compare a [.NotIn] [b] pos) (tV (e2 ninV ma mb)) := st_cmp op_notInAny v_nin ha hb hm
theorem rep_non {K : PySem.W.Frag} {ρ : List Addr} {H : Hp} {c : CV} {v : V} (r : RepV K B.sc ρ H c v) : decide (v = .non) = isNon c := by
  cases c with
  | non => have e : v = .non := r; subst e; rfl
  | bl b => have e : v = .bl b := r; subst e; rfl
  | int i => have e : v = .int i := r; subst e; rfl
  | str s => have e := r.1; subst e; rfl
  | ref n => obtain ⟨a, _, e⟩ := r; subst e; rfl
  | tup xs => obtain ⟨a, vs, e, _⟩ := r; subst e; rfl
  | scr => obtain ⟨a, e, _⟩ := r; subst e; rfl
theorem tX_isN {K : PySem.W.Frag} {σ : L2.St} {H : Hp} {Q : VK} (h : tX K B (rV K B) W (e1 isNV ma) σ H Q) : tIsN (tX K B (rV K B) W ma) σ H Q := by
  refine tX_bind (rep := rV K B) (f := fun _ => isNV) h fun ρ1 h1 s a v H1 R1 S1 r1 p1 => ?_
  rw [rep_non r1]
  exact p1.ok R1 rfl
theorem tX_notN {K : PySem.W.Frag} {σ : L2.St} {H : Hp} {Q : VK} (h : tX K B (rV K B) W (e1 notNV ma) σ H Q) : tNotN (tX K B (rV K B) W ma) σ H Q := by
  refine tX_bind (rep := rV K B) (f := fun _ => notNV) h fun ρ1 h1 s a v H1 R1 S1 r1 p1 => ?_
  rw [rep_non r1]
  exact p1.ok R1 rfl
theorem se_isN {j p2} (ha : SE X B W a ma) : SE X B W (.Compare a [.Is] [.Constant .none j p2] pos) (e1 isNV ma) := PE.imp (pe_cmp (pc_isN ha) rfl) fun σ H Q h => tX_isN h
theorem se_notN {j p2} (ha : SE X B W a ma) : SE X B W (.Compare a [.IsNot] [.Constant .none j p2] pos) (e1 notNV ma) := PE.imp (pe_cmp (pc_notN ha) rfl) fun σ H Q h => tX_notN h
theorem st_isN {j p2} (ha : SE X B W a ma) : ST X B W (.Compare a [.Is] [.Constant .none j p2] pos) (tV (e1 isNV ma)) := PT.imp (pt_cmp (pc_isN ha) rfl) fun σ H Q h => tX_isN (tX_tV h)
theorem st_notN {j p2} (ha : SE X B W a ma) : ST X B W (.Compare a [.IsNot] [.Constant .none j p2] pos) (tV (e1 notNV ma)) := PT.imp (pt_cmp (pc_notN ha) rfl) fun σ H Q h => tX_notN (tX_tV h)
end
end Cn
set_option Elab.async false
set_option linter.all false
set_option maxRecDepth 100000
set_option maxHeartbeats 4000000
namespace Cn
open PySem PySem.Spec PyProof.Rows L2

section
variable {X : Cx} {B : Bs} {W : WX} {a b c e o : Expr} {es : List Expr} {ma mb mc mo : ME CV} {ms : ME (List CV)} {pos : Pos} {k : Nat}
theorem sa_nil : SA X B W [] aNil := by
  refine PA.imp pa_nil fun σ H Q h => ?_
  obtain ⟨ρ, h0, s, R, S, p⟩ := h
  exact Post.ok R rfl p
theorem sa_cons (ha : SE X B W e ma) (hr : SA X B W es ms) (hs : starEach (e :: es) X.env = (false, eval e X.env) :: starEach es X.env := by rfl) : SA X B W (e :: es) (aCons ma ms) := by
  refine PA.imp (pa_cons ha hr hs) fun σ H Q h => ?_
  refine tX_bind (rep := rV X.K B) (f := fun s x h1 => (ms s h1).bind fun xs h2 => .ok (x :: xs) h2) h fun ρ1 h1 s a v H1 R1 S1 r1 p1 => ?_
  refine ⟨ρ1, h1, s, R1, S1, Post.imp (fun y H2 hh => ?_) (Post.bind (rVs X.K B) p1)⟩
  obtain ⟨xs, h2, ρ2, M, p2⟩ := hh
  exact Post.ok M.rel ⟨v, y, rfl, RepV.per M.pre M.per _ _ r1, M.rp⟩ p2
theorem Rel.fresh {K : PySem.W.Frag} {ρ : List Addr} {H : Hp} {h : CH} {t : Addr} {u : HO} (R : Rel K B ρ H h) (ht : H t = none) : Rel K B ρ (upd H t u) h :=
  ⟨R.scq, R.len, R.nd, fun i o ho => by
    obtain ⟨a', u, f1, f2, f3⟩ := R.obj i o ho
    exact ⟨a', u, f1, by rw [upd_ne (ne_of_none f2 ht)]; exact f2, f3.per (List.prefix_refl _) (.new ht)⟩⟩
theorem Post.tup {K : PySem.W.Frag} {W : XK} {ρ : List Addr} {H : Hp} {h : CH} {Q : VK} {xs : List CV} {vs : List V} {t : Addr} (R : Rel K B ρ H h) (ht : H t = none) (r : RepVs K B.sc ρ H xs vs) (p : Post K B (rV K B) W (.ok (.tup xs) h) ρ H Q) : Q (.ref t) (upd H t (.tup vs)) :=
  p ρ (upd H t (.tup vs)) (.ref t) (List.prefix_refl _) (.new ht) (R.fresh ht) ⟨t, vs, rfl, upd_same, RepVs.per (List.prefix_refl _) (.new ht) _ _ r⟩
theorem se_tup {x1} (ha : SA X B W es ms) : SE X B W (.Tuple es x1 pos) (eTup ms) := by
  refine PE.imp (pe_tup ha) fun σ H Q h => ?_
  refine tX_bind (rep := rVs X.K B) (f := fun _ xs h1 => if xs.length ≤ LINE then (.ok (CV.tup xs) h1 : Res CV) else .bad) h fun ρ1 h1 s xs vs H1 R1 S1 r1 p1 => ?_
  by_cases hl : xs.length ≤ LINE
  · rw [if_pos hl] at p1
    exact ⟨by rw [r1.len, ← line_eq]; exact hl, fun t ht => p1.tup R1 ht r1⟩
  · rw [if_neg hl] at p1; exact p1.elim
theorem se_lst (ha : SA X B W es ms) : SE X B W (.List es pos) (eLst ms) := by
  refine PE.imp (pe_lst ha) fun σ H Q h => ?_
  refine tX_bind (rep := rVs X.K B) (f := fun _ xs h1 => if xs.length ≤ LINE then alloc (.lst xs) h1 else .bad) h fun ρ1 h1 s xs vs H1 R1 S1 r1 p1 => ?_
  by_cases hl : xs.length ≤ LINE
  · rw [if_pos hl] at p1
    exact ⟨by rw [r1.len, ← line_eq]; exact hl, fun t ht => Post.alloc (o := .lst xs) R1 ht ⟨vs, rfl, RepVs.per (List.prefix_append _ _) (.new ht) _ _ r1⟩ p1⟩
  · rw [if_neg hl] at p1; exact p1.elim

theorem ix_eq (n : Nat) (i : Int) : ixC n i = ixN n i := rfl
theorem at_rep {K : PySem.W.Frag} {ρ : List Addr} {H : Hp} {xs : List CV} {vs : List V} {i : Int} {c : CV} (r : RepVs K B.sc ρ H xs vs) (e : atC xs i = some c) : ∃ v, atI vs i = some v ∧ RepV K B.sc ρ H c v := by
  unfold atC at e
  unfold atI
  rw [r.len, ← ix_eq]
  cases q : ixC xs.length i with
  | none => rw [q] at e; cases e
  | some j =>
    rw [q] at e
    exact r.get (show xs[j]? = some c from e)
theorem v_ix {K : PySem.W.Frag} : VOp2 K B ixV (rIx K) := by
  intro ρ H h c1 c2 v1 v2 W Q R r1 r2 p
  cases c2 with
  | int i =>
    have e2 : v2 = .int i := r2
    subst e2
    have lst : ∀ x : CV, x = c1 → Post K B (rV K B) W (match lstOf h x with
        | some xs => (match atC xs i with
          | some v => .ok v h
          | none => .bad)
        | none => .bad) ρ H Q → rIx K v1 (.int i) H Q := fun x ex p0 => by
      subst ex
      cases q : lstOf h x with
      | none => rw [q] at p0; exact p0.elim
      | some xs =>
        rw [q] at p0
        simp only at p0
        cases q2 : atC xs i with
        | none => rw [q2] at p0; exact p0.elim
        | some c =>
          rw [q2] at p0
          obtain ⟨a, vs, e, hs, hr⟩ := R.sq r1 q
          obtain ⟨w, h1, h2⟩ := at_rep hr q2
          exact .inl ⟨a, vs, i, w, e, rfl, hs, h1, p0.ok R h2⟩
    cases c1 with
    | tup xs =>
      have p' : Post K B (rV K B) W (match atC xs i with
        | some v => .ok v h
        | none => .bad) ρ H Q := p
      cases q2 : atC xs i with
      | none => rw [q2] at p'; exact p'.elim
      | some c =>
        rw [q2] at p'
        obtain ⟨a, vs, e, hs, hr⟩ := r1
        obtain ⟨w, h1, h2⟩ := at_rep hr q2
        exact .inr (.inl ⟨a, vs, i, w, e, rfl, SqT.of hs, h1, p'.ok R h2⟩)
    | str z =>
      have p' : Post K B (rV K B) W (if z.length ≤ LINE then (match atC z i with
        | some c => .ok (.str [c]) h
        | none => .bad) else .bad) ρ H Q := p
      by_cases hl : z.length ≤ LINE
      · rw [if_pos hl] at p'
        cases q2 : atC z i with
        | none => rw [q2] at p'; exact p'.elim
        | some c =>
          rw [q2] at p'
          have hm : c ∈ z := by
            unfold atC at q2
            cases q : ixC z.length i with
            | none => rw [q] at q2; cases q2
            | some j => rw [q] at q2; exact List.mem_of_getElem? (show z[j]? = some c from q2)
          exact .inr (.inr ⟨⟨z.toArray⟩, i, c, r1.1, rfl, by rw [str_len, ← line_eq]; exact hl, by show atI z i = some c; exact q2, p'.ok R ⟨rfl, fun d hd => by
            have ed : d = c := by simpa using hd
            rw [ed]; exact r1.2 c hm⟩⟩)
      · rw [if_neg hl] at p'; exact p'.elim
    | ref n => exact lst _ rfl p
    | scr => exact lst _ rfl p
    | _ => exact p.elim
  | _ => cases c1 <;> exact p.elim
theorem se_ix (ha : SE X B W a ma) (hb : SE X B W b mb) (hs : PlainIx b := by exact fun _ _ => rfl) : SE X B W (.Subscript a b pos) (e2 ixV ma mb) := PE.imp (pe_ix ix_seq ha hb hs) fun σ H Q h => tX_op2 v_ix h
theorem so_none : SO X B W none oNone := by
  refine PO.imp po_none fun σ H Q h => ?_
  obtain ⟨ρ, h0, s, R, S, p⟩ := h
  exact Post.ok R rfl p
theorem so_some (ha : SE X B W a ma) : SO X B W (some a) (oSome ma) := by
  refine PO.imp (po_some ha) fun σ H Q h => ?_
  refine tX_bind (rep := rV X.K B) (f := fun _ x h1 => match x with
    | .int i => .ok (some i) h1
    | _ => .bad) h fun ρ1 h1 s a v H1 R1 S1 r1 p1 => ?_
  cases a with
  | int i => exact ⟨i, r1, p1.ok R1 rfl⟩
  | _ => exact p1.elim
theorem six_eq (n d : Nat) (o : Option Int) : sixC n d o = HT.sIx n d o := by
  cases o with
  | none => rfl
  | some v =>
    have e := HT.clip_eq v n d
    show (if v < 0 then max (v + (n : Int)) 0 else min v (n : Int)).toNat = _
    rw [e] <;> rfl
theorem cut_eq {α : Type} (xs : List α) (lo hi : Option Int) : cutC xs lo hi = (xs.drop (HT.sIx xs.length 0 lo)).take (HT.sIx xs.length xs.length hi - HT.sIx xs.length 0 lo) := by
  unfold cutC
  rw [six_eq, six_eq]
theorem cut_rep {K : PySem.W.Frag} {ρ : List Addr} {H : Hp} {xs : List CV} {vs : List V} (lo hi : Option Int) (r : RepVs K B.sc ρ H xs vs) : RepVs K B.sc ρ H (cutC xs lo hi) (cutV vs lo hi) := by
  unfold cutV
  rw [cut_eq, r.len]
  exact (r.drop _).take _
theorem cut_mem {z : List Nat} {lo hi : Option Int} {c : Nat} (h : c ∈ cutC z lo hi) : c ∈ z := by
  unfold cutC at h
  exact List.mem_of_mem_drop (List.mem_of_mem_take h)
def VSl (K : PySem.W.Frag) (B : Bs) (r : V → Option Int → Option Int → Hp → VK → Prop) : Prop := ∀ ρ H h c v lo hi (W : XK) Q, Rel K B ρ H h → RepV K B.sc ρ H c v → Post K B (rV K B) W (sliceV c lo hi h) ρ H Q → r v lo hi H Q
abbrev rSlAny (K : PySem.W.Frag) : V → Option Int → Option Int → Hp → VK → Prop := fun x lo hi H Q => rSlL K x lo hi H Q ∨ (fun x lo hi H Q => rSlT K x lo hi H Q ∨ rSlS x lo hi H Q) x lo hi H Q
theorem sl_any : SlR X (rSlAny X.K) := sl_list.or (sl_tup.or sl_str)
theorem v_sl {K : PySem.W.Frag} : VSl K B (rSlAny K) := by
  intro ρ H h c v lo hi W Q R r p
  have lst : ∀ x : CV, x = c → Post K B (rV K B) W (match lstOf h x with
      | some xs => alloc (.lst (cutC xs lo hi)) h
      | none => .bad) ρ H Q → rSlAny K v lo hi H Q := fun x ex p0 => by
    subst ex
    cases q : lstOf h x with
    | none => rw [q] at p0; exact p0.elim
    | some xs =>
      rw [q] at p0
      obtain ⟨a, vs, e, hs, hr⟩ := R.sq r q
      exact .inl ⟨a, vs, e, hs, fun t ht => Post.alloc (o := .lst (cutC xs lo hi)) R ht ⟨_, rfl, cut_rep lo hi (RepVs.per (List.prefix_append _ _) (.new ht) _ _ hr)⟩ p0⟩
  cases c with
  | str z =>
    have p' : Post K B (rV K B) W (if z.length ≤ LINE then .ok (.str (cutC z lo hi)) h else .bad) ρ H Q := p
    by_cases hl : z.length ≤ LINE
    · rw [if_pos hl] at p'
      refine .inr (.inr ⟨⟨z.toArray⟩, r.1, by rw [str_len, ← line_eq]; exact hl, ?_⟩)
      have e : cutS ⟨z.toArray⟩ lo hi = ⟨(cutC z lo hi).toArray⟩ := by
        unfold cutS
        rw [cut_eq, str_len]
      rw [e]
      exact p'.ok R ⟨rfl, fun c hc => r.2 c (cut_mem hc)⟩
    · rw [if_neg hl] at p'; exact p'.elim
  | tup xs =>
    have p' : Post K B (rV K B) W (if (cutC xs lo hi).length < xs.length then .ok (.tup (cutC xs lo hi)) h else .bad) ρ H Q := p
    by_cases hl : (cutC xs lo hi).length < xs.length
    · rw [if_pos hl] at p'
      obtain ⟨a, vs, e, hs, hr⟩ := r
      refine .inr (.inl ⟨a, vs, e, SqT.of hs, fun z => ?_, fun t ht => p'.tup R ht (cut_rep lo hi hr)⟩)
      rw [hr.len] at z
      rw [cut_eq, z.1, z.2, List.drop_zero, Nat.sub_zero, List.take_length] at hl
      exact Nat.lt_irrefl _ hl
    · rw [if_neg hl] at p'; exact p'.elim
  | ref n => exact lst _ rfl p
  | scr => exact lst _ rfl p
  | _ => exact p.elim
theorem se_slice {lo hi : Option Expr} {ml mh : ME (Option Int)} {p2 : Pos} (ha : SE X B W a ma) (hl : SO X B W lo ml) (hh : SO X B W hi mh) : SE X B W (.Subscript a (.Slice lo hi none p2) pos) (eSlice ma ml mh) := by
  refine PE.imp (pe_slice sl_any ha hl hh) fun σ H Q h => ?_
  refine tX_bind (rep := rV X.K B) (f := fun s x h1 => (ml s h1).bind fun l h2 => (mh s h2).bind fun u h3 => sliceV x l u h3) h fun ρ1 h1 s a v H1 R1 S1 r1 p1 => ?_
  refine ⟨ρ1, h1, s, R1, S1, Post.imp (fun l H2 hh => ?_) (Post.bind (rEqual (Option Int)) p1)⟩
  obtain ⟨l', h2, ρ2, M, p2⟩ := hh
  have el : l' = l := M.rp
  subst el
  refine ⟨ρ2, h2, s, M.rel, S1.per M.pre M.per, Post.imp (fun u H3 hh => ?_) (Post.bind (rEqual (Option Int)) p2)⟩
  obtain ⟨u', h3, ρ3, M3, p3⟩ := hh
  have eu : u' = u := M3.rp
  subst eu
  exact v_sl ρ3 H3 h3 a v l' u' _ Q M3.rel (RepV.per (M.pre.trans M3.pre) (M.per.trans M3.per) _ _ r1) p3

def VCall (K : PySem.W.Frag) (B : Bs) (f : Def) (r : List V → Hp → VK → Prop) : Prop := ∀ ρ H h cs vs (W : XK) Q, Rel K B ρ H h → RepVs K B.sc ρ H cs vs → Post K B (rV K B) W (f cs h) ρ H Q → r vs H Q
theorem tX_call {K : PySem.W.Frag} {f : Def} {r : List V → Hp → VK → Prop} {σ : L2.St} {H : Hp} {Q : VK} (hv : VCall K B f r) (h : tX K B (rV K B) W (eCall f ms) σ H Q) : tCB r (tX K B (rVs K B) W ms) σ H Q :=
  tX_bind (rep := rVs K B) (f := fun _ => f) h fun ρ1 h1 s a v H1 R1 S1 r1 p1 => hv ρ1 H1 h1 a v _ Q R1 r1 p1
section
variable {x : Str} {p : Pos} {f : Def} {r : List V → Hp → VK → Prop} {id T : String}
theorem se_callB (hc : CallR X (.builtin id) r) (hv : VCall X.K B f r) (hg : Gl X x) (hm : X.mg x = none) (hb : bootBuiltins x = some (.builtin id)) (ha : SA X B W (e :: es) ms) (hn : x ≠ "__name__" := by decide +kernel) (hdb : (x == ("__debug__" : Str)) = false := by decide +kernel)
    (he : starEach (e :: es) X.env = (false, eval e X.env) :: starEach es X.env := by rfl) (hpl : (backTo pos (starEach es X.env)).any (·.1) = false := by rfl) : SE X B W (.Call (.Name x p) (e :: es) [] pos) (eCall f ms) :=
  PE.imp (pe_callB hc hg hm hb ha hn hdb he hpl) fun σ H Q h => tX_call hv h
theorem se_callT (hc : CallR X (.type T) r) (hv : VCall X.K B f r) (hg : Gl X x) (hm : X.mg x = none) (hb : bootBuiltins x = some (.type T)) (ha : SA X B W (e :: es) ms) (hn : x ≠ "__name__" := by decide +kernel) (hdb : (x == ("__debug__" : Str)) = false := by decide +kernel)
    (he : starEach (e :: es) X.env = (false, eval e X.env) :: starEach es X.env := by rfl) (hpl : (backTo pos (starEach es X.env)).any (·.1) = false := by rfl) : SE X B W (.Call (.Name x p) (e :: es) [] pos) (eCall f ms) :=
  PE.imp (pe_callTy hc hg hm hb ha hn hdb he hpl) fun σ H Q h => tX_call hv h
end
theorem one_rep {K : PySem.W.Frag} {ρ : List Addr} {H : Hp} {c : CV} {vs : List V} (r : RepVs K B.sc ρ H [c] vs) : ∃ v, vs = [v] ∧ RepV K B.sc ρ H c v := by
  obtain ⟨v, r', e, h1, h2⟩ := r
  have e2 : r' = [] := h2
  subst e2
  exact ⟨v, e, h1⟩
theorem two_rep {K : PySem.W.Frag} {ρ : List Addr} {H : Hp} {c d : CV} {vs : List V} (r : RepVs K B.sc ρ H [c, d] vs) : ∃ v w, vs = [v, w] ∧ RepV K B.sc ρ H c v ∧ RepV K B.sc ρ H d w := by
  obtain ⟨v, r', e, h1, h2⟩ := r
  obtain ⟨w, e2, h3⟩ := one_rep h2
  subst e2
  exact ⟨v, w, e, h1, h3⟩
theorem v_len {K : PySem.W.Frag} : VCall K B lenV (fun xs H Q => ∃ x n, xs = [x] ∧ LenV K x H n ∧ Q (.int n) H) := by
  intro ρ H h cs vs W Q R r p
  unfold lenV at p
  split at p
  · rename_i z
    obtain ⟨v, e, r1⟩ := one_rep r
    subst e
    by_cases hl : z.length ≤ LINE
    · rw [if_pos hl] at p
      have e1 := r1.1
      subst e1
      exact ⟨_, z.length, rfl, ⟨by rw [str_len, ← line_eq]; exact hl, by rw [str_len]⟩, p.ok R rfl⟩
    · rw [if_neg hl] at p; exact p.elim
  · rename_i xs
    obtain ⟨v, e, r1⟩ := one_rep r
    subst e
    obtain ⟨a, ws, e1, hs, hr⟩ := r1
    subst e1
    exact ⟨_, xs.length, rfl, .inr ⟨ws, SqT.of hs, hr.len.symm⟩, p.ok R rfl⟩
  · rename_i x _ _
    obtain ⟨v, e, r1⟩ := one_rep r
    subst e
    cases q : lstOf h x with
    | none => rw [q] at p; exact p.elim
    | some xs =>
      rw [q] at p
      obtain ⟨a, ws, e1, hs, hr⟩ := R.sq r1 q
      subst e1
      exact ⟨_, xs.length, rfl, .inl ⟨ws, hs, hr.len.symm⟩, p.ok R rfl⟩
  · exact p.elim
theorem v_abs {K : PySem.W.Frag} : VCall K B absV (fun xs H Q => ∃ i, xs = [.int i] ∧ Q (.int (if i < 0 then -i else i)) H) := by
  intro ρ H h cs vs W Q R r p
  unfold absV at p
  split at p
  · rename_i i
    obtain ⟨v, e, r1⟩ := one_rep r
    have e1 : v = .int i := r1
    subst e1
    exact ⟨i, e, p.ok R rfl⟩
  · exact p.elim
theorem log2_le {n : Nat} (h : n < 1000000000000000000000000000000) : n.log2 < 1920 := by
  by_cases h0 : n = 0
  · subst h0; decide
  · refine Nat.lt_trans ((Nat.log2_lt h0).mpr (Nat.lt_of_lt_of_le h (by decide : 1000000000000000000000000000000 ≤ 2 ^ 200))) (by decide)
theorem numC_pts (n : Nat) : Pts (numC n) := fun c hc => by
  have q : NumText.AllDigits (TL.numL n) := TL.numL_digits n
  have := q c hc
  omega
theorem v_str {K : PySem.W.Frag} : VCall K B strV (fun xs H Q => ∃ i, xs = [.int i] ∧ i.natAbs.log2 < 1920 ∧ Q (.str (toString i)) H) := by
  intro ρ H h cs vs W Q R r p
  unfold strV at p
  split at p
  · rename_i i
    obtain ⟨v, e, r1⟩ := one_rep r
    have e1 : v = .int i := r1
    subst e1
    by_cases hl : 0 ≤ i ∧ i < 1000000000000000000000000000000
    · rw [if_pos hl] at p
      refine ⟨i, e, log2_le (by omega), ?_⟩
      obtain ⟨n, en⟩ := Int.eq_ofNat_of_zero_le hl.1
      have es : (Str.ofString (toString i) : Str) = ⟨(numC i.toNat).toArray⟩ := TL.ext_tl (by
        rw [en]
        show TL.tl (Str.ofString (toString ((n : Nat) : Int))) = _
        rw [TL.tl_num, TL.tl_mk] <;> rfl)
      rw [es]
      exact p.ok R ⟨rfl, numC_pts _⟩
    · rw [if_neg hl] at p; exact p.elim
  · exact p.elim
abbrev rIntAny : List V → Hp → VK → Prop := fun xs H Q => ((∃ i, xs = [.int i] ∧ Q (.int i) H) ∨ ∃ k, xs = [.bl k] ∧ Q (.int (if k then 1 else 0)) H) ∨ ∃ a n, xs = [V.str a] ∧ PySem.intText? a = some n ∧ a.length ≤ 640 ∧ Q (.int n) H
theorem call_intAny : CallR X (.type "int") rIntAny := CallR.or call_int1 call_int_str
theorem v_int {K : PySem.W.Frag} : VCall K B intV rIntAny := by
  intro ρ H h cs vs W Q R r p
  unfold intV at p
  split at p
  · rename_i i
    obtain ⟨v, e, r1⟩ := one_rep r
    have e1 : v = .int i := r1
    subst e1
    exact .inl (.inl ⟨i, e, p.ok R rfl⟩)
  · rename_i k
    obtain ⟨v, e, r1⟩ := one_rep r
    have e1 : v = .bl k := r1
    subst e1
    exact .inl (.inr ⟨k, e, p.ok R rfl⟩)
  · rename_i z
    obtain ⟨v, e, r1⟩ := one_rep r
    have e1 := r1.1
    subst e1
    by_cases hl : z ≠ [] ∧ z.length ≤ 640 ∧ (z.all fun c => decide (48 ≤ c ∧ c ≤ 57)) = true
    · rw [if_pos hl] at p
      refine .inr ⟨_, _, e, intText_digits (x := ⟨z.toArray⟩) (fun c hc => ?_) hl.1 (by rw [str_len]; omega), by rw [str_len]; exact hl.2.1, p.ok R rfl⟩
      exact of_decide_eq_true (List.all_eq_true.mp hl.2.2 c hc)
    · rw [if_neg hl] at p; exact p.elim
  · exact p.elim
theorem se_len {x : Str} {p : Pos} (hg : Gl X "len") (hm : X.mg "len" = none) (ha : SA X B W [e] ms) (he : starEach [e] X.env = [(false, eval e X.env)] := by rfl) : SE X B W (.Call (.Name "len" p) [e] [] pos) (eCall lenV ms) :=
  se_callB call_len v_len hg hm PySem.boot_len ha (he := he)
def kindN (k : Nat) : String := if k = 0 then "NoneType" else if k = 1 then "bool" else if k = 2 then "int" else if k = 3 then "str" else if k = 4 then "tuple" else if k = 5 then "list" else "dict"
theorem kind_ty {K : PySem.W.Frag} {ρ : List Addr} {H : Hp} {h : CH} {c : CV} {v : V} (R : Rel K B ρ H h) (r : RepV K B.sc ρ H c v) (hk : kindC c h < 7) : TyX K H v (.type (kindN (kindC c h))) := by
  cases c with
  | non => have e : v = .non := r; subst e; exact .base .non
  | bl b => have e : v = .bl b := r; subst e; exact .base (.bl b)
  | int i => have e : v = .int i := r; subst e; exact .base (.int i)
  | str s => have e := r.1; subst e; exact .base (.str _)
  | tup xs =>
    obtain ⟨a, vs, e, hs, _⟩ := r
    subst e
    exact .base (.tup hs)
  | scr =>
    obtain ⟨a, e, hs⟩ := r
    subst e
    rcases hs with ⟨o, hs⟩ | ⟨o, its, n, hl, hc, _⟩
    · exact .base (.frz hs)
    · exact .kList hl hc
  | ref n =>
    obtain ⟨a, e1, e2⟩ := r
    subst e2
    have hk' : kindO h.os[n]? < 7 := hk
    have goal : ∀ m, m = kindO h.os[n]? → TyX K H (.ref a) (.type (kindN m)) := fun m em => by
      cases q : h.os[n]? with
      | none =>
        rw [q] at hk'
        exact absurd (show (8 : Nat) < 7 from hk') (by decide)
      | some o =>
        rw [q] at hk' em
        obtain ⟨a', u, f1, f2, f3⟩ := R.obj n o q
        rw [e1] at f1
        cases f1
        cases o with
        | lst xs =>
          obtain ⟨vs, e, _⟩ := f3
          subst em e
          exact .base (.lst f2)
        | dK kvs =>
          obtain ⟨vs, e, _⟩ := f3
          subst em e
          exact .base (.dK f2)
        | dT kvs =>
          obtain ⟨vs, e, _⟩ := f3
          subst em e
          exact .base (.dT f2)
        | ins c fs => exact absurd (show (7 : Nat) < 7 from hk') (by decide)
        | fz kvs => exact absurd (show (8 : Nat) < 7 from hk') (by decide)
    exact goal _ rfl
theorem kit_all : ∀ k j : Nat, k < 7 → j < 7 → j ≠ 2 → kitB (kindN k) (kindN j) = some (k == j) := by
  have h : ((List.range 7).all fun k => (List.range 7).all fun j => j == 2 || kitB (kindN k) (kindN j) == some (k == j)) = true := by decide +kernel
  intro k j hk hj hn
  have h1 := List.all_eq_true.mp h k (List.mem_range.mpr hk)
  have h2 := List.all_eq_true.mp h1 j (List.mem_range.mpr hj)
  rcases Bool.or_eq_true_iff.mp h2 with h3 | h3
  · exact absurd (eq_of_beq h3) hn
  · exact eq_of_beq h3
theorem se_isi {T : String} {p p2 : Pos} {j : Nat} (hj : j < 7) (h2 : j ≠ 2) (eT : kindN j = T) (hg : Gl X "isinstance") (hm : X.mg "isinstance" = none) (ha : SE X B W a ma) {xT : Str} (hgT : Gl X xT) (hmT : X.mg xT = none) (hvT : bootBuiltins xT = some (.type T))
    (hnT : xT ≠ "__name__" := by decide +kernel) (hdT : (xT == ("__debug__" : Str)) = false := by decide +kernel)
    (hs : starEach [a, .Name xT p2] X.env = (false, eval a X.env) :: starEach [.Name xT p2] X.env := by rfl) (hpl : (backTo pos (starEach [.Name xT p2] X.env)).any (·.1) = false := by rfl) :
    SE X B W (.Call (.Name "isinstance" p) [a, .Name xT p2] [] pos) (e1 (isiV j) ma) := by
  have hT : PE X (.Name xT p2) (tC (.ty T)) := pe_bltn hgT hmT hvT rfl hnT hdT
  refine PE.imp (pe_callB call_isi hg hm (by decide +kernel) (pa_cons ha (pa_cons hT pa_nil rfl) hs) (he := hs) (hpl := hpl)) fun σ H Q h => ?_
  refine tX_bind (rep := rV X.K B) (f := fun _ => isiV j) h fun ρ1 h1 s c v H1 R1 S1 r1 p1 => ?_
  unfold isiV at p1
  by_cases hk : kindC c h1 < 7
  · rw [if_pos hk] at p1
    refine ⟨v, .ty T, .type (kindN (kindC c h1)), .type T, (kindC c h1 == j), rfl, .ty T, kind_ty R1 r1 hk, ?_, p1.ok R1 rfl⟩
    rw [← eT]
    exact kit_ty (kit_all _ _ hk hj h2)
  · rw [if_neg hk] at p1; exact p1.elim

def VMeth (K : PySem.W.Frag) (B : Bs) (k : Nat) (f : Def) (r : V → List V → Hp → VK → Prop) : Prop := ∀ ρ H h c cs v vs (W : XK) Q, Rel K B ρ H h → RepV K B.sc ρ H c v → RepVs K B.sc ρ H cs vs → Post K B (rV K B) W (f (c :: cs) h) ρ H Q → r v vs H Q
theorem kind_no {k : Nat} {T : String} {P : Prop} (hT : (k = 3 ∧ T = "str") ∨ (k = 5 ∧ T = "list") ∨ (k = 6 ∧ T = "dict")) (j : Nat) (hj : j = k) (h : j ≠ 3 ∧ j ≠ 5 ∧ j ≠ 6) : P := by
  subst hj
  rcases hT with ⟨z, _⟩ | ⟨z, _⟩ | ⟨z, _⟩
  · exact absurd z h.1
  · exact absurd z h.2.1
  · exact absurd z h.2.2
theorem kind_is {K : PySem.W.Frag} {ρ : List Addr} {H : Hp} {h : CH} {c : CV} {v : V} {k : Nat} {T : String} (R : Rel K B ρ H h) (r : RepV K B.sc ρ H c v) (hk : kindC c h = k) (hT : (k = 3 ∧ T = "str") ∨ (k = 5 ∧ T = "list") ∨ (k = 6 ∧ T = "dict")) : tyV K T v H := by
  have is5 : ∀ {P : Prop}, (5 : Nat) = k → (T = "list" → P) → P := fun hj q => by
    subst hj
    rcases hT with ⟨z, _⟩ | ⟨_, e⟩ | ⟨z, _⟩
    · exact absurd z (by decide)
    · exact q e
    · exact absurd z (by decide)
  have is6 : ∀ {P : Prop}, (6 : Nat) = k → (T = "dict" → P) → P := fun hj q => by
    subst hj
    rcases hT with ⟨z, _⟩ | ⟨z, _⟩ | ⟨_, e⟩
    · exact absurd z (by decide)
    · exact absurd z (by decide)
    · exact q e
  cases c with
  | str s =>
    have e := r.1
    subst e
    have hk' : (3 : Nat) = k := hk
    subst hk'
    rcases hT with ⟨z, e⟩ | ⟨z, e⟩ | ⟨z, e⟩
    · exact e
    · exact absurd z (by decide)
    · exact absurd z (by decide)
  | scr =>
    obtain ⟨a, e, hs⟩ := r
    subst e
    exact is5 hk fun e => .inl ⟨e, _, hs.sq⟩
  | ref n =>
    obtain ⟨a, e1, e2⟩ := r
    subst e2
    have hk' : kindO h.os[n]? = k := hk
    cases q : h.os[n]? with
    | none =>
      rw [q] at hk'
      exact kind_no hT 8 hk' (by decide)
    | some o =>
      rw [q] at hk'
      obtain ⟨a', u, f1, f2, f3⟩ := R.obj n o q
      rw [e1] at f1
      cases f1
      cases o with
      | lst xs =>
        obtain ⟨vs, e, _⟩ := f3
        subst e
        exact is5 hk' fun e => .inl ⟨e, _, SqL.of f2⟩
      | dK kvs =>
        obtain ⟨vs, e, _⟩ := f3
        subst e
        exact is6 hk' fun e => .inr (.inr (.inl ⟨e, .inl ⟨_, f2⟩⟩))
      | dT kvs =>
        obtain ⟨vs, e, _⟩ := f3
        subst e
        exact is6 hk' fun e => .inr (.inr (.inl ⟨e, .inr ⟨_, f2⟩⟩))
      | ins c fs => exact kind_no hT 7 hk' (by decide)
      | fz kvs => exact kind_no hT 8 hk' (by decide)
  | non => exact kind_no hT 0 hk (by decide)
  | bl b => exact kind_no hT 1 hk (by decide)
  | int i => exact kind_no hT 2 hk (by decide)
  | tup xs => exact kind_no hT 4 hk (by decide)
section
variable {name : Str} {apos cpos : Pos} {T id : String} {r : V → List V → Hp → VK → Prop} {f : Def} {kd : Nat}
theorem se_bm (pa : PlainAttrs T) (slot : Slot T name id) (hty : typeOf (.builtin id) = pure (.type "method_descriptor")) (hm : MtR X id r) (hT : (kd = 3 ∧ T = "str") ∨ (kd = 5 ∧ T = "list") ∨ (kd = 6 ∧ T = "dict")) (hv : VMeth X.K B kd f r) (ho : SE X B W o mo) (ha : SA X B W (e :: es) ms)
    (hbase : attributeBase o name X.env (eval o X.env) = eval o X.env := by rfl)
    (hfew : ((backTo cpos (starEach (e :: es) X.env)).all (fun x => !x.1) && (backToKw cpos (keywordEach [] X.env)).all (fun x => x.1.isSome)
      && decide ((e :: es).length + ([] : List Keyword).length + (if ([] : List Keyword).isEmpty then 0 else 1) < 30)) = true := by rfl)
    (hline : (apos.endLine == cpos.line) = true := by rfl) (hs : starEach (e :: es) X.env = (false, eval e X.env) :: starEach es X.env := by rfl) (hplain : (backTo cpos (starEach es X.env)).any (·.1) = false := by rfl) :
    SE X B W (.Call (.Attribute o name apos) (e :: es) [] cpos) (eBM kd f mo ms) := by
  refine PE.imp (pe_bm pa slot hty hm ho ha hbase hfew hline hs hplain) fun σ H Q h => ?_
  refine tX_bind (rep := rV X.K B) (f := fun s x h1 => if kindC x h1 = kd then (ms s h1).bind fun xs h2 => f (x :: xs) h2 else .bad) h fun ρ1 h1 s c v H1 R1 S1 r1 p1 => ?_
  by_cases hk : kindC c h1 = kd
  · rw [if_pos hk] at p1
    refine ⟨kind_is R1 r1 hk hT, ρ1, h1, s, R1, S1, Post.imp (fun y H2 hh => ?_) (Post.bind (rVs X.K B) p1)⟩
    obtain ⟨xs, h2, ρ2, M, p2⟩ := hh
    exact hv ρ2 H2 h2 c xs v y _ Q M.rel (RepV.per M.pre M.per _ _ r1) M.rp p2
  · rw [if_neg hk] at p1; exact p1.elim
theorem se_bm0 (pa : PlainAttrs T) (slot : Slot T name id) (hty : typeOf (.builtin id) = pure (.type "method_descriptor")) (hm : MtR X id r) (hT : (kd = 3 ∧ T = "str") ∨ (kd = 5 ∧ T = "list") ∨ (kd = 6 ∧ T = "dict")) (hv : VMeth X.K B kd f r) (ho : SE X B W o mo)
    (hbase : attributeBase o name X.env (eval o X.env) = eval o X.env := by rfl) (hline : (apos.endLine == cpos.line) = true := by rfl) :
    SE X B W (.Call (.Attribute o name apos) [] [] cpos) (eBM kd f mo aNil) := by
  refine PE.imp (pe_bm0 pa slot hty hm ho hbase hline) fun σ H Q h => ?_
  refine tX_bind (rep := rV X.K B) (f := fun s x h1 => if kindC x h1 = kd then (aNil s h1).bind fun xs h2 => f (x :: xs) h2 else .bad) h fun ρ1 h1 s c v H1 R1 S1 r1 p1 => ?_
  by_cases hk : kindC c h1 = kd
  · rw [if_pos hk] at p1
    exact ⟨kind_is R1 r1 hk hT, hv ρ1 H1 h1 c [] v [] _ Q R1 r1 rfl p1⟩
  · rw [if_neg hk] at p1; exact p1.elim
end
theorem v_append {K : PySem.W.Frag} : VMeth K B 5 appendV rAppend := by
  intro ρ H h c cs v vs W Q R r rs p
  unfold appendV at p
  split at p
  · rename_i n x e
    injection e with e1 e2
    subst e1 e2
    obtain ⟨w, ew, rw'⟩ := one_rep rs
    subst ew
    cases q : h.os[n]? with
    | none => rw [q] at p; exact p.elim
    | some o =>
      rw [q] at p
      cases o with
      | lst xs =>
        have p' : Post K B (rV K B) W (if xs.length < LINE then .ok .non (h.set n (.lst (xs ++ [x]))) else .bad) ρ H Q := p
        by_cases hl : xs.length < LINE
        · rw [if_pos hl] at p'
          obtain ⟨a, ws, ea, ev, hH, hr⟩ := R.lst r q
          subst ev
          have mu : Mut (H a) := by rw [hH]; trivial
          refine ⟨a, ws, w, rfl, rfl, hH, by rw [hr.len, ← line_eq]; exact hl, p' ρ _ .non (List.prefix_refl _) (.write mu) (R.set ea mu ⟨_, rfl, ?_⟩) rfl⟩
          exact (RepVs.per (List.prefix_refl _) (.write mu) _ _ hr).append (RepVs.one (RepV.per (List.prefix_refl _) (.write mu) _ _ rw'))
        · rw [if_neg hl] at p'; exact p'.elim
      | _ => exact p.elim
  · exact p.elim
theorem v_popAt {K : PySem.W.Frag} : VMeth K B 5 popAtV rPopAt := by
  intro ρ H h c cs v vs W Q R r rs p
  unfold popAtV at p
  split at p
  · rename_i n i e
    injection e with e1 e2
    subst e1 e2
    obtain ⟨w, ew, rw'⟩ := one_rep rs
    have ew2 : w = .int i := rw'
    subst ew ew2
    cases q : h.os[n]? with
    | none => rw [q] at p; exact p.elim
    | some o =>
      rw [q] at p
      cases o with
      | lst xs =>
        have p' : Post K B (rV K B) W (if 0 ≤ i ∧ i < xs.length ∧ i < B62 then (match xs[i.toNat]? with
          | some v => .ok v (h.set n (.lst (xs.eraseIdx i.toNat)))
          | none => .bad) else .bad) ρ H Q := p
        by_cases hl : 0 ≤ i ∧ i < xs.length ∧ i < B62
        · rw [if_pos hl] at p'
          cases q2 : xs[i.toNat]? with
          | none => rw [q2] at p'; exact p'.elim
          | some y =>
            rw [q2] at p'
            obtain ⟨a, ws, ea, ev, hH, hr⟩ := R.lst r q
            subst ev
            have mu : Mut (H a) := by rw [hH]; trivial
            obtain ⟨z, hz, rz⟩ := hr.get q2
            have hb : i < 2 ^ 63 := by
              have := hl.2.2
              unfold B62 at this
              omega
            refine ⟨a, ws, i, i.toNat, z, rfl, rfl, hH, by omega, hb, ?_, hz, p' ρ _ z (List.prefix_refl _) (.write mu) (R.set ea mu ⟨_, rfl, ?_⟩) (RepV.per (List.prefix_refl _) (.write mu) _ _ rz)⟩
            · have hi : ixN ws.length i = some i.toNat := by
                unfold ixN
                rw [hr.len, if_pos hl.1, if_pos hl.2.1]
              exact (ixN_seq hi).1
            · exact (RepVs.per (List.prefix_refl _) (.write mu) _ _ hr).eraseIdx _
        · rw [if_neg hl] at p'; exact p'.elim
      | _ => exact p.elim
  · exact p.elim
theorem v_pop {K : PySem.W.Frag} : VMeth K B 5 popV rPop := by
  intro ρ H h c cs v vs W Q R r rs p
  unfold popV at p
  split at p
  · rename_i n e
    injection e with e1 e2
    subst e1 e2
    have ew : vs = [] := rs
    subst ew
    cases q : h.os[n]? with
    | none => rw [q] at p; exact p.elim
    | some o =>
      rw [q] at p
      cases o with
      | lst xs =>
        have p' : Post K B (rV K B) W (match xs[xs.length - 1]? with
          | some v => .ok v (h.set n (.lst xs.dropLast))
          | none => .bad) ρ H Q := p
        cases q2 : xs[xs.length - 1]? with
        | none => rw [q2] at p'; exact p'.elim
        | some y =>
          rw [q2] at p'
          obtain ⟨a, ws, ea, ev, hH, hr⟩ := R.lst r q
          subst ev
          have mu : Mut (H a) := by rw [hH]; trivial
          obtain ⟨z, hz, rz⟩ := hr.get q2
          exact ⟨a, ws, z, rfl, rfl, hH, by rw [hr.len]; exact hz, p' ρ _ z (List.prefix_refl _) (.write mu) (R.set ea mu ⟨_, rfl, (RepVs.per (List.prefix_refl _) (.write mu) _ _ hr).dropLast⟩) (RepV.per (List.prefix_refl _) (.write mu) _ _ rz)⟩
      | _ => exact p.elim
  · exact p.elim
theorem pre1 (c x : Nat) (r : List Nat) : TL.pre [c] (x :: r) = decide (x = c) := by
  unfold TL.pre
  by_cases e : x = c
  · subst e; simp
  · simp [e]
theorem par1 (c : Nat) : ∀ (l acc : List Nat), TL.par [c] acc l = match partC c l with
    | some (a, b) => some (acc ++ a, b)
    | none => none
  | [], acc => rfl
  | x :: r, acc => by
    unfold TL.par partC
    rw [pre1]
    by_cases e : x = c
    · rw [if_pos (decide_eq_true e), if_pos e]
      simp
    · rw [if_neg (by simp [e]), if_neg e, par1 c r (acc ++ [x])]
      cases partC c r with
      | none => rfl
      | some q =>
        obtain ⟨a, b⟩ := q
        simp
theorem partC_mem {c : Nat} : ∀ {l a b : List Nat}, partC c l = some (a, b) → l = a ++ c :: b
  | [], a, b, h => by cases h
  | x :: r, a, b, h => by
    unfold partC at h
    by_cases e : x = c
    · rw [if_pos e] at h
      cases h
      rw [e] <;> rfl
    · rw [if_neg e] at h
      cases q : partC c r with
      | none => rw [q] at h; cases h
      | some q' =>
        obtain ⟨a', b'⟩ := q'
        rw [q] at h
        cases h
        rw [partC_mem q] <;> rfl
theorem v_partition {K : PySem.W.Frag} : VMeth K B 3 partitionV (fun x xs H Q => ∃ a b, x = .str a ∧ xs = [.str b] ∧ (b.length == 0) = false ∧ a.length ≤ sizeLine ∧
    ∀ p, H p = none → Q (.ref p) (upd H p (.tup [.str (Txt.partition a b).1, .str (Txt.partition a b).2.1, .str (Txt.partition a b).2.2]))) := by
  intro ρ H h c cs v vs W Q R r rs p
  unfold partitionV at p
  split at p
  · rename_i a c' e
    injection e with e1 e2
    subst e1 e2
    obtain ⟨w, ew, rw'⟩ := one_rep rs
    have ev := r.1
    have ew2 := rw'.1
    subst ev ew ew2
    by_cases hl : a.length ≤ LINE ∧ c' < 256
    · rw [if_pos hl] at p
      refine ⟨_, _, rfl, rfl, rfl, by rw [str_len, ← line_eq]; exact hl.1, fun t ht => ?_⟩
      have e : Txt.partition ⟨a.toArray⟩ ⟨[c'].toArray⟩ = (match partC c' a with | some (x, y) => ((⟨x.toArray⟩, ⟨[c'].toArray⟩, ⟨y.toArray⟩) : Str × Str × Str) | none => (⟨a.toArray⟩, Str.empty, Str.empty)) := by
        rw [TL.partition_par _ _ (by simp)]
        show (match TL.par [c'] [] a with | some (a, b) => ((⟨a.toArray⟩, ⟨[c'].toArray⟩, ⟨b.toArray⟩) : Str × Str × Str) | none => (⟨a.toArray⟩, Str.empty, Str.empty)) = _
        rw [par1 c' a []]
        cases partC c' a with
        | none => rfl
        | some q => rfl
      rw [e]
      cases q : partC c' a with
      | none =>
        rw [q] at p
        refine Post.tup (xs := [.str a, .str [], .str []]) R ht ?_ p
        exact ⟨_, _, rfl, ⟨rfl, r.2⟩, _, _, rfl, ⟨rfl, fun _ z => nomatch z⟩, _, _, rfl, ⟨rfl, fun _ z => nomatch z⟩, rfl⟩
      | some q' =>
        obtain ⟨x, y⟩ := q'
        rw [q] at p
        have em := partC_mem q
        refine Post.tup (xs := [.str x, .str [c'], .str y]) R ht ?_ p
        exact ⟨_, _, rfl, ⟨rfl, fun d hd => r.2 d (by rw [em]; exact List.mem_append_left _ hd)⟩, _, _, rfl, ⟨rfl, rw'.2⟩, _, _, rfl, ⟨rfl, fun d hd => r.2 d (by rw [em]; exact List.mem_append_right _ (List.mem_cons_of_mem _ hd))⟩, rfl⟩
    · rw [if_neg hl] at p; exact p.elim
  · exact p.elim
theorem join_pts {sep : List Nat} (hs : Pts sep) : ∀ {zs : List (List Nat)}, (∀ z ∈ zs, Pts z) → Pts (joinC sep zs)
  | [], _ => fun _ h => nomatch h
  | [x], h => h x (List.mem_cons_self ..)
  | x :: y :: r, h => pts_append (pts_append (h x (List.mem_cons_self ..)) hs) (join_pts hs (zs := y :: r) fun z hz => h z (List.mem_cons_of_mem _ hz))
theorem join_str (sep : List Nat) : ∀ zs : List (List Nat), Str.join ⟨sep.toArray⟩ (zs.map fun z => (⟨z.toArray⟩ : Str)) = ⟨(joinC sep zs).toArray⟩
  | [] => rfl
  | [x] => rfl
  | x :: y :: r => by
    have ih := join_str sep (y :: r)
    show (⟨x.toArray⟩ : Str) ++ ⟨sep.toArray⟩ ++ Str.join ⟨sep.toArray⟩ ((y :: r).map fun z => (⟨z.toArray⟩ : Str)) = _
    rw [ih, str_append, str_append] <;> rfl
theorem v_join {K : PySem.W.Frag} : VMeth K B 3 joinV (fun x xs H Q => ∃ a p, ∃ ys : List Str, x = .str a ∧ xs = [.ref p] ∧ (SqL K H p (ys.map V.str) ∨ SqT K H p (ys.map V.str)) ∧
    (ys.map (·.length)).sum + ys.length * a.length ≤ 16777216 ∧ Q (.str (Txt.join a ys)) H) := by
  intro ρ H h c cs v vs W Q R r rs p
  unfold joinV at p
  split at p
  · rename_i a y e
    injection e with e1 e2
    subst e1 e2
    obtain ⟨w, ew, rw'⟩ := one_rep rs
    have ev := r.1
    subst ev ew
    cases q : seqOf h y with
    | none => rw [q] at p; exact p.elim
    | some xs =>
      rw [q] at p
      simp only at p
      cases q2 : strsOf xs with
      | none => rw [q2] at p; exact p.elim
      | some zs =>
        rw [q2] at p
        simp only at p
        obtain ⟨ad, us, eu, hs, hr⟩ := R.sqT rw' q
        obtain ⟨k1, k2⟩ := hr.strs q2
        subst eu k1
        by_cases hl : (zs.map (·.length)).sum + zs.length * a.length ≤ LINE
        · rw [if_pos hl] at p
          have el : (fun z : List Nat => (⟨z.toArray⟩ : Str).length) = fun z => z.length := funext fun z => str_len z
          refine ⟨_, ad, zs.map fun z => (⟨z.toArray⟩ : Str), rfl, rfl, hs, ?_, ?_⟩
          · rw [List.map_map, List.length_map, str_len]
            show (zs.map fun z => (⟨z.toArray⟩ : Str).length).sum + zs.length * a.length ≤ 16777216
            rw [el]
            exact hl
          · rw [TL.join_eq, join_str]
            exact p.ok R ⟨rfl, join_pts r.2 k2⟩
        · rw [if_neg hl] at p; exact p.elim
  · exact p.elim
end
end Cn
set_option Elab.async false
set_option linter.all false
set_option maxRecDepth 100000
set_option maxHeartbeats 4000000
namespace Cn
open PySem PySem.Spec PyProof.Rows L2
section
variable {X : Cx} {B : Bs} {W : WX} {a b c e o : Expr} {es rest : List Expr} {ma mb mc mo : ME CV} {ta tb : ME Bool} {ms : ME (List CV)} {pos : Pos} {k : Nat}
theorem tX_mono {α β : Type} {K : PySem.W.Frag} {rep : RP α β} {m : ME α} {σ : L2.St} {H : Hp} {Q Q' : β → Hp → Prop} (h : tX K B rep W m σ H Q) (hq : ∀ v H1, Q v H1 → Q' v H1) : tX K B rep W m σ H Q' := by
  obtain ⟨ρ, h0, s, R, S, p⟩ := h
  exact ⟨ρ, h0, s, R, S, p.imp hq⟩
theorem tX_bool {γ δ : Type} {K : PySem.W.Frag} {rep2 : RP γ δ} {m : ME Bool} {f : CS → Bool → CH → Res γ} {σ : L2.St} {H : Hp} {Q : δ → Hp → Prop} {R : Bool → Hp → Prop}
    (h : tX K B rep2 W (fun s h => (m s h).bind (f s)) σ H Q)
    (k : ∀ b H1, tX K B rep2 W (fun s h => f s b h) σ H1 Q → R b H1) : tX K B (rEqual Bool) W m σ H R :=
  tX_bind (rep := rEqual Bool) h fun ρ1 h1 s a v H1 R1 S1 r1 p1 => k v H1 (by
    have e : a = v := r1
    subst e
    exact ⟨ρ1, h1, s, R1, S1, p1⟩)
theorem tX_ok {α β : Type} {K : PySem.W.Frag} {rep : RP α β} {c : α} {v : β} {σ : L2.St} {H : Hp} {Q : β → Hp → Prop} (h : tX K B rep W (fun _ h => .ok c h) σ H Q) (r : ∀ ρ, rep ρ H c v) : Q v H := by
  obtain ⟨ρ, h0, s, R, S, p⟩ := h
  exact Post.ok R (r ρ) p
theorem sw_and1 (ha : ST X B W a ta) : SW X B W (.BoolOp .And [a] pos) ta := pw_and1 ha
theorem sw_or1 (ha : ST X B W a ta) : SW X B W (.BoolOp .Or [a] pos) ta := pw_or1 ha
theorem sw_and (ha : ST X B W a ta) (hb : SW X B W (.BoolOp .And (b :: rest) pos) tb) : SW X B W (.BoolOp .And (a :: b :: rest) pos) (Cn.tAnd ta tb) := by
  refine PW.imp (pw_and ha hb) fun σ H Q h => ?_
  refine tX_bool (f := fun s k h1 => if k then tb s h1 else .ok false h1) h fun k H1 h1 => ?_
  cases k with
  | true => exact h1
  | false => exact tX_ok (v := false) h1 fun _ => rfl
theorem sw_or (ha : ST X B W a ta) (hb : SW X B W (.BoolOp .Or (b :: rest) pos) tb) : SW X B W (.BoolOp .Or (a :: b :: rest) pos) (Cn.tOr ta tb) := by
  refine PW.imp (pw_or ha hb) fun σ H Q h => ?_
  refine tX_bool (f := fun s k h1 => if k then .ok true h1 else tb s h1) h fun k H1 h1 => ?_
  cases k with
  | true => exact tX_ok (v := true) h1 fun _ => rfl
  | false => exact h1
theorem st_w (h : SW X B W a ta) : ST X B W a ta := h.pt
theorem st_not (ha : ST X B W a ta) : ST X B W (.UnaryOp .Not a pos) (Cn.tNot ta) := by
  refine PT.imp (pt_not ha) fun σ H Q h => ?_
  exact tX_bool (f := fun s k h1 => .ok (!k) h1) h fun k H1 h1 => tX_ok (v := !k) h1 fun _ => rfl
theorem se_if (hc : ST X B W c ta) (ha : SE X B W a ma) (hb : SE X B W b mb) : SE X B W (.IfExp c a b pos) (eIf ta ma mb) := by
  refine PE.imp (pe_ifExp hc ha hb) fun σ H Q h => ?_
  refine tX_bool (f := fun s k h1 => if k then ma s h1 else mb s h1) h fun k H1 h1 => ?_
  cases k with
  | true => exact h1
  | false => exact h1
theorem se_one {op} (ha : SE X B W a ma) : SE X B W (.BoolOp op [a] pos) ma := pe_one ha
theorem tX_val {γ δ : Type} {K : PySem.W.Frag} {rep2 : RP γ δ} {m : ME CV} {f : CS → CV → CH → Res γ} {σ : L2.St} {H : Hp} {Q : δ → Hp → Prop} {R : V → Hp → Prop}
    (h : tX K B rep2 W (fun s h => (m s h).bind (f s)) σ H Q)
    (k : ∀ c v H1, (∃ ρ h1, Rel K B ρ H1 h1 ∧ RepV K B.sc ρ H1 c v) → tX K B rep2 W (fun s h => f s c h) σ H1 Q → R v H1) : tX K B (rV K B) W m σ H R :=
  tX_bind (rep := rV K B) h fun ρ1 h1 s a v H1 R1 S1 r1 p1 => k a v H1 ⟨ρ1, h1, R1, r1⟩ ⟨ρ1, h1, s, R1, S1, p1⟩
theorem se_and (ha : SE X B W a ma) (hb : SE X B W (.BoolOp .And (b :: rest) pos) mb) : SE X B W (.BoolOp .And (a :: b :: rest) pos) (eAnd ma mb) := by
  refine PE.imp (pe_and ha hb) fun σ H Q h => ?_
  refine tX_val (f := fun s x h1 => match x with
    | .bl true => mb s h1
    | .bl false => .ok (.bl false) h1
    | _ => .bad) h fun c v H1 ⟨ρ, h1, R, r⟩ h2 => ?_
  cases c with
  | bl k =>
    refine ⟨k, r, ?_⟩
    cases k with
    | true => exact h2
    | false => exact tX_ok (v := V.bl false) h2 fun _ => rfl
  | _ =>
    obtain ⟨_, _, _, _, _, p⟩ := h2
    exact p.elim
theorem se_or (ha : SE X B W a ma) (hb : SE X B W (.BoolOp .Or (b :: rest) pos) mb) : SE X B W (.BoolOp .Or (a :: b :: rest) pos) (eOr ma mb) := by
  refine PE.imp (pe_or ha hb) fun σ H Q h => ?_
  refine tX_val (f := fun s x h1 => match x with
    | .bl true => .ok (.bl true) h1
    | .bl false => mb s h1
    | _ => .bad) h fun c v H1 ⟨ρ, h1, R, r⟩ h2 => ?_
  cases c with
  | bl k =>
    refine ⟨k, r, ?_⟩
    cases k with
    | true => exact tX_ok (v := V.bl true) h2 fun _ => rfl
    | false => exact h2
  | _ =>
    obtain ⟨_, _, _, _, _, p⟩ := h2
    exact p.elim
theorem se_not (ha : SE X B W a ma) : SE X B W (.UnaryOp .Not a pos) (eNot ma) := by
  refine PE.imp (pe_not ha) fun σ H Q h => ?_
  refine tX_val (f := fun s x h1 => match x with
    | .bl k => (.ok (CV.bl (!k)) h1 : Res CV)
    | _ => .bad) h fun c v H1 ⟨ρ, h1, R, r⟩ h2 => ?_
  cases c with
  | bl k => exact ⟨k, r, tX_ok (v := V.bl (!k)) h2 fun _ => rfl⟩
  | _ =>
    obtain ⟨_, _, _, _, _, p⟩ := h2
    exact p.elim
theorem se_neg (ha : SE X B W a ma) : SE X B W (.UnaryOp .USub a pos) (e1 negV ma) := by
  refine PE.imp (pe_un un_neg ha) fun σ H Q h => ?_
  refine tX_val (f := fun _ => negV) h fun c v H1 ⟨ρ, h1, R, r⟩ h2 => ?_
  cases c with
  | int i => exact ⟨i, r, tX_ok (c := CV.int (-i)) (v := V.int (-i)) h2 fun _ => rfl⟩
  | _ =>
    obtain ⟨_, _, _, _, _, p⟩ := h2
    exact p.elim
theorem tX_chain {K : PySem.W.Frag} {f g : CV → CV → CH → Res CV} {r r' : R2} (hf : VOp2 K B f r) (hg : VOp2 K B g r') {σ : L2.St} {H : Hp} {Q : VK} (h : tX K B (rV K B) W (eChain f g ma mb mc) σ H Q) :
    tChain r r' (tX K B (rV K B) W ma) (tX K B (rV K B) W mb) (tX K B (rV K B) W mc) σ H Q := by
  refine tX_bind (rep := rV K B) (f := fun s x h1 => (mb s h1).bind fun y h2 => (f x y h2).bind fun z h3 => match z with
    | .bl true => (mc s h3).bind fun w h4 => g y w h4
    | .bl false => .ok (.bl false) h3
    | _ => .bad) h fun ρ1 h1 s a v H1 R1 S1 r1 p1 => ?_
  refine ⟨ρ1, h1, s, R1, S1, Post.imp (fun y H2 hh => ?_) (Post.bind (rV K B) p1)⟩
  obtain ⟨a2, h2, ρ2, M, p2⟩ := hh
  refine hf ρ2 H2 h2 a a2 v y _ _ M.rel (RepV.per M.pre M.per _ _ r1) M.rp (Post.imp (fun z H3 hh => ?_) (Post.bind (rV K B) p2))
  obtain ⟨a3, h3, ρ3, M3, p3⟩ := hh
  cases a3 with
  | bl k =>
    refine ⟨k, M3.rp, ?_⟩
    cases k with
    | true =>
      have goal : tX K B (rV K B) W mc σ H3 fun w H4 => r' y w H4 Q := by
        refine ⟨ρ3, h3, s, M3.rel, S1.per (M.pre.trans M3.pre) (M.per.trans M3.per), Post.imp (fun w H4 hh => ?_) (Post.bind (rV K B) p3)⟩
        obtain ⟨a4, h4, ρ4, M4, p4⟩ := hh
        exact hg ρ4 H4 h4 a2 a4 y w _ Q M4.rel (RepV.per (M3.pre.trans M4.pre) (M3.per.trans M4.per) _ _ M.rp) M4.rp p4
      exact goal
    | false => exact Post.ok (c := CV.bl false) M3.rel (show RepV K B.sc ρ3 H3 (.bl false) (.bl false) from rfl) p3
  | _ => exact p3.elim
theorem st_chain {op op' : CmpOp} {f g : CV → CV → CH → Res CV} {r r' : R2} (ho : OpR X (compareOp op) r) (ho' : OpR X (compareOp op') r') (hf : VOp2 X.K B f r) (hg : VOp2 X.K B g r') (ha : SE X B W a ma) (hb : SE X B W b mb) (hc : SE X B W c mc)
    (hm : lastMarks [op, op'] [b, c] = false := by with_unfolding_all rfl) : ST X B W (.Compare a [op, op'] [b, c] pos) (tV (eChain f g ma mb mc)) :=
  PT.imp (pt_chain ho ho' ha hb hc hm) fun σ H Q h => tX_chain (Q := fun x H' => ∃ k, x = .bl k ∧ Q k H') hf hg (tX_tV h)
theorem se_chain {op op' : CmpOp} {f g : CV → CV → CH → Res CV} {r r' : R2} (ho : OpR X (compareOp op) r) (ho' : OpR X (compareOp op') r') (hf : VOp2 X.K B f r) (hg : VOp2 X.K B g r') (ha : SE X B W a ma) (hb : SE X B W b mb) (hc : SE X B W c mc)
    (hm : lastMarks [op, op'] [b, c] = false := by with_unfolding_all rfl) : SE X B W (.Compare a [op, op'] [b, c] pos) (eChain f g ma mb mc) :=
  PE.imp (pe_chain ho ho' ha hb hc hm) fun σ H Q h => tX_chain hf hg h
end

def SOk (K : PySem.W.Frag) (B : Bs) (W : WX) (r : SR) (ρ : List Addr) (H : Hp) (D : Ends) : Prop := match r with
  | .nx s h => ∀ ρ' H' σ', ρ <+: ρ' → Per K H H' → Rel K B ρ' H' h → RepS K B ρ' H' s σ' → D.nx σ' H'
  | .rt c h => ∀ ρ' H' v, ρ <+: ρ' → Per K H H' → Rel K B ρ' H' h → RepV K B.sc ρ' H' c v → D.rt v H'
  | .bk s h => ∀ ρ' H' σ', ρ <+: ρ' → Per K H H' → Rel K B ρ' H' h → RepS K B ρ' H' s σ' → D.bk σ' H'
  | .ct s h => ∀ ρ' H' σ', ρ <+: ρ' → Per K H H' → Rel K B ρ' H' h → RepS K B ρ' H' s σ' → D.ct σ' H'
  | .ex c d s h => ∀ ρ' H' σ' dx, ρ <+: ρ' → Per K H H' → Rel K B ρ' H' h → RepS K B ρ' H' s σ' → RepX K B ρ' H' d dx → W (.ref (B.ca c)) dx σ' H'
  | .bad => False
def tS (K : PySem.W.Frag) (B : Bs) (W : WX) (m : MS) : TS := fun D σ H => ∃ ρ h s, Rel K B ρ H h ∧ RepS K B ρ H s σ ∧ SOk K B W (m s h) ρ H D
abbrev SS (X : Cx) (B : Bs) (W : WX) (st : Stmt) (m : MS) : Prop := PS X st (tS X.K B W m)
abbrev SSs (X : Cx) (B : Bs) (W : WX) (st : List Stmt) (m : MS) : Prop := PSs X st (tS X.K B W m)
theorem PS.imp {X : Cx} {st : Stmt} {t t' : TS} (p : PS X st t) (h : ∀ D σ H, t' D σ H → t D σ H) : PS X st t' := ⟨fun pins s σ H D I hw => p.run pins s σ H D I (h D σ H hw)⟩
theorem PSs.imp {X : Cx} {st : List Stmt} {t t' : TS} (p : PSs X st t) (h : ∀ D σ H, t' D σ H → t D σ H) : PSs X st t' := ⟨fun pins s σ H D I hw => p.run pins s σ H D I (h D σ H hw)⟩
section
variable {X : Cx} {B : Bs} {W : WX} {a b c e o : Expr} {es : List Expr} {st : Stmt} {sts sts' : List Stmt} {ma mb mc mo : ME CV} {ta : ME Bool} {ms : ME (List CV)} {m m' : MS} {pos : Pos} {K : PySem.W.Frag} {ρ ρ1 : List Addr} {H H1 : Hp} {D : Ends} {r : SR}
theorem SOk.later (a : ρ <+: ρ1) (b : Per K H H1) (p : SOk K B W r ρ H D) : SOk K B W r ρ1 H1 D := by
  cases r with
  | nx s h => exact fun ρ' H' σ' a' b' R S => p ρ' H' σ' (a.trans a') (b.trans b') R S
  | rt c h => exact fun ρ' H' v a' b' R S => p ρ' H' v (a.trans a') (b.trans b') R S
  | bk s h => exact fun ρ' H' σ' a' b' R S => p ρ' H' σ' (a.trans a') (b.trans b') R S
  | ct s h => exact fun ρ' H' σ' a' b' R S => p ρ' H' σ' (a.trans a') (b.trans b') R S
  | ex c d s h => exact fun ρ' H' σ' dx a' b' R S x => p ρ' H' σ' dx (a.trans a') (b.trans b') R S x
  | bad => exact p
theorem SOk.bind {α β : Type} {f : α → CH → SR} {rr : Res α} {s : CS} {σ : L2.St} (rep : RP α β) (S : RepS K B ρ H s σ) (p : SOk K B W (rBind rr s f) ρ H D) :
    Post K B rep (fun c d H' => W c d σ H') rr ρ H (fun v H1 => ∃ a h1 ρ1, Mid K B rep ρ H v H1 a h1 ρ1 ∧ SOk K B W (f a h1) ρ1 H1 D) := by
  cases rr with
  | ok c h' => exact fun ρ' H' v a b cc d => ⟨c, h', ρ', ⟨a, b, cc, d⟩, SOk.later a b (show SOk K B W (f c h') ρ H D from p)⟩
  | ex c d h' => exact fun ρ' H' dx a b R x => p ρ' H' σ dx a b R (S.per a b) x
  | bad => exact p
theorem tS_bind {α β : Type} {rep : RP α β} {m : ME α} {f : CS → α → CH → SR} {σ : L2.St} {Q : β → Hp → Prop} (h : tS K B W (fun s h => rBind (m s h) s (f s)) D σ H)
    (k : ∀ ρ1 h1 s a v H1, Rel K B ρ1 H1 h1 → RepS K B ρ1 H1 s σ → rep ρ1 H1 a v → SOk K B W (f s a h1) ρ1 H1 D → Q v H1) : tX K B rep W m σ H Q := by
  obtain ⟨ρ, h0, s, R0, S, p⟩ := h
  refine ⟨ρ, h0, s, R0, S, Post.imp (fun v H1 hh => ?_) (SOk.bind rep S p)⟩
  obtain ⟨a, h1, ρ1, M, p1⟩ := hh
  exact k ρ1 h1 s a v H1 M.rel (S.per M.pre M.per) M.rp p1
theorem SOk.nx {s : CS} {h : CH} {σ : L2.St} (R : Rel K B ρ H h) (S : RepS K B ρ H s σ) (p : SOk K B W (.nx s h) ρ H D) : D.nx σ H := p ρ H σ (List.prefix_refl _) Per.refl R S
theorem ss_nil : SSs X B W [] sNil := PSs.imp pss_nil fun D σ H h => by
  obtain ⟨ρ, h0, s, R0, S, p⟩ := h
  exact p.nx R0 S
theorem ss_one (h : SS X B W st m) : SSs X B W [st] m := pss_one h
theorem ss_cons (h1 : SS X B W st m) (h2 : SSs X B W sts m') : SSs X B W (st :: sts) (sSeq m m') := PSs.imp (pss_cons h1 h2) fun D σ H h => by
  obtain ⟨ρ, h0, s, R0, S, p⟩ := h
  refine ⟨ρ, h0, s, R0, S, ?_⟩
  have p' : SOk X.K B W (match m s h0 with
    | .nx s1 h1 => m' s1 h1
    | r => r) ρ H D := p
  cases q : m s h0 with
  | nx s1 h1 =>
    rw [q] at p'
    exact fun ρ' H' σ' a b R S' => ⟨ρ', h1, s1, R, S', SOk.later a b p'⟩
  | rt c h1 => rw [q] at p'; exact p'
  | bk s1 h1 => rw [q] at p'; exact p'
  | ct s1 h1 => rw [q] at p'; exact p'
  | ex c d s1 h1 => rw [q] at p'; exact p'
  | bad => rw [q] at p'; exact p'
theorem ss_pass : SS X B W (.Pass pos) sNil := PS.imp ps_pass fun D σ H h => by
  obtain ⟨ρ, h0, s, R0, S, p⟩ := h
  exact p.nx R0 S
theorem ss_cont : SS X B W (.Continue pos) sCont := PS.imp ps_continue fun D σ H h => by
  obtain ⟨ρ, h0, s, R0, S, p⟩ := h
  exact p ρ H σ (List.prefix_refl _) Per.refl R0 S
theorem ss_expr (ha : SE X B W a ma) (hs : swapsWith a none pos.line X.env = pure false := by rfl) : SS X B W (.Expr a pos) (sE ma) := PS.imp (ps_expr ha hs) fun D σ H h =>
  tS_bind (rep := rV X.K B) (f := fun s _ h1 => .nx s h1) h fun ρ1 h1 s c v H1 R S r p => p.nx R S
theorem ss_ret (ha : SE X B W a ma) : SS X B W (.Return (some a) pos) (sRet ma) := PS.imp (ps_ret ha) fun D σ H h =>
  tS_bind (rep := rV X.K B) (f := fun _ x h1 => .rt x h1) h fun ρ1 h1 s c v H1 R S r p => p ρ1 H1 v (List.prefix_refl _) Per.refl R r
theorem ss_retN : SS X B W (.Return none pos) sRetN := PS.imp ps_retN fun D σ H h => by
  obtain ⟨ρ, h0, s, R0, S, p⟩ := h
  exact p ρ H .non (List.prefix_refl _) Per.refl R0 rfl
theorem ss_set {i : Nat} {x : Str} {pos' : Pos} (hN : X.N.Nodup) (ha : SE X B W a ma) (hi : X.N[i]? = some x := by rfl) (hx : Loc X.env.scope x := by first | exact Or.inl rfl | exact Or.inr rfl) (hs : swapsWith a (some (.Name x pos')) pos.line X.env = pure false := by rfl)
    (hf : X.fn x = true ∨ X.env.scope.names.lookup x = some .local := by first | exact .inl rfl | exact .inr rfl | assumption) : SS X B W (.Assign [.Name x pos'] a pos) (sSet i ma) := PS.imp (ps_set hN hi hx ha hs hf) fun D σ H h =>
  tS_bind (rep := rV X.K B) (f := fun s x h1 => .nx (s.set i (some x)) h1) h fun ρ1 h1 s c v H1 R S r p => p.nx R (S.set r)
theorem ss_if (hc : ST X B W c ta) (ha : SSs X B W sts m) (hb : SSs X B W sts' m') : SS X B W (.If c sts sts' pos) (sIf ta m m') := PS.imp (ps_if hc ha hb) fun D σ H h => by
  refine tS_bind (rep := rEqual Bool) (f := fun s k h1 => if k then m s h1 else m' s h1) h fun ρ1 h1 s k v H1 R S r p => ?_
  have e : k = v := r
  subst e
  cases k with
  | true => exact ⟨ρ1, h1, s, R, S, p⟩
  | false => exact ⟨ρ1, h1, s, R, S, p⟩

theorem wipe_get (σ : L2.St) : ∀ (vs : List Nat) (j : Nat), (wipe σ vs)[j]? = if j ∈ vs ∧ j < σ.length then some none else σ[j]?
  | [], j => by simp [wipe]
  | v :: vs, j => by
    show ((wipe σ vs).set v none)[j]? = _
    by_cases hv : v = j
    · subst hv
      by_cases hl : v < σ.length
      · rw [List.getElem?_set_self (by rw [wipe_length]; exact hl), if_pos ⟨List.mem_cons_self .., hl⟩]
      · rw [List.getElem?_eq_none (by rw [List.length_set, wipe_length]; omega), if_neg (fun z => hl z.2), List.getElem?_eq_none (by omega)]
    · rw [List.getElem?_set_ne hv, wipe_get σ vs j]
      by_cases hm : j ∈ vs
      · by_cases hl : j < σ.length
        · rw [if_pos ⟨hm, hl⟩, if_pos ⟨List.mem_cons_of_mem _ hm, hl⟩]
        · rw [if_neg (fun z => hl z.2), if_neg (fun z => hl z.2)]
      · rw [if_neg (fun z => hm z.1), if_neg (fun z => by
          rcases List.mem_cons.mp z.1 with e | e
          · exact hv e.symm
          · exact hm e)]
theorem wipe_set {σ : L2.St} {own : List Nat} {i : Nat} {x : Option V} (hi : i ∈ own) : wipe (σ.set i x) own = wipe σ own := by
  refine List.ext_getElem? fun j => ?_
  rw [wipe_get, wipe_get, List.length_set]
  by_cases h : j ∈ own ∧ j < σ.length
  · rw [if_pos h, if_pos h]
  · rw [if_neg h, if_neg h]
    by_cases hij : i = j
    · subst hij
      have hl : ¬ i < σ.length := fun z => h ⟨hi, z⟩
      rw [List.getElem?_eq_none (by rw [List.length_set]; omega), List.getElem?_eq_none (by omega)]
    · rw [List.getElem?_set_ne hij]
def tG (K : PySem.W.Frag) (B : Bs) (own : List Nat) (g : MG) : TG := fun v σ H Q => ∃ ρ h s c, Rel K B ρ H h ∧ RepS K B ρ H s σ ∧ RepV K B.sc ρ H c v ∧ ∃ s1 h1, g c s h = some (s1, h1) ∧
  ∀ ρ' H' σ', ρ <+: ρ' → Per K H H' → Rel K B ρ' H' h1 → RepS K B ρ' H' s1 σ' → wipe σ' own = wipe σ own → Q σ' H'
def tGs (K : PySem.W.Frag) (B : Bs) (own : List Nat) (g : MGs) : TGs := fun vs σ H Q => ∃ ρ h s cs, Rel K B ρ H h ∧ RepS K B ρ H s σ ∧ RepVs K B.sc ρ H cs vs ∧ ∃ s1 h1, g cs s h = some (s1, h1) ∧
  ∀ ρ' H' σ', ρ <+: ρ' → Per K H H' → Rel K B ρ' H' h1 → RepS K B ρ' H' s1 σ' → wipe σ' own = wipe σ own → Q σ' H'
abbrev SG (X : Cx) (B : Bs) (own : List Nat) (tg : Expr) (g : MG) : Prop := PG X tg (tG X.K B own g)
abbrev SGs (X : Cx) (B : Bs) (own : List Nat) (tg : List Expr) (g : MGs) : Prop := PGs X tg (tGs X.K B own g)
theorem PG.imp {tg : Expr} {t t' : TG} (p : PG X tg t) (h : ∀ v σ H Q, t' v σ H Q → t v σ H Q) : PG X tg t' := ⟨fun pins s σ H v u Q I r hw => p.run pins s σ H v u Q I r (h v σ H Q hw)⟩
theorem PGs.imp {tg : List Expr} {t t' : TGs} (p : PGs X tg t) (h : ∀ v σ H Q, t' v σ H Q → t v σ H Q) : PGs X tg t' := ⟨fun pins s σ H v u Q I r hw => p.run pins s σ H v u Q I r (h v σ H Q hw)⟩
variable {own : List Nat}
theorem sg_name {i : Nat} {x : Str} (hN : X.N.Nodup) (hi : X.N[i]? = some x := by rfl) (ho : i ∈ own := by decide) (hx : Loc X.env.scope x := by first | exact Or.inl rfl | exact Or.inr rfl) (hf : X.fn x = true ∨ X.env.scope.names.lookup x = some .local := by first | exact .inl rfl | exact .inr rfl | assumption) : SG X B own (.Name x pos) (gSet i) :=
  PG.imp (pg_name hN hi hx hf) fun v σ H Q h => by
    obtain ⟨ρ, h0, s, c, R, S, r, s1, h1, e, q⟩ := h
    cases e
    exact q ρ H _ (List.prefix_refl _) Per.refl R (S.set r) (wipe_set ho)
theorem sgs_nil : SGs X B own [] gsNil := PGs.imp pgs_nil fun v σ H Q h => by
  obtain ⟨ρ, h0, s, cs, R, S, r, s1, h1, e, q⟩ := h
  cases cs with
  | nil =>
    cases e
    exact ⟨r, q ρ H σ (List.prefix_refl _) Per.refl R S rfl⟩
  | cons x xs => cases e
theorem sgs_cons {tg : Expr} {tgs : List Expr} {g : MG} {gs : MGs} (h1 : SG X B own tg g) (h2 : SGs X B own tgs gs) (hs : (assignEach (tg :: tgs) X.env).map (·.2) = assign tg X.env :: (assignEach tgs X.env).map (·.2) := by rfl) : SGs X B own (tg :: tgs) (gsCons g gs) := PGs.imp (pgs_cons h1 h2 hs) fun v σ H Q h => by
  obtain ⟨ρ, h0, s, cs, R, S, r, s1, h1, e, q⟩ := h
  cases cs with
  | nil => cases e
  | cons x xs =>
    obtain ⟨w, r', ev, r1, r2⟩ := r
    have e' : (match g x s h0 with
      | some (s1, h1) => gs xs s1 h1
      | none => none) = some (s1, h1) := e
    cases q1 : g x s h0 with
    | none => rw [q1] at e'; cases e'
    | some p1 =>
      obtain ⟨s2, h2⟩ := p1
      rw [q1] at e'
      refine ⟨w, r', ev, ρ, h0, s, x, R, S, r1, s2, h2, q1, fun ρ' H' σ' a b R' S' ew => ?_⟩
      exact ⟨ρ', h2, s2, xs, R', S', RepVs.per a b _ _ r2, s1, h1, e', fun ρ'' H'' σ'' a' b' R'' S'' ew' => q ρ'' H'' σ'' (a.trans a') (b.trans b') R'' S'' (ew'.trans ew)⟩
theorem sg_tup {tgs : List Expr} {kk : Nat} {gs : MGs} {n : Nat} (hc : X.calm = true) (h : SGs X B own tgs gs) (hn : (assignEach tgs X.env).length = n := by rfl) (hst : (assignEach tgs X.env).findIdx? (·.1) = none := by rfl) : SG X B own (.Tuple tgs kk pos) (Cn.gTup n gs) :=
  PG.imp (pg_tup hc h hn hst) fun v σ H Q hh => by
    obtain ⟨ρ, h0, s, c, R, S, r, s1, h1, e, q⟩ := hh
    cases c with
    | tup xs =>
      have e' : (if xs.length = n then gs xs s h0 else none) = some (s1, h1) := e
      by_cases hl : xs.length = n
      · rw [if_pos hl] at e'
        obtain ⟨ad, vs, ev, hs, hr⟩ := r
        exact ⟨ad, vs, ev, SqT.of hs, by rw [hr.len]; exact hl, ρ, h0, s, xs, R, S, hr, s1, h1, e', q⟩
      · rw [if_neg hl] at e'; cases e'
    | _ => cases e
theorem ss_asg {tg : Expr} {g : MG} (own : List Nat) (ha : SE X B W a ma) (hg : SG X B own tg g) (hs : swapsWithSole [tg] a pos.line X.env = pure false := by rfl) (hw : swappedStores [tg] a X.env = pure none := by rfl) (h1 : (assignEach [tg] X.env).map (·.2) = [assign tg X.env] := by rfl) :
    SS X B W (.Assign [tg] a pos) (sAsg ma g) := PS.imp (ps_asg ha hg hs hw h1) fun D σ H h => by
  refine tS_bind (rep := rV X.K B) (f := fun s x h1 => match g x s h1 with
    | some (s1, h2) => .nx s1 h2
    | none => .bad) h fun ρ1 h1 s c v H1 R S r p => ?_
  cases q : g c s h1 with
  | none => rw [q] at p; exact p.elim
  | some p1 =>
    obtain ⟨s2, h2⟩ := p1
    rw [q] at p
    exact ⟨ρ1, h1, s, c, R, S, r, s2, h2, q, fun ρ' H' σ' a b R' S' _ => p ρ' H' σ' a b R' S'⟩
def VSet (K : PySem.W.Frag) (B : Bs) (t : TSet) : Prop := ∀ ρ H h o i x vo vi vx h' Q, Rel K B ρ H h → RepV K B.sc ρ H o vo → RepV K B.sc ρ H i vi → RepV K B.sc ρ H x vx → setIxV o i x h = some h' → (∀ ρ' H', ρ <+: ρ' → Per K H H' → Rel K B ρ' H' h' → Q H') → t vo vi vx H Q
theorem v_set : VSet K B rSetL := by
  intro ρ H h o i x vo vi vx h' Q R ro ri rx e q
  cases o with
  | ref n =>
    cases i with
    | int k =>
      have e' : (match h.os[n]? with
        | some (.lst xs) => (match ixC xs.length k with
          | some j => some (h.set n (.lst (xs.set j x)))
          | none => none)
        | _ => none) = some h' := e
      have ei : vi = .int k := ri
      subst ei
      cases q1 : h.os[n]? with
      | none => rw [q1] at e'; cases e'
      | some ob =>
        rw [q1] at e'
        cases ob with
        | lst xs =>
          simp only at e'
          cases q2 : ixC xs.length k with
          | none => rw [q2] at e'; cases e'
          | some j =>
            rw [q2] at e'
            cases e'
            obtain ⟨a, ws, ea, ev, hH, hr⟩ := R.lst ro q1
            subst ev
            have mu : Mut (H a) := by rw [hH]; trivial
            exact ⟨a, ws, k, j, rfl, rfl, hH, by rw [hr.len]; exact q2, q ρ _ (List.prefix_refl _) (.write mu) (R.set ea mu ⟨_, rfl, (RepVs.per (List.prefix_refl _) (.write mu) _ _ hr).set (RepV.per (List.prefix_refl _) (.write mu) _ _ rx) j⟩)⟩
        | _ => cases e'
    | _ => cases e
  | _ => cases e
theorem ss_setIx {p2 : Pos} (hv : SE X B W a ma) (ho : SE X B W o mo) (hi : SE X B W b mb) (hs : swapsWithSole [.Subscript o b p2] a pos.line X.env = pure false := by rfl) (hw : swappedStores [.Subscript o b p2] a X.env = pure none := by rfl)
    (h1 : (assignEach [.Subscript o b p2] X.env).map (·.2) = [assign (.Subscript o b p2) X.env] := by rfl)
    (ha : ∀ v, assign (.Subscript o b p2) X.env v = (do
      let ov ← holding [v] (eval o X.env)
      let iv ← holding [v, ov] (eval b X.env)
      standAt p2
      holding [v, ov, iv] (setItem ov iv v)
      release [v, ov, iv] []) := by intro _; rfl) : SS X B W (.Assign [.Subscript o b p2] a pos) (sSetIx ma mo mb) := PS.imp (ps_asg hv (pg_sub ho hi set_list ha) hs hw h1) fun D σ H h => by
  refine tS_bind (rep := rV X.K B) (f := fun s x h1 => rBind (mo s h1) s fun y h2 => rBind (mb s h2) s fun z h3 => match setIxV y z x h3 with
    | some h4 => .nx s h4
    | none => .bad) h fun ρ1 h1 s x vx H1 R S r p => ?_
  refine ⟨ρ1, h1, s, R, S, Post.imp (fun vy H2 hh => ?_) (SOk.bind (rV X.K B) S p)⟩
  obtain ⟨y, h2, ρ2, M2, p2⟩ := hh
  refine ⟨ρ2, h2, s, M2.rel, S.per M2.pre M2.per, Post.imp (fun vz H3 hh => ?_) (SOk.bind (rV X.K B) (S.per M2.pre M2.per) p2)⟩
  obtain ⟨z, h3, ρ3, M3, p3⟩ := hh
  cases q : setIxV y z x h3 with
  | none => rw [q] at p3; exact p3.elim
  | some h4 =>
    rw [q] at p3
    exact v_set ρ3 H3 h3 y z x vy vz vx h4 _ M3.rel (RepV.per M3.pre M3.per _ _ M2.rp) M3.rp (RepV.per (M2.pre.trans M3.pre) (M2.per.trans M3.per) _ _ r) q fun ρ' H' a b R' =>
      p3 ρ' H' σ a b R' ((S.per (M2.pre.trans M3.pre) (M2.per.trans M3.per)).per a b)
end
end Cn
set_option Elab.async false
set_option linter.all false
set_option maxRecDepth 100000
set_option maxHeartbeats 4000000
namespace Cn
open PySem PySem.Spec PyProof.Rows L2
section
variable {X : Cx} {B : Bs} {W : WX} {a b c e o tg : Expr} {es : List Expr} {st : Stmt} {sts sts' : List Stmt} {ma mb mc mo : ME CV} {ta : ME Bool} {ms : ME (List CV)} {m m' : MS} {g : MG} {pos : Pos} {K : PySem.W.Frag} {ρ ρ1 : List Addr} {H H1 : Hp} {D : Ends} {r : SR}
theorem ss_while (n : Nat) (hp : PassesOwn (model X.prog X.w) X.A X.env X.xe) (hc : ST X B W c ta) (hb : SSs X B W sts m) : SS X B W (.While c sts [] pos) (sWhile ta m n) := PS.imp (ps_while hp hc hb) fun D σ H h => by
  obtain ⟨ρ0, h0, s0, R0, S0, p0⟩ := h
  refine ⟨fun n σ H => ∃ ρ h s, Rel X.K B ρ H h ∧ RepS X.K B ρ H s σ ∧ SOk X.K B W (sWhile ta m n s h) ρ H D, ⟨n, ρ0, h0, s0, R0, S0, p0⟩, ?_⟩
  rintro n σ H ⟨ρ, h, s, R, S, p⟩
  cases n with
  | zero => exact p.elim
  | succ n =>
    refine tS_bind (rep := rEqual Bool) (m := ta) (f := fun s k h1 => if k then (match m s h1 with
      | .nx s2 h2 => sWhile ta m n s2 h2
      | .ct s2 h2 => sWhile ta m n s2 h2
      | .bk s2 h2 => .nx s2 h2
      | r => r) else .nx s h1) ⟨ρ, h, s, R, S, p⟩ fun ρ1 h1 s k v H1 R S r p => ?_
    have e : k = v := r
    subst e
    cases k with
    | true =>
      rw [if_pos rfl] at p ⊢
      refine ⟨fun σ H => ∃ ρ h s, Rel X.K B ρ H h ∧ RepS X.K B ρ H s σ ∧ SOk X.K B W (sWhile ta m n s h) ρ H D, fun σ' H' w => ⟨n, Nat.lt_succ_self _, w⟩, ρ1, h1, s, R, S, ?_⟩
      cases q : m s h1 with
      | nx s2 h2 => rw [q] at p; exact fun ρ' H' σ' a b R' S' => ⟨ρ', h2, s2, R', S', SOk.later a b p⟩
      | ct s2 h2 => rw [q] at p; exact fun ρ' H' σ' a b R' S' => ⟨ρ', h2, s2, R', S', SOk.later a b p⟩
      | bk s2 h2 => rw [q] at p; exact p
      | rt x h2 => rw [q] at p; exact p
      | ex c d s2 h2 => rw [q] at p; exact p
      | bad => rw [q] at p; exact p
    | false =>
      rw [if_neg Bool.false_ne_true] at p ⊢
      exact p.nx R S

structure ItOk (K : PySem.W.Frag) (B : Bs) (J : It) (x : CV) (v : V) : Prop where
  stop : ∀ ρ H h i, Rel K B ρ H h → RepV K B.sc ρ H x v → itemAt x i h = some none → J.stop i H
  go : ∀ ρ H h i c, Rel K B ρ H h → RepV K B.sc ρ H x v → itemAt x i h = some (some c) → J.go i H ∧ ∀ y H', J.yld i H y H' → H' = H ∧ RepV K B.sc ρ H c y
def iAny (K : PySem.W.Frag) (tl : TE) : TI := fun σ H R => tl σ H fun x H1 => (∃ a, x = .ref a ∧ (∃ xs, SqL K H1 a xs) ∧ ∀ J : It, (∀ i H, (∃ xs x, SqL K H a xs ∧ xs[i]? = some x) → J.go i H) → (∀ i H y H', J.yld i H y H' → H' = H ∧ ∀ xs, SqL K H a xs → xs[i]? = some y) → (∀ i H, (∃ xs, SqL K H a xs ∧ xs.length ≤ i) → J.stop i H) → R J H1) ∨
  (∃ a, x = .ref a ∧ (∃ xs, SqT K H1 a xs) ∧ R (Itt K a) H1) ∨ ∃ z, x = .str z ∧ R (Its z) H1
theorem pi_any {l : Expr} {tl : TE} (hl : PE X l tl) : PI X tg l (iAny X.K tl) := by
  refine ⟨fun pins s σ H R I h => ?_⟩
  refine thn (hl.run pins s σ H _ I h) fun v s1 ⟨x, H1, I1, r1, q1⟩ => ?_
  rcases q1 with ⟨a, e, ⟨xs, hq⟩, q⟩ | ⟨a, e, ⟨xs, hq⟩, q⟩ | ⟨x, ex, q⟩
  · subst e
    cases r1
    obtain ⟨its, rv, p, hz⟩ := I1.list hq
    refine wpAny_pyIter_list p.isList ?_
    refine ⟨s1.heap.objs.size, [s1.heap.objs.size], _, _, H1, rfl, I1.kept (t' := s1.toks) fun b o e => Heap.get?_push_of_some _ e, turn_list a _, ⟨_, Heap.get?_push_size _ rfl, rfl, rfl⟩, fun b hb => ?_, q (Itl X.K a) (fun _ _ h => h) (fun _ _ _ _ h => h) fun _ _ h => h⟩
    have e : b = s1.heap.objs.size := by simpa using hb
    subst e
    exact I1.fpOk (Nat.le_refl _) (I1.hok.fresh (Nat.le_refl _))
  · subst e
    cases r1
    obtain ⟨its, rv, p, hz⟩ := I1.tuple hq
    refine wpAny_pyIter_tuple (show s1.heap.IsTuple a its.toArray from p) ?_
    refine ⟨s1.heap.objs.size, [s1.heap.objs.size], _, _, H1, rfl, I1.kept (t' := s1.toks) fun b o e => Heap.get?_push_of_some _ e, turn_tuple a _, ⟨_, Heap.get?_push_size _ rfl, rfl, rfl⟩, fun b hb => ?_, q⟩
    have e : b = s1.heap.objs.size := by simpa using hb
    subst e
    exact I1.fpOk (Nat.le_refl _) (I1.hok.fresh (Nat.le_refl _))
  · subst ex
    obtain ⟨t, rfl⟩ := r1
    cases ha : x.cps.all (· < 128)
    · exact wpAny_pyIter_wide ha (pi_one (tk := s1.toks) I1 _ (turn_str _ x t "str_iterator" (.inr rfl)) ⟨_, Heap.get?_push_size _ rfl, rfl, rfl⟩ q)
    · exact wpAny_pyIter_ascii ha (pi_one (tk := s1.toks) I1 _ (turn_str _ x t "str_ascii_iterator" (.inl rfl)) ⟨_, Heap.get?_push_size _ rfl, rfl, rfl⟩ q)
theorem iAny_of {K : PySem.W.Frag} {σ : L2.St} {H : Hp} {R : It → Hp → Prop} {m : ME CV} (h : tX K B (rV K B) W m σ H fun v H1 => ∃ ρ1 h1 s c, Rel K B ρ1 H1 h1 ∧ RepS K B ρ1 H1 s σ ∧ RepV K B.sc ρ1 H1 c v ∧ itemAt c 0 h1 ≠ none ∧ ∀ J : It, ItOk K B J c v → R J H1) : iAny K (tX K B (rV K B) W m) σ H R := by
  refine tX_mono h fun v H1 hh => ?_
  obtain ⟨ρ1, h1, s, c, R1, S1, r1, ni, q⟩ := hh
  have lst : ∀ x : CV, x = c → (∀ i h, itemAt x i h = match lstOf h x with
      | some xs => some xs[i]?
      | none => none) → ∃ a, v = .ref a ∧ (∃ xs, SqL K H1 a xs) ∧ ∀ J : It, (∀ i H, (∃ xs x, SqL K H a xs ∧ xs[i]? = some x) → J.go i H) → (∀ i H y H', J.yld i H y H' → H' = H ∧ ∀ xs, SqL K H a xs → xs[i]? = some y) → (∀ i H, (∃ xs, SqL K H a xs ∧ xs.length ≤ i) → J.stop i H) → R J H1 := fun x ex hi => by
    subst ex
    have key : ∀ {ρ H h xs a}, Rel K B ρ H h → RepV K B.sc ρ H x v → v = .ref a → lstOf h x = some xs → ∃ vs, SqL K H a vs ∧ RepVs K B.sc ρ H xs vs := fun {ρ H h xs a} R r ev q => by
      obtain ⟨a', vs, e1, e2, e3⟩ := R.sq r q
      rw [ev] at e1
      cases e1
      exact ⟨vs, e2, e3⟩
    cases q0 : lstOf h1 x with
    | none =>
      rw [hi, q0] at ni
      exact absurd rfl ni
    | some xs0 =>
      obtain ⟨a, vs, e1, e2, e3⟩ := R1.sq r1 q0
      refine ⟨a, e1, ⟨vs, e2⟩, fun J hg hy hs => q J ⟨fun ρ H h i R r e => ?_, fun ρ H h i c R r e => ?_⟩⟩
      · rw [hi] at e
        cases q1 : lstOf h x with
        | none => rw [q1] at e; cases e
        | some xs =>
          rw [q1] at e
          obtain ⟨ws, f1, f2⟩ := key R r e1 q1
          have e' : xs[i]? = none := Option.some.inj e
          exact hs i H ⟨ws, f1, by rw [f2.len]; exact List.getElem?_eq_none_iff.mp e'⟩
      · rw [hi] at e
        cases q1 : lstOf h x with
        | none => rw [q1] at e; cases e
        | some xs =>
          rw [q1] at e
          obtain ⟨ws, f1, f2⟩ := key R r e1 q1
          have e' : xs[i]? = some c := Option.some.inj e
          obtain ⟨w, hw, rw'⟩ := f2.get e'
          refine ⟨hg i H ⟨ws, w, f1, hw⟩, fun y H' yy => ?_⟩
          obtain ⟨z1, z2⟩ := hy i H y H' yy
          have z3 := z2 ws f1
          rw [hw] at z3
          cases z3
          exact ⟨z1, rw'⟩
  cases c with
  | tup xs =>
    obtain ⟨a, vs, e1, e2, e3⟩ := id r1
    refine .inr (.inl ⟨a, e1, ⟨vs, SqT.of e2⟩, q _ ⟨fun ρ H h i R r e => ?_, fun ρ H h i c R r e => ?_⟩⟩)
    · obtain ⟨a', ws, f1, f2, f3⟩ := r
      rw [e1] at f1
      cases f1
      have e' : xs[i]? = none := Option.some.inj e
      exact ⟨ws, SqT.of f2, by rw [f3.len]; exact List.getElem?_eq_none_iff.mp e'⟩
    · obtain ⟨a', ws, f1, f2, f3⟩ := r
      rw [e1] at f1
      cases f1
      have e' : xs[i]? = some c := Option.some.inj e
      obtain ⟨w, hw, rw'⟩ := f3.get e'
      refine ⟨⟨ws, w, (SqT.of f2), hw⟩, fun y H' yy => ?_⟩
      obtain ⟨z1, z2⟩ := yy
      have z3 := z2 ws (SqT.of f2)
      rw [hw] at z3
      cases z3
      exact ⟨z1, rw'⟩
  | str z =>
    have e1 := r1.1
    refine .inr (.inr ⟨⟨z.toArray⟩, e1, q _ ⟨fun ρ H h i R r e => ?_, fun ρ H h i c R r e => ?_⟩⟩)
    · have e' : (z[i]?.map fun c => CV.str [c]) = none := Option.some.inj e
      have e2 : z[i]? = none := by
        cases q : z[i]? with
        | none => rfl
        | some y => rw [q] at e'; cases e'
      show z.toArray.size ≤ i
      rw [List.size_toArray]
      exact List.getElem?_eq_none_iff.mp e2
    · have e' : (z[i]?.map fun c => CV.str [c]) = some c := Option.some.inj e
      cases q : z[i]? with
      | none => rw [q] at e'; cases e'
      | some y =>
        rw [q] at e'
        cases e'
        refine ⟨?_, fun y' H' yy => ?_⟩
        · show i < z.toArray.size
          rw [List.size_toArray]
          exact (List.getElem?_eq_some_iff.mp q).1
        · obtain ⟨z1, d, hd, ed⟩ := yy
          have hd' : z[i]? = some d := by simpa using hd
          rw [q] at hd'
          cases hd'
          exact ⟨z1, ed, fun d' hd' => by
            have : d' = y := by simpa using hd'
            rw [this]
            exact r.2 y (List.mem_of_getElem? q)⟩
  | ref n => exact .inl (lst _ rfl fun _ _ => rfl)
  | scr => exact .inl (lst _ rfl fun _ _ => rfl)
  | non => exact absurd rfl ni
  | bl b => exact absurd rfl ni
  | int i => exact absurd rfl ni
theorem ss_for (hp : PassesOwn (model X.prog X.w) X.A X.env X.xe) (hc : X.calm = true) (ha : SE X B W a ma) (own : List Nat) (hg : SG X B own tg g) (hb : SSs X B W sts m) (hs : ∀ x, foldedSetIterable a X.env x = pure x := by intro _; rfl) : SS X B W (.For tg a sts [] pos) (sFor ma g m) :=
  PS.imp (ps_for hp hc (pi_any ha) hg hb hs) fun D σ H h => by
  refine iAny_of (tS_bind (rep := rV X.K B) (f := fun s x h1 => forLoop x g m (lenAt x h1 + 1) 0 s h1) h fun ρ1 h1 s x v H1 R S r p => ⟨ρ1, h1, s, x, R, S, r, ?_, fun J ok => ?_⟩)
  · intro z
    unfold forLoop at p
    rw [z] at p
    exact p.elim
  refine ⟨fun i n σ H => ∃ ρ h s, Rel X.K B ρ H h ∧ RepS X.K B ρ H s σ ∧ RepV X.K B.sc ρ H x v ∧ SOk X.K B W (forLoop x g m n i s h) ρ H D, ⟨_, ρ1, h1, s, R, S, r, p⟩, ?_⟩
  rintro i n σ H ⟨ρ, h, s, R, S, r, p⟩
  cases n with
  | zero => exact p.elim
  | succ n =>
    unfold forLoop at p
    cases q : itemAt x i h with
    | none => rw [q] at p; exact p.elim
    | some oc =>
      rw [q] at p
      cases oc with
      | none => exact .inl ⟨ok.stop ρ H h i R r q, p.nx R S⟩
      | some c =>
        obtain ⟨hgo, hy⟩ := ok.go ρ H h i c R r q
        refine .inr ⟨hgo, fun σ H => ∃ ρ h s, Rel X.K B ρ H h ∧ RepS X.K B ρ H s σ ∧ RepV X.K B.sc ρ H x v ∧ SOk X.K B W (forLoop x g m n (i + 1) s h) ρ H D, fun σ' H' w => ⟨n, Nat.lt_succ_self _, w⟩, fun y H' yy => ?_⟩
        obtain ⟨eH, ry⟩ := hy y H' yy
        subst eH
        simp only at p
        cases q2 : g c s h with
        | none => rw [q2] at p; exact p.elim
        | some p1 =>
          obtain ⟨s1, h1'⟩ := p1
          rw [q2] at p
          simp only at p
          refine ⟨ρ, h, s, c, R, S, ry, s1, h1', q2, fun ρ' H' σ' a b R' S' _ => ⟨ρ', h1', s1, R', S', ?_⟩⟩
          cases q3 : m s1 h1' with
          | nx s2 h2 => rw [q3] at p; exact fun ρ'' H'' σ'' a' b' R'' S'' => ⟨ρ'', h2, s2, R'', S'', RepV.per (a.trans a') (b.trans b') _ _ r, SOk.later (a.trans a') (b.trans b') p⟩
          | ct s2 h2 => rw [q3] at p; exact fun ρ'' H'' σ'' a' b' R'' S'' => ⟨ρ'', h2, s2, R'', S'', RepV.per (a.trans a') (b.trans b') _ _ r, SOk.later (a.trans a') (b.trans b') p⟩
          | bk s2 h2 => rw [q3] at p; exact SOk.later (r := .nx s2 h2) a b p
          | rt x h2 => rw [q3] at p; exact SOk.later (r := .rt x h2) a b p
          | ex c d s2 h2 => rw [q3] at p; exact SOk.later (r := .ex c d s2 h2) a b p
          | bad => rw [q3] at p; exact p
theorem rng_core {lo : Int} {σ : L2.St} {H : Hp} {n : Nat} {tbd : TS} {gt : TG} {own : List Nat} (hgt : gt = tG K B own g) (htb : tbd = tS K B W m) (h0 : ∃ ρ h s, Rel K B ρ H h ∧ RepS K B ρ H s σ ∧ SOk K B W (rngLoop lo g m n 0 s h) ρ H D) :
    ∃ Wv : Nat → Nat → L2.St → Hp → Prop, (∃ m, Wv 0 m σ H) ∧ ∀ i m σ H, Wv i m σ H →
      ((Itr lo n).stop i H ∧ D.nx σ H) ∨ ((Itr lo n).go i H ∧ ∃ N : L2.St → Hp → Prop, (∀ σ' H', N σ' H' → ∃ m', m' < m ∧ Wv (i + 1) m' σ' H') ∧ ∀ x H', (Itr lo n).yld i H x H' → gt x σ H' fun σ2 H2 => tbd { D with nx := N, ct := N, bk := D.nx } σ2 H2) := by
  subst hgt htb
  obtain ⟨ρ0, h0, s0, R0, S0, p0⟩ := h0
  refine ⟨fun i k σ H => i + k = n ∧ ∃ ρ h s, Rel K B ρ H h ∧ RepS K B ρ H s σ ∧ SOk K B W (rngLoop lo g m k i s h) ρ H D, ⟨n, Nat.zero_add _, ρ0, h0, s0, R0, S0, p0⟩, ?_⟩
  rintro i k σ H ⟨hk, ρ, h, s, R, S, p⟩
  cases k with
  | zero => exact .inl ⟨by show n ≤ i; omega, p.nx R S⟩
  | succ k =>
    refine .inr ⟨by show i < n; omega, fun σ H => ∃ ρ h s, Rel K B ρ H h ∧ RepS K B ρ H s σ ∧ SOk K B W (rngLoop lo g m k (i + 1) s h) ρ H D, fun σ' H' w => ⟨k, Nat.lt_succ_self _, by omega, w⟩, fun y H' yy => ?_⟩
    obtain ⟨eH, ey⟩ := yy
    subst eH ey
    unfold rngLoop at p
    cases q2 : g (.int (lo + i)) s h with
    | none => rw [q2] at p; exact p.elim
    | some p1 =>
      obtain ⟨s1, h1'⟩ := p1
      rw [q2] at p
      simp only at p
      refine ⟨ρ, h, s, .int (lo + i), R, S, rfl, s1, h1', q2, fun ρ' H' σ' a b R' S' _ => ⟨ρ', h1', s1, R', S', ?_⟩⟩
      cases q3 : m s1 h1' with
      | nx s2 h2 => rw [q3] at p; exact fun ρ'' H'' σ'' a' b' R'' S'' => ⟨ρ'', h2, s2, R'', S'', SOk.later (a.trans a') (b.trans b') p⟩
      | ct s2 h2 => rw [q3] at p; exact fun ρ'' H'' σ'' a' b' R'' S'' => ⟨ρ'', h2, s2, R'', S'', SOk.later (a.trans a') (b.trans b') p⟩
      | bk s2 h2 => rw [q3] at p; exact SOk.later (r := .nx s2 h2) a b p
      | rt x h2 => rw [q3] at p; exact SOk.later (r := .rt x h2) a b p
      | ex c d s2 h2 => rw [q3] at p; exact SOk.later (r := .ex c d s2 h2) a b p
      | bad => rw [q3] at p; exact p
theorem b62 : (2 : Int) ^ 62 = B62 := by decide
theorem ss_rng1 {p2 p3 : Pos} (hp : PassesOwn (model X.prog X.w) X.A X.env X.xe) (hc : X.calm = true) (hgr : Gl X "range") (hm : X.mg "range" = none) (ha : SE X B W a ma) (own : List Nat) (hg : SG X B own tg g) (hb : SSs X B W sts m) (hse : starEach [a] X.env = [(false, eval a X.env)] := by rfl)
    (hs : ∀ x, foldedSetIterable (.Call (.Name "range" p2) [a] [] p3) X.env x = pure x := by intro _; rfl) : SS X B W (.For tg (.Call (.Name "range" p2) [a] [] p3) sts [] pos) (sForR1 ma g m) :=
  PS.imp (ps_for hp hc (pi_range1 hgr hm (pa_cons ha pa_nil hse) hse) hg hb hs) fun D σ H h => by
  refine tS_bind (rep := rV X.K B) (f := fun s x h1 => match x with
    | .int j => if -B62 ≤ j ∧ j < B62 then rngLoop 0 g m j.toNat 0 s h1 else .bad
    | _ => .bad) h fun ρ1 h1 s x v H1 R S r p => ?_
  cases x with
  | int j =>
    have ev : v = .int j := r
    subst ev
    simp only at p
    by_cases hl : -B62 ≤ j ∧ j < B62
    · rw [if_pos hl] at p
      exact ⟨j, rfl, by rw [b62]; exact hl.1, by rw [b62]; exact hl.2, rng_core rfl rfl ⟨ρ1, h1, s, R, S, p⟩⟩
    · rw [if_neg hl] at p; exact p.elim
  | _ => exact p.elim
theorem ss_rng2 {p2 p3 : Pos} (hp : PassesOwn (model X.prog X.w) X.A X.env X.xe) (hc : X.calm = true) (hgr : Gl X "range") (hm : X.mg "range" = none) (ha : SE X B W a ma) (ha2 : SE X B W b mb) (own : List Nat) (hg : SG X B own tg g) (hb : SSs X B W sts m)
    (hse : starEach [a, b] X.env = [(false, eval a X.env), (false, eval b X.env)] := by rfl) (hse2 : starEach [b] X.env = [(false, eval b X.env)] := by rfl)
    (hs : ∀ x, foldedSetIterable (.Call (.Name "range" p2) [a, b] [] p3) X.env x = pure x := by intro _; rfl) : SS X B W (.For tg (.Call (.Name "range" p2) [a, b] [] p3) sts [] pos) (sForR2 ma mb g m) :=
  PS.imp (ps_for hp hc (pi_range2 hgr hm (pa_cons ha (pa_cons ha2 pa_nil hse2) (by rw [hse, hse2])) hse hse2) hg hb hs) fun D σ H h => by
  refine tS_bind (rep := rV X.K B) (f := fun s x h1 => rBind (mb s h1) s fun y h2 => match x, y with
    | .int i, .int j => if -B62 ≤ i ∧ i < B62 ∧ -B62 ≤ j ∧ j < B62 then rngLoop i g m (j - i).toNat 0 s h2 else .bad
    | _, _ => .bad) h fun ρ1 h1 s x v H1 R S r p => ?_
  refine ⟨ρ1, h1, s, R, S, Post.imp (fun vy H2 hh => ?_) (SOk.bind (rV X.K B) S p)⟩
  obtain ⟨y, h2, ρ2, M2, p2⟩ := hh
  cases x with
  | int i =>
    cases y with
    | int j =>
      have ev : v = .int i := r
      have ey : vy = .int j := M2.rp
      subst ev ey
      simp only at p2
      by_cases hl : -B62 ≤ i ∧ i < B62 ∧ -B62 ≤ j ∧ j < B62
      · rw [if_pos hl] at p2
        exact ⟨i, j, rfl, by rw [b62]; exact hl, rng_core rfl rfl ⟨ρ2, h2, s, M2.rel, S.per M2.pre M2.per, p2⟩⟩
      · rw [if_neg hl] at p2; exact p2.elim
    | _ => exact p2.elim
  | _ => exact p2.elim

theorem wipe_rep {s : CS} {σ : L2.St} (S : RepS K B ρ H s σ) : ∀ own : List Nat, RepS K B ρ H (wipeC s own) (wipe σ own)
  | [] => S
  | v :: vs => by
    have ih := wipe_rep S vs
    show RepS K B ρ H ((wipeC s vs).set v none) ((wipe σ vs).set v none)
    refine ⟨by rw [List.length_set, List.length_set]; exact ih.1, fun i c e => ?_⟩
    by_cases hi : v = i
    · subst hi
      by_cases hv : v < (wipeC s vs).length
      · rw [List.getElem?_set_self hv] at e; cases e
      · rw [List.getElem?_eq_none (by rw [List.length_set]; omega)] at e; cases e
    · rw [List.getElem?_set_ne hi] at e
      obtain ⟨w, e2, r2⟩ := ih.2 i c e
      exact ⟨w, by rw [List.getElem?_set_ne hi]; exact e2, r2⟩
abbrev W0 : WX := fun _ _ _ _ => False
abbrev STs (X : Cx) (B : Bs) (W : WX) (ifs : List Expr) (m : ME Bool) : Prop := PTs X ifs (tX X.K B (rEqual Bool) W m)
theorem PTs.imp {X : Cx} {e : List Expr} {t t' : TT} (p : PTs X e t) (h : ∀ σ H Q, t' σ H Q → t σ H Q) : PTs X e t' := ⟨fun pins s σ H Q I hw => p.run pins s σ H Q I (h σ H Q hw)⟩
theorem sts_nil : STs X B W [] Cn.tYes := PTs.imp pts_nil fun σ H Q h => tX_ok (v := true) h fun _ => rfl
theorem sts_one (h : ST X B W a ta) : STs X B W [a] ta := pts_one h
theorem turn_core {own : List Nat} {D : Nat} {Da : Addr} {x : CV} {y : V} {h h' : CH} {s : CS} {σ : L2.St} {Nx : Hp → Prop} {me : ME CV} (R : Rel K B ρ H h) (S : RepS K B ρ H s (wipe σ own)) (hD : ρ[D]? = some Da) (ry : RepV K B.sc ρ H x y)
    (e : lcTurn D g ta me x s h = some h') (nx : ∀ ρ' H', ρ <+: ρ' → Per K H H' → Rel K B ρ' H' h' → Nx H') :
    tG K B own g y (wipe σ own) H fun σ2 H2 => wipe σ2 own = wipe σ own ∧ tX K B (rEqual Bool) W0 ta σ2 H2 fun b H3 =>
      if b = true then tX K B (rV K B) W0 me σ2 H3 fun y H4 => ∃ acc, H4 Da = some (.lst acc) ∧ acc.length < sizeLine ∧ Nx (upd H4 Da (.lst (acc ++ [y]))) else Nx H3 := by
  unfold lcTurn at e
  cases q1 : g x s h with
  | none => rw [q1] at e; cases e
  | some p1 =>
    obtain ⟨s1, h1⟩ := p1
    rw [q1] at e
    simp only at e
    refine ⟨ρ, h, s, x, R, S, ry, s1, h1, q1, fun ρ2 H2 σ2 a2 b2 R2 S2 ew => ⟨?_, ρ2, h1, s1, R2, S2, ?_⟩⟩
    · rw [ew]
      refine List.ext_getElem? fun j => ?_
      rw [wipe_get, wipe_get, wipe_length]
      by_cases hj : j ∈ own ∧ j < σ.length
      · rw [if_pos hj, if_pos hj]
      · rw [if_neg hj, if_neg hj]
    cases q2 : ta s1 h1 with
    | bad => rw [q2] at e; cases e
    | ex c d h2 => rw [q2] at e; cases e
    | ok k h2 =>
      rw [q2] at e
      intro ρ3 H3 v a3 b3 R3 ev
      have ev' : k = v := ev
      subst ev'
      cases k with
      | false =>
        simp only at e
        cases e
        rw [if_neg Bool.false_ne_true]
        exact nx ρ3 H3 (a2.trans a3) (b2.trans b3) R3
      | true =>
        simp only at e
        rw [if_pos rfl]
        refine ⟨ρ3, h2, s1, R3, S2.per a3 b3, ?_⟩
        cases q3 : me s1 h2 with
        | bad => rw [q3] at e; cases e
        | ex c d h3 => rw [q3] at e; cases e
        | ok z h3 =>
          rw [q3] at e
          simp only at e
          intro ρ4 H4 w a4 b4 R4 rw'
          cases q4 : h3.os[D]? with
          | none => rw [q4] at e; cases e
          | some ob =>
            rw [q4] at e
            cases ob with
            | lst xs =>
              simp only at e
              by_cases hl : xs.length < LINE
              · rw [if_pos hl] at e
                cases e
                obtain ⟨a', acc, f1, f2, f3, f4⟩ := R4.lst (v := .ref Da) ⟨Da, pre_get (a2.trans (a3.trans a4)) hD, rfl⟩ q4
                cases f2
                have mu : Mut (H4 Da) := by rw [f3]; trivial
                refine ⟨acc, f3, by rw [f4.len, ← line_eq]; exact hl, nx ρ4 _ (a2.trans (a3.trans a4)) ((b2.trans (b3.trans b4)).trans (.write mu)) (R4.set f1 mu ⟨_, rfl, ?_⟩)⟩
                exact (RepVs.per (List.prefix_refl _) (.write mu) _ _ f4).append (RepVs.one (RepV.per (List.prefix_refl _) (.write mu) _ _ rw'))
              · rw [if_neg hl] at e; cases e
            | _ => cases e
theorem lc_core' {own : List Nat} {x : CV} {v : V} {J : It} {h : CH} {s : CS} {σ : L2.St} {me : ME CV} {Q : VK} {WX' : XK} (ok : ItOk K B J x v) (R : Rel K B ρ H h) (S : RepS K B ρ H s σ) (r : RepV K B.sc ρ H x v)
    (p : Post K B (rV K B) WX' (match lcLoop x h.os.length g ta me (wipeC s own) (lenAt x h + 1) 0 (h.new (.lst [])) with
      | some h2 => .ok (.ref h.os.length) h2
      | none => .bad) ρ H Q) (D : Addr) (hD : H D = none) :
    ∃ Wv : Nat → Nat → Hp → Prop, (∃ m, Wv 0 m (upd H D (.lst []))) ∧ ∀ i m H, Wv i m H → (J.stop i H ∧ Q (.ref D) H) ∨ (J.go i H ∧ ∃ Nx : Hp → Prop, (∀ H', Nx H' → ∃ m', m' < m ∧ Wv (i + 1) m' H') ∧
      ∀ y H', J.yld i H y H' → tG K B own g y (wipe σ own) H' fun σ2 H2 => wipe σ2 own = wipe σ own ∧ tX K B (rEqual Bool) W0 ta σ2 H2 fun b H3 =>
        if b = true then tX K B (rV K B) W0 me σ2 H3 fun y H4 => ∃ acc, H4 D = some (.lst acc) ∧ acc.length < sizeLine ∧ Nx (upd H4 D (.lst (acc ++ [y]))) else Nx H3) := by
  cases qL : lcLoop x h.os.length g ta me (wipeC s own) (lenAt x h + 1) 0 (h.new (.lst [])) with
  | none => rw [qL] at p; exact p.elim
  | some hf =>
    rw [qL] at p
    have R1 : Rel K B (ρ ++ [D]) (upd H D (.lst [])) (h.new (.lst [])) := R.new hD ⟨[], rfl, rfl⟩
    have hDr : (ρ ++ [D])[h.os.length]? = some D := by
      rw [← R.len, List.getElem?_append_right (Nat.le_refl _), Nat.sub_self] <;> rfl
    refine ⟨fun i n H' => ∃ ρ' h', (ρ ++ [D]) <+: ρ' ∧ Per K H H' ∧ Rel K B ρ' H' h' ∧ lcLoop x h.os.length g ta me (wipeC s own) n i h' = some hf, ⟨lenAt x h + 1, ρ ++ [D], h.new (.lst []), List.prefix_refl _, .new hD, R1, qL⟩, ?_⟩
    rintro i n H' ⟨ρ', h', a', b', R', q⟩
    have pr : ρ <+: ρ' := (List.prefix_append _ _).trans a'
    cases n with
    | zero => cases q
    | succ n =>
      unfold lcLoop at q
      cases q1 : itemAt x i h' with
      | none => rw [q1] at q; cases q
      | some oc =>
        rw [q1] at q
        cases oc with
        | none =>
          simp only at q
          cases q
          exact .inl ⟨ok.stop ρ' H' _ i R' (RepV.per pr b' _ _ r) q1, p ρ' H' (.ref D) pr b' R' ⟨D, pre_get a' hDr, rfl⟩⟩
        | some c =>
          obtain ⟨hgo, hy⟩ := ok.go ρ' H' h' i c R' (RepV.per pr b' _ _ r) q1
          simp only at q
          cases q2 : lcTurn h.os.length g ta me c (wipeC s own) h' with
          | none => rw [q2] at q; cases q
          | some h1 =>
            rw [q2] at q
            simp only at q
            refine .inr ⟨hgo, fun H'' => ∃ ρ'' h'', (ρ ++ [D]) <+: ρ'' ∧ Per K H H'' ∧ Rel K B ρ'' H'' h'' ∧ lcLoop x h.os.length g ta me (wipeC s own) n (i + 1) h'' = some hf, fun H' w => ⟨n, Nat.lt_succ_self _, w⟩, fun y H'' yy => ?_⟩
            obtain ⟨eH, ry⟩ := hy y H'' yy
            subst eH
            exact turn_core (D := h.os.length) R' ((wipe_rep S own).per pr b') (pre_get a' hDr) ry q2 fun ρ'' H'' a'' b'' R'' => ⟨ρ'', h1, a'.trans a'', b'.trans b'', R'', q⟩
theorem lc_rng' {own : List Nat} {lo : Int} {n : Nat} {h : CH} {s : CS} {σ : L2.St} {me : ME CV} {Q : VK} {WX' : XK} (R : Rel K B ρ H h) (S : RepS K B ρ H s σ)
    (p : Post K B (rV K B) WX' (match lcRng lo h.os.length g ta me (wipeC s own) n 0 (h.new (.lst [])) with
      | some h2 => .ok (.ref h.os.length) h2
      | none => .bad) ρ H Q) (D : Addr) (hD : H D = none) :
    ∃ Wv : Nat → Nat → Hp → Prop, (∃ m, Wv 0 m (upd H D (.lst []))) ∧ ∀ i m H, Wv i m H → ((Itr lo n).stop i H ∧ Q (.ref D) H) ∨ ((Itr lo n).go i H ∧ ∃ Nx : Hp → Prop, (∀ H', Nx H' → ∃ m', m' < m ∧ Wv (i + 1) m' H') ∧
      ∀ y H', (Itr lo n).yld i H y H' → tG K B own g y (wipe σ own) H' fun σ2 H2 => wipe σ2 own = wipe σ own ∧ tX K B (rEqual Bool) W0 ta σ2 H2 fun b H3 =>
        if b = true then tX K B (rV K B) W0 me σ2 H3 fun y H4 => ∃ acc, H4 D = some (.lst acc) ∧ acc.length < sizeLine ∧ Nx (upd H4 D (.lst (acc ++ [y]))) else Nx H3) := by
  cases qL : lcRng lo h.os.length g ta me (wipeC s own) n 0 (h.new (.lst [])) with
  | none => rw [qL] at p; exact p.elim
  | some hf =>
    rw [qL] at p
    have R1 : Rel K B (ρ ++ [D]) (upd H D (.lst [])) (h.new (.lst [])) := R.new hD ⟨[], rfl, rfl⟩
    have hDr : (ρ ++ [D])[h.os.length]? = some D := by
      rw [← R.len, List.getElem?_append_right (Nat.le_refl _), Nat.sub_self] <;> rfl
    refine ⟨fun i k H' => i + k = n ∧ ∃ ρ' h', (ρ ++ [D]) <+: ρ' ∧ Per K H H' ∧ Rel K B ρ' H' h' ∧ lcRng lo h.os.length g ta me (wipeC s own) k i h' = some hf, ⟨n, Nat.zero_add _, ρ ++ [D], h.new (.lst []), List.prefix_refl _, .new hD, R1, qL⟩, ?_⟩
    rintro i k H' ⟨hk, ρ', h', a', b', R', q⟩
    have pr : ρ <+: ρ' := (List.prefix_append _ _).trans a'
    cases k with
    | zero =>
      cases q
      exact .inl ⟨by show n ≤ i; omega, p ρ' H' (.ref D) pr b' R' ⟨D, pre_get a' hDr, rfl⟩⟩
    | succ k =>
      unfold lcRng at q
      cases q2 : lcTurn h.os.length g ta me (.int (lo + i)) (wipeC s own) h' with
      | none => rw [q2] at q; cases q
      | some h1 =>
        rw [q2] at q
        simp only at q
        refine .inr ⟨by show i < n; omega, fun H' => ∃ ρ' h', (ρ ++ [D]) <+: ρ' ∧ Per K H H' ∧ Rel K B ρ' H' h' ∧ lcRng lo h.os.length g ta me (wipeC s own) k (i + 1) h' = some hf, fun H' w => ⟨k, Nat.lt_succ_self _, by omega, w⟩, fun y H'' yy => ?_⟩
        obtain ⟨eH, ey⟩ := yy
        subst eH ey
        exact turn_core R' ((wipe_rep S own).per pr b') (pre_get a' hDr) (show RepV K B.sc ρ' H'' (.int (lo + i)) (.int (lo + i)) from rfl) q2 fun ρ'' H'' a'' b'' R'' => ⟨ρ'', h1, a'.trans a'', b'.trans b'', R'', q⟩
section
variable {elt it : Expr} {ifs : List Expr} {scope : Scope} {own : List (Str × Nat)} {me : ME CV}
abbrev Blk (X : Cx) (scope : Scope) (s : Shared) (H : Hp) (C : Addr) (cl : List (Str × Addr)) (fp : List Addr) : Cx := X.blk s H scope (compEnvC scope cl C X.env) fp
theorem tX_comp {σ : L2.St} {H : Hp} {Q : VK} {vs : List Nat} (h : tX K B (rV K B) W (eComp vs ma g ta me) σ H Q) : tLc (iAny K (tX K B (rV K B) W ma)) (tG K B vs g) (tX K B (rEqual Bool) W0 ta) (tX K B (rV K B) W0 me) vs σ H Q := by
  refine iAny_of (tX_bind (rep := rV K B) (f := fun s x h1 => match lcLoop x h1.os.length g ta me (wipeC s vs) (lenAt x h1 + 1) 0 (h1.new (.lst [])) with
    | some h2 => (.ok (CV.ref h1.os.length) h2 : Res CV)
    | none => .bad) h fun ρ1 h1 s x v H1 R S r p => ⟨ρ1, h1, s, x, R, S, r, ?_, fun J ok D hD => lc_core' ok R S r p D hD⟩)
  intro z
  have z' : itemAt x 0 (h1.new (.lst [])) = none := by
    cases x with
    | ref n =>
      have z2 : (match lstOf h1 (.ref n) with
        | some xs => some xs[0]?
        | none => none) = none := z
      show (match lstOf (h1.new (.lst [])) (.ref n) with
        | some xs => some xs[0]?
        | none => none) = none
      have e2 : lstOf h1 (.ref n) = none := by
        cases q : lstOf h1 (.ref n) with
        | none => rfl
        | some xs => rw [q] at z2; cases z2
      obtain ⟨a, ha, _⟩ := id r
      have hn : n < h1.os.length := by rw [← R.len]; exact (List.getElem?_eq_some_iff.mp ha).1
      have e3 : lstOf (h1.new (.lst [])) (.ref n) = lstOf h1 (.ref n) := by
        show (match (h1.os ++ [CO.lst []])[n]? with
          | some (.lst xs) => some xs
          | _ => none) = (match h1.os[n]? with
          | some (.lst xs) => some xs
          | _ => none)
        rw [List.getElem?_append_left hn]
      rw [e3, e2]
    | scr => exact z
    | tup xs => exact z
    | str s => exact z
    | non => rfl
    | bl b => rfl
    | int i => rfl
  have p' : Post K B (rV K B) (fun c d H' => W c d σ H') (match lcLoop x h1.os.length g ta me (wipeC s vs) (lenAt x h1 + 1) 0 (h1.new (.lst [])) with
    | some h2 => .ok (.ref h1.os.length) h2
    | none => .bad) ρ1 H1 Q := p
  unfold lcLoop at p'
  rw [z'] at p'
  exact p'.elim
theorem se_comp (hc : X.calm = true) (hN : X.N.Nodup) (ha : SE X B W it ma) (ok : BlkOk X.N X.env.scope scope own) (hg : ∀ (s : Shared) (H : Hp) (C : Addr) (cl : List (Str × Addr)) (fp : List Addr), SG (Blk X scope s H C cl fp) B (own.map (·.2)) tg g)
    (ht : ∀ (s : Shared) (H : Hp) (C : Addr) (cl : List (Str × Addr)) (fp : List Addr), STs (Blk X scope s H C cl fp) B W0 ifs ta) (he : ∀ (s : Shared) (H : Hp) (C : Addr) (cl : List (Str × Addr)) (fp : List Addr), SE (Blk X scope s H C cl fp) B W0 elt me)
    (hs : ∀ x, foldedSetIterable it X.env x = pure x := by intro _; rfl) : SE X B W (.ListComp elt [⟨tg, it, ifs, 0⟩] scope pos) (eComp (own.map (·.2)) ma g ta me) :=
  PE.imp (pe_lc hc hN (pi_any ha) ok hg ht he hs) fun σ H Q h => tX_comp h
theorem ss_setComp {i : Nat} {y : Str} {py spos : Pos} (hc : X.calm = true) (hN : X.N.Nodup) (hyl : X.env.scope.names.lookup y = some .local) (hsw : swapsWith (.ListComp elt [⟨tg, it, ifs, 0⟩] scope pos) (some (.Name y py)) spos.line X.env = pure true) (ha : SE X B W it ma) (ok : BlkOk X.N X.env.scope scope own)
    (hg : ∀ (s : Shared) (H : Hp) (C : Addr) (cl : List (Str × Addr)) (fp : List Addr), SG (Blk X scope s H C cl fp) B (own.map (·.2)) tg g)
    (ht : ∀ (s : Shared) (H : Hp) (C : Addr) (cl : List (Str × Addr)) (fp : List Addr), STs (Blk X scope s H C cl fp) B W0 ifs ta) (he : ∀ (s : Shared) (H : Hp) (C : Addr) (cl : List (Str × Addr)) (fp : List Addr), SE (Blk X scope s H C cl fp) B W0 elt me)
    (hy : X.N[i]? = some y := by rfl) (hs : ∀ x, foldedSetIterable it X.env x = pure x := by intro _; rfl) : SS X B W (.Assign [.Name y py] (.ListComp elt [⟨tg, it, ifs, 0⟩] scope pos) spos) (sSet i (eComp (own.map (·.2)) ma g ta me)) :=
  PS.imp (ps_setLc hc hN hy hyl hsw (pi_any ha) ok hg ht he hs) fun D σ H h => by
  exact tX_comp (tS_bind (rep := rV X.K B) (f := fun s x h1 => .nx (s.set i (some x)) h1) h fun ρ1 h1 s c v H1 R S r p => p.nx R (S.set r))
theorem tX_compR {σ : L2.St} {H : Hp} {Q : VK} {vs : List Nat} (h : tX K B (rV K B) W (eCompR vs ma g ta me) σ H Q) : tLc (iRng1 (tCons (tX K B (rV K B) W ma) tNil)) (tG K B vs g) (tX K B (rEqual Bool) W0 ta) (tX K B (rV K B) W0 me) vs σ H Q := by
  refine tX_bind (rep := rV K B) (f := fun s x h1 => match x with
    | .int j => if -B62 ≤ j ∧ j < B62 then (match lcRng 0 h1.os.length g ta me (wipeC s vs) j.toNat 0 (h1.new (.lst [])) with
      | some h2 => (.ok (CV.ref h1.os.length) h2 : Res CV)
      | none => .bad) else .bad
    | _ => .bad) h fun ρ1 h1 s x v H1 R S r p => ?_
  cases x with
  | int j =>
    have ev : v = .int j := r
    subst ev
    simp only at p
    by_cases hl : -B62 ≤ j ∧ j < B62
    · rw [if_pos hl] at p
      exact ⟨j, rfl, by rw [b62]; exact hl.1, by rw [b62]; exact hl.2, fun D hD => lc_rng' R S p D hD⟩
    · rw [if_neg hl] at p; exact p.elim
  | _ => exact p.elim
theorem se_compR {p2 p3 : Pos} (hc : X.calm = true) (hN : X.N.Nodup) (hgr : Gl X "range") (hm : X.mg "range" = none) (ha : SE X B W a ma) (ok : BlkOk X.N X.env.scope scope own) (hg : ∀ (s : Shared) (H : Hp) (C : Addr) (cl : List (Str × Addr)) (fp : List Addr), SG (Blk X scope s H C cl fp) B (own.map (·.2)) tg g)
    (ht : ∀ (s : Shared) (H : Hp) (C : Addr) (cl : List (Str × Addr)) (fp : List Addr), STs (Blk X scope s H C cl fp) B W0 ifs ta) (he : ∀ (s : Shared) (H : Hp) (C : Addr) (cl : List (Str × Addr)) (fp : List Addr), SE (Blk X scope s H C cl fp) B W0 elt me)
    (hse : starEach [a] X.env = [(false, eval a X.env)] := by rfl) (hs : ∀ x, foldedSetIterable (.Call (.Name "range" p2) [a] [] p3) X.env x = pure x := by intro _; rfl) : SE X B W (.ListComp elt [⟨tg, .Call (.Name "range" p2) [a] [] p3, ifs, 0⟩] scope pos) (eCompR (own.map (·.2)) ma g ta me) :=
  PE.imp (pe_lc hc hN (pi_range1 hgr hm (pa_cons ha pa_nil hse) hse) ok hg ht he hs) fun σ H Q h => tX_compR h
theorem ss_setCompR {i : Nat} {y : Str} {py spos p2 p3 : Pos} (hc : X.calm = true) (hN : X.N.Nodup) (hyl : X.env.scope.names.lookup y = some .local) (hsw : swapsWith (.ListComp elt [⟨tg, .Call (.Name "range" p2) [a] [] p3, ifs, 0⟩] scope pos) (some (.Name y py)) spos.line X.env = pure true) (hgr : Gl X "range") (hm : X.mg "range" = none) (ha : SE X B W a ma) (ok : BlkOk X.N X.env.scope scope own)
    (hg : ∀ (s : Shared) (H : Hp) (C : Addr) (cl : List (Str × Addr)) (fp : List Addr), SG (Blk X scope s H C cl fp) B (own.map (·.2)) tg g)
    (ht : ∀ (s : Shared) (H : Hp) (C : Addr) (cl : List (Str × Addr)) (fp : List Addr), STs (Blk X scope s H C cl fp) B W0 ifs ta) (he : ∀ (s : Shared) (H : Hp) (C : Addr) (cl : List (Str × Addr)) (fp : List Addr), SE (Blk X scope s H C cl fp) B W0 elt me)
    (hy : X.N[i]? = some y := by rfl) (hse : starEach [a] X.env = [(false, eval a X.env)] := by rfl) (hs : ∀ x, foldedSetIterable (.Call (.Name "range" p2) [a] [] p3) X.env x = pure x := by intro _; rfl) : SS X B W (.Assign [.Name y py] (.ListComp elt [⟨tg, .Call (.Name "range" p2) [a] [] p3, ifs, 0⟩] scope pos) spos) (sSet i (eCompR (own.map (·.2)) ma g ta me)) :=
  PS.imp (ps_setLc hc hN hy hyl hsw (pi_range1 hgr hm (pa_cons ha pa_nil hse) hse) ok hg ht he hs) fun D σ H h => by
  exact tX_compR (tS_bind (rep := rV X.K B) (f := fun s x h1 => .nx (s.set i (some x)) h1) h fun ρ1 h1 s c v H1 R S r p => p.nx R (S.set r))
end
end

def spM (K : PySem.W.Frag) (B : Bs) (m : Def) : Sp := fun vs H Q E => ∃ ρ h cs, Rel K B ρ H h ∧ RepVs K B.sc ρ H cs vs ∧ Post K B (rV K B) E (m cs h) ρ H Q
theorem start_rep {K : PySem.W.Frag} {B : Bs} {ρ : List Addr} {H : Hp} {N : List Str} : ∀ {cs : List CV} {vs : List V}, RepVs K B.sc ρ H cs vs → RepS K B ρ H (cs.map some ++ List.replicate (N.length - cs.length) none) (L2.start N vs) := fun {cs vs} r => by
  unfold L2.start
  rw [r.len]
  refine ⟨by rw [List.length_append, List.length_append, List.length_map, List.length_map, List.length_replicate, List.length_replicate, r.len], fun i c e => ?_⟩
  by_cases hi : i < cs.length
  · rw [List.getElem?_append_left (by rw [List.length_map]; exact hi), List.getElem?_map] at e
    cases q : cs[i]? with
    | none => rw [q] at e; cases e
    | some d =>
      rw [q] at e
      cases e
      obtain ⟨v, hv, rv⟩ := r.get q
      exact ⟨v, by rw [List.getElem?_append_left (by rw [List.length_map, r.len]; exact hi), List.getElem?_map, hv] <;> rfl, rv⟩
  · rw [List.getElem?_append_right (by rw [List.length_map]; omega)] at e
    obtain ⟨_, e2⟩ := List.getElem?_eq_some_iff.mp e
    rw [List.getElem_replicate] at e2
    cases e2
section
variable {P : Program} {w : World} {K : PySem.W.Frag} {B : Bs} {mg : Str → Option Value} {base : Heap} {x qual : Str} {params : Arguments} {body : List Stmt} {scope : Scope} {dvs : List V} {kws : List (Str × V)} {f : Addr} {fd : FuncData} {N ps : List Str} {k : Nat}
abbrev WB (E : XK) : WX := fun c d _ H' => E c d H'
theorem runD_len {n k : Nat} {b : MS} {cs : List CV} {h : CH} {ρ : List Addr} {H : Hp} {Q : VK} {E : XK} (p : Post K B (rV K B) E (runD n k b cs h) ρ H Q) : cs.length = k := by
  unfold runD at p
  by_cases hl : cs.length = k
  · exact hl
  · rw [if_neg hl] at p; exact p.elim
theorem def_ok (F : FunD K x qual params body scope dvs kws f fd) (S : FnScope N ps scope) (b : MS) {nN nP : Nat} (eN : N.length = nN) (eP : ps.length = nP)
    (hb : ∀ (cdv : Value) (A : Around) (outer : List Env) (s : Shared) (H : Hp) (E : XK), Room k (A.deeper (envOfC qual scope s.heap.objs.size f cdv)) →
      SSs (cxOf (L2.CX P w) P w K mg base N qual scope f cdv A outer s H E) B (WB E) body b) : FnOk P w K mg base (L2.CX P w) (k + 1) f fd ps (spM K B (runD nN nP b)) := by
  subst eN eP
  refine F.ok S (fun vs H Q E h => ?_) fun cdv A outer s H vs Q E hr h => ⟨_, hb cdv A outer s H E hr, ?_⟩
  · obtain ⟨ρ, h0, cs, R, r, p⟩ := h
    rw [r.len, runD_len p]
  · obtain ⟨ρ, h0, cs, R, r, p⟩ := h
    have hl := runD_len p
    refine ⟨ρ, h0, _, R, start_rep r, ?_⟩
    unfold runD at p
    rw [if_pos hl] at p
    cases q : b (cs.map some ++ List.replicate (N.length - cs.length) none) h0 with
    | nx s1 h1 => rw [q] at p; exact fun ρ' H' σ' a b R' S' => p ρ' H' .non a b R' rfl
    | rt v h1 => rw [q] at p; exact fun ρ' H' u a b R' r' => p ρ' H' u a b R' r'
    | ex c d s1 h1 => rw [q] at p; exact fun ρ' H' σ' dx a b R' S' x => p ρ' H' dx a b R' x
    | bk s1 h1 => rw [q] at p; exact p.elim
    | ct s1 h1 => rw [q] at p; exact p.elim
    | bad => rw [q] at p; exact p.elim
end
section
variable {X : Cx} {B : Bs} {W : WX} {e o : Expr} {es : List Expr} {ms : ME (List CV)} {pos p : Pos} {k n : Nat} {f : Addr} {fd : FuncData} {ps : List Str} {x : Str} {m : Def}
theorem spM_of {K : PySem.W.Frag} {ρ : List Addr} {H : Hp} {h : CH} {cs : List CV} {vs : List V} {Q : VK} {E : XK} (R : Rel K B ρ H h) (r : RepVs K B.sc ρ H cs vs) (p : Post K B (rV K B) E (m cs h) ρ H Q) : spM K B m vs H Q E := ⟨ρ, h, cs, R, r, p⟩
theorem se_call (F : FnOk X.prog X.w X.K X.mg X.base (L2.CX X.prog X.w) k f fd ps (spM X.K B m)) (hr : Room k X.A) (hg : Gl X x) (hm : X.mg x = some (.ref f)) (hk : PySem.W.keepIn X.K (.ref f) = true) (hb : Binds X.K fd ps []) (tk : Takes X W) (ha : SA X B W (e :: es) ms)
    (hdb : (x == ("__debug__" : Str)) = false := by decide +kernel) (he : starEach (e :: es) X.env = (false, eval e X.env) :: starEach es X.env := by rfl) (hpl : (backTo pos (starEach es X.env)).any (·.1) = false := by rfl) : SE X B W (.Call (.Name x p) (e :: es) [] pos) (eCall m ms) :=
  PE.imp (pe_callS F hr hg hm hk hb (fun σ => passAt tk σ) ha hdb he hpl) fun σ H Q h =>
    tX_bind (rep := rVs X.K B) (f := fun _ => m) h fun ρ1 h1 s a v H1 R1 S1 r1 p1 => spM_of R1 r1 p1
theorem se_call0 (F : FnOk X.prog X.w X.K X.mg X.base (L2.CX X.prog X.w) k f fd ps (spM X.K B m)) (hr : Room k X.A) (hg : Gl X x) (hm : X.mg x = some (.ref f)) (hk : PySem.W.keepIn X.K (.ref f) = true) (hb : Binds X.K fd ps []) (tk : Takes X W)
    (hdb : (x == ("__debug__" : Str)) = false := by decide +kernel) : SE X B W (.Call (.Name x p) [] [] pos) (eCall m aNil) := by
  refine ⟨fun pins s σ H Q I h => ?_⟩
  obtain ⟨ρ, h0, s0, R, S, q⟩ := h
  refine wpAny_Call_Name_kw (ld_glob I hg hm ?_ hdb)
  exact PySem.W.callWith_K0 I.kIn hk (run_fnS (us := []) (vs := []) (E := WE W) F hr hb (passAt tk σ) I .nil (spM_of R (show RepVs X.K B.sc ρ H [] [] from rfl) q))
end
end Cn
namespace Cn
open PySem PySem.Spec PyProof.Rows L2
section
variable {X : Cx} {B : Bs} {W : WX} {pos : Pos}
theorem se_gstr {x z : Str} (l : List Nat) (hg : Gl X x) (hm : ∃ t, X.mg x = some (.str z t)) (h : (decide (z = ⟨l.toArray⟩) && l.all fun c => decide (c < 1114112)) = true := by decide +kernel) (hd : (x == ("__debug__" : Str)) = false := by decide +kernel) : SE X B W (.Name x pos) (eC (.str l)) := by
  obtain ⟨t, hm⟩ := hm
  obtain ⟨h1, h2⟩ := Bool.and_eq_true_iff.mp h
  exact se_glob (v := .str z) hg hm ⟨t, rfl⟩ (fun _ _ => ⟨congrArg V.str (of_decide_eq_true h1), fun c hc => of_decide_eq_true (List.all_eq_true.mp h2 c hc)⟩) hd
theorem se_gint {x : Str} {i : Int} (hg : Gl X x) (hm : ∃ t, X.mg x = some (.int i t)) (hd : (x == ("__debug__" : Str)) = false := by decide +kernel) : SE X B W (.Name x pos) (eC (.int i)) := by
  obtain ⟨t, hm⟩ := hm
  exact se_glob (v := .int i) hg hm ⟨t, rfl⟩ (fun _ _ => rfl) hd
end
def Okd (P : Program) (w : World) (K : PySem.W.Frag) (mg : Str → Option Value) (base : Heap) (B : Bs) (k : Nat) (f : Addr) (ps : List Str) (m : Def) : Prop :=
  ∃ fd, FnOk P w K mg base (L2.CX P w) k f fd ps (spM K B m) ∧ Binds K fd ps [] ∧ PySem.W.keepIn K (.ref f) = true
section
variable {X : Cx} {B : Bs} {W : WX} {e o : Expr} {es : List Expr} {ms : ME (List CV)} {pos p : Pos} {k n : Nat} {f : Addr} {ps : List Str} {x : Str} {m : Def}
theorem se_cd (F : Okd X.prog X.w X.K X.mg X.base B k f ps m) (hr : Room k X.A) (hg : Gl X x) (hm : X.mg x = some (.ref f)) (tk : Takes X W) (ha : SA X B W (e :: es) ms)
    (hdb : (x == ("__debug__" : Str)) = false := by decide +kernel) (he : starEach (e :: es) X.env = (false, eval e X.env) :: starEach es X.env := by rfl) (hpl : (backTo pos (starEach es X.env)).any (·.1) = false := by rfl) : SE X B W (.Call (.Name x p) (e :: es) [] pos) (eCall m ms) := by
  obtain ⟨fd, F1, F2, F3⟩ := F
  exact se_call F1 hr hg hm F3 F2 tk ha hdb he hpl
theorem se_cd0 (F : Okd X.prog X.w X.K X.mg X.base B k f ps m) (hr : Room k X.A) (hg : Gl X x) (hm : X.mg x = some (.ref f)) (tk : Takes X W)
    (hdb : (x == ("__debug__" : Str)) = false := by decide +kernel) : SE X B W (.Call (.Name x p) [] [] pos) (eCall m aNil) := by
  obtain ⟨fd, F1, F2, F3⟩ := F
  exact se_call0 F1 hr hg hm F3 F2 tk hdb
end
end Cn
set_option Elab.async false
set_option linter.all false
set_option maxRecDepth 100000
set_option maxHeartbeats 4000000
namespace Cn
open PySem PySem.Spec PyProof.Rows L2
theorem idx_of {c : Nat} : ∀ {a : List Nat} {i : Nat}, a[i]? = some c → (∀ k, k < i → ¬ a[k]? = some c) → a.idxOf c = i
  | [], i, h, _ => by cases h
  | x :: r, 0, h, _ => by
    have e : x = c := by simpa using h
    subst e
    simp
  | x :: r, i + 1, h, hk => by
    have h0 : ¬ x = c := fun e => hk 0 (Nat.succ_pos _) (by simp [e])
    have ih := idx_of (a := r) (i := i) (by simpa using h) fun k hlt => by
      have := hk (k + 1) (Nat.succ_lt_succ hlt)
      simpa using this
    rw [List.idxOf_cons, ih]
    have : (x == c) = false := beq_eq_false_iff_ne.mpr h0
    rw [this] <;> rfl
section
variable {B : Bs} {K : PySem.W.Frag}
theorem v_index : VMeth K B 3 indexV (fun x xs H Q => ∃ a b i rest, x = .str a ∧ xs = [.str b] ∧ Builtin.Str.occurrences a b 0 a.length 1 = i :: rest ∧ Q (.int (i : Nat)) H) := by
  intro ρ H h c cs v vs W Q R r rs p
  unfold indexV at p
  split at p
  · rename_i a c' e
    injection e with e1 e2
    subst e1 e2
    obtain ⟨w, ew, rw'⟩ := one_rep rs
    have ev := r.1
    have ew2 := rw'.1
    subst ev ew ew2
    by_cases hl : a.length ≤ LINE ∧ c' ∈ a
    · rw [if_pos hl] at p
      rcases StrLaws.occ_head (⟨a.toArray⟩ : Str) ⟨#[c']⟩ 1 (Nat.le_refl 1) with ⟨h0, hn⟩ | ⟨i, rest, h0, hi, hn⟩
      · obtain ⟨j, hj⟩ := List.mem_iff_getElem?.mp hl.2
        exact absurd ((StrLaws.subAt_one (⟨a.toArray⟩ : Str) c' j).mpr hj) (hn j)
      · refine ⟨_, _, i, rest, rfl, rfl, h0, ?_⟩
        have e1 : a[i]? = some c' := (StrLaws.subAt_one (⟨a.toArray⟩ : Str) c' i).mp hi
        have e2 : a.idxOf c' = i := idx_of e1 fun k hk z => hn k hk ((StrLaws.subAt_one (⟨a.toArray⟩ : Str) c' k).mpr z)
        rw [e2] at p
        exact p.ok R rfl
    · rw [if_neg hl] at p; exact p.elim
  · exact p.elim
end
end Cn
set_option Elab.async false
set_option linter.all false
set_option maxRecDepth 100000
set_option maxHeartbeats 4000000
namespace Cn
open PySem PySem.Spec PyProof.Rows L2
section
variable {P : Program} {w : World} {K : PySem.W.Frag} {mg : Str → Option Value} {base : Heap} {k : Nat} {f : Addr} {fd : FuncData} {x : Str} {m : Def} {ca : Nat → Addr} {an : List Str}
def spLaw (K : PySem.W.Frag) (ca : Nat → Addr) (an : List Str) (m : Def) : Sp := fun vs H Q _ => ∃ ns, spM K ⟨ca, an, ns⟩ m vs H Q fun _ _ _ => False
theorem law_ok (F : ∀ ns, FnOk P w K mg base (L2.CX P w) k f fd [x] (spM K ⟨ca, an, ns⟩ m)) : FnOk P w K mg base CX0 k f fd [x] (spLaw K ca an m) := by
  refine ⟨fun vs H Q E h => ?_, fun A outer s H args us vs Q E hr e hb hv h => ?_⟩
  · obtain ⟨ns, h⟩ := h
    exact (F ns).len _ _ _ _ h
  · obtain ⟨ns, h⟩ := h
    refine codeAny_mono ((F ns).run A outer s H args us vs Q _ hr e hb hv h) fun r s' z => ?_
    cases r with
    | ok fl => cases fl <;> exact z
    | error u =>
      obtain ⟨a, G, H', cls, d, _, _, _, _, _, _, _, z⟩ := z
      exact z.elim
theorem only_scr {H : Hp} {a : Addr} {xs : List V} (o : Only H) (h : SqL K H a xs) : ScrAt K H a xs := by
  rcases h with (h | h) | h
  · rcases o a with e | ⟨ob, ys, e⟩
    · rw [h] at e; cases e
    · rw [h] at e; cases e
  · obtain ⟨ob, h⟩ := h
    exact .inl ⟨ob, h⟩
  · exact .inr h
theorem sp_law {n : Nat} (hm : ∀ ns : List Int, ns.length ≤ n → ∃ h, m [.scr] ⟨ns, []⟩ = .ok (.bl true) h) (H : Hp) (a : Addr) (ns : List Int) (hl : ns.length ≤ n) (hO : Only H) (hS : SqL K H a (ns.map V.int)) :
    spLaw K ca an m [.ref a] H (fun v _ => v = .bl true) fun _ _ _ => False := by
  obtain ⟨h, e⟩ := hm ns hl
  refine ⟨ns, [], ⟨ns, []⟩, [.scr], ⟨rfl, rfl, List.nodup_nil, fun i o q => ?_⟩, ⟨_, _, rfl, ⟨a, rfl, only_scr hO hS⟩, rfl⟩, ?_⟩
  · simp at q
  · rw [e]
    intro ρ' H' v _ _ _ r
    exact r
end
end Cn
set_option Elab.async false
set_option linter.all false
set_option maxRecDepth 100000
set_option maxHeartbeats 4000000
namespace Cn
open PySem PySem.Spec PyProof.Rows L2
section
variable {K : PySem.W.Frag} {B : Bs} {sc : List Int} {ρ ρ' : List Addr} {H H' : Hp} {h : CH}
theorem an_inj (nd : B.an.Nodup) {i j : Nat} {f : Str} (a : B.an[i]? = some f) (b : B.an[j]? = some f) : i = j := by
  obtain ⟨h1, e1⟩ := List.getElem?_eq_some_iff.mp a
  obtain ⟨h2, e2⟩ := List.getElem?_eq_some_iff.mp b
  exact (List.getElem_inj nd).mp (e1.trans e2.symm)
theorem rep_look (nd : B.an.Nodup) {k : Nat} {f : Str} (ek : B.an[k]? = some f) : ∀ {fs : List (Nat × CV)} {vs : List (Str × V)}, RepFs K B sc ρ H fs vs → (∀ c, lookC k fs = some c → ∃ v, vs.lookup f = some v ∧ RepV K sc ρ H c v) ∧ (lookC k fs = none → vs.lookup f = none)
  | [], vs, e => by
    have e : vs = [] := e
    subst e
    refine ⟨fun c z => ?_, fun _ => rfl⟩
    simp [lookC] at z
  | (j, c) :: r, vs, z => by
    obtain ⟨g, v, vs', rfl, eg, rv, rr⟩ := z
    unfold lookC
    by_cases q : j = k
    · subst q
      rw [ek] at eg
      cases eg
      rw [if_pos rfl]
      exact ⟨fun d e => by injection e with e; rw [← e]; exact ⟨v, List.lookup_cons_self, rv⟩, fun e => nomatch e⟩
    · have ng : (f == g) = false := by
        rw [beq_eq_false_iff_ne]
        intro z
        rw [← z] at eg
        exact q (an_inj nd eg ek)
      rw [if_neg q]
      have e1 : ((g, v) :: vs').lookup f = vs'.lookup f := by
        rw [List.lookup_cons, ng]
      rw [e1]
      exact rep_look nd ek rr
theorem rep_none {f : Str} (ek : f ∉ B.an) : ∀ {fs : List (Nat × CV)} {vs : List (Str × V)}, RepFs K B sc ρ H fs vs → vs.lookup f = none
  | [], vs, e => by subst e; rfl
  | (j, c) :: r, vs, z => by
    obtain ⟨g, v, vs', rfl, eg, rv, rr⟩ := z
    have ng : (f == g) = false := by
      rw [beq_eq_false_iff_ne]
      intro z
      rw [← z] at eg
      exact ek (List.mem_of_getElem? eg)
    rw [List.lookup_cons, ng]
    exact rep_none ek rr
theorem rep_put (nd : B.an.Nodup) {k : Nat} {f : Str} (ek : B.an[k]? = some f) {c : CV} {v : V} (r : RepV K sc ρ H c v) : ∀ {fs : List (Nat × CV)} {vs : List (Str × V)}, RepFs K B sc ρ H fs vs → RepFs K B sc ρ H (putC k c fs) (putF f v vs)
  | [], vs, e => by
    subst e
    exact ⟨f, v, [], rfl, ek, r, rfl⟩
  | (j, d) :: rs, vs, z => by
    obtain ⟨g, u, vs', rfl, eg, ru, rr⟩ := z
    unfold putC putF
    by_cases q : j = k
    · subst q
      rw [ek] at eg
      cases eg
      rw [if_pos rfl, if_pos rfl]
      exact ⟨f, v, vs', rfl, ek, r, rr⟩
    · have ng : ¬ g = f := fun z => by
        rw [z] at eg
        exact q (an_inj nd eg ek)
      rw [if_neg q, if_neg ng]
      exact ⟨g, u, _, rfl, eg, ru, rep_put nd ek r rr⟩
theorem putC_len (k : Nat) (v : CV) : ∀ fs : List (Nat × CV), (putC k v fs).length ≤ fs.length + 1
  | [] => Nat.le_refl _
  | (j, x) :: r => by
    unfold putC
    split
    · simp
    · have := putC_len k v r
      simp
      omega
theorem repFs_len : ∀ {fs : List (Nat × CV)} {vs : List (Str × V)}, RepFs K B sc ρ H fs vs → vs.length = fs.length
  | [], vs, e => by subst e; rfl
  | (j, c) :: r, vs, z => by
    obtain ⟨g, v, vs', rfl, eg, rv, rr⟩ := z
    rw [List.length_cons, List.length_cons, repFs_len rr]
theorem ins_at (R : Rel K B ρ H h) {x : CV} {v : V} (r : RepV K B.sc ρ H x v) {n c : Nat} {fs : List (Nat × CV)} (e : insC x h = some (n, c, fs)) :
    ∃ a dx vs, x = .ref n ∧ h.os[n]? = some (.ins c fs) ∧ v = .ref a ∧ ρ[n]? = some a ∧ H a = some (.ins (B.ca c) dx vs) ∧ RepFs K B B.sc ρ H fs vs ∧ fs.length < 900 := by
  cases x with
  | ref m =>
    cases q : h.os[m]? with
    | none => simp [insC, q] at e
    | some o =>
      cases o with
      | ins d gs =>
        simp [insC, q] at e
        obtain ⟨rfl, rfl, rfl⟩ := e
        obtain ⟨a, u, e1, e2, dx, vs, e3, e4, e5⟩ := R.obj _ _ q
        subst e3
        obtain ⟨b, eb, rb⟩ := r
        rw [e1] at eb
        cases eb
        exact ⟨a, dx, vs, rfl, q, rb, e1, e2, e4, e5⟩
      | _ => simp [insC, q] at e
  | _ => simp [insC] at e
end
structure FldOk (K : PySem.W.Frag) (B : Bs) (cs : List Nat) (k : Nat) (f : Str) : Prop where
  cl : ∀ c ∈ cs, Cls K (B.ca c) ∧ NoAttr K (B.ca c) f
  nm : B.an[k]? = some f
  nd : B.an.Nodup
section
variable {X : Cx} {B : Bs} {W : WX} {e o v : Expr} {f : Str} {pos pos' tpos : Pos} {mo mv : ME CV} {cs : List Nat} {k : Nat}
theorem getF_at {K : PySem.W.Frag} {ρ : List Addr} {H : Hp} {h : CH} {x c : CV} {y : V} (F : FldOk K B cs k f) (R : Rel K B ρ H h) (r : RepV K B.sc ρ H x y) (q : getF cs k x h = some c) :
    ∃ a C dx fs u, y = .ref a ∧ H a = some (.ins C dx fs) ∧ Cls K C ∧ NoAttr K C f ∧ fs.lookup f = some u ∧ RepV K B.sc ρ H c u := by
  unfold getF at q
  cases z : insC x h with
  | none => rw [z] at q; cases q
  | some p =>
    obtain ⟨n, d, fs⟩ := p
    rw [z] at q
    obtain ⟨a, dx, vs, _, _, ey, _, eH, rf, _⟩ := ins_at R r z
    have q : (if d ∈ cs then lookC k fs else none) = some c := q
    by_cases m : d ∈ cs
    · rw [if_pos m] at q
      obtain ⟨u, e1, e2⟩ := (rep_look F.nd F.nm rf).1 c q
      exact ⟨a, _, dx, vs, u, ey, eH, (F.cl d m).1, (F.cl d m).2, e1, e2⟩
    · rw [if_neg m] at q; cases q
theorem setF_at {K : PySem.W.Frag} {ρ : List Addr} {H : Hp} {h h3 : CH} {x c : CV} {y u : V} (F : FldOk K B cs k f) (R : Rel K B ρ H h) (r : RepV K B.sc ρ H x y) (rc : RepV K B.sc ρ H c u) (q : setF cs k c x h = some h3) :
    ∃ a C dx fs, y = .ref a ∧ H a = some (.ins C dx fs) ∧ Cls K C ∧ NoAttr K C f ∧ fs.length < 1000 ∧ (∀ n d gs, insC x h = some (n, d, gs) → C = B.ca d) ∧ Per K H (upd H a (.ins C dx (putF f u fs))) ∧ Rel K B ρ (upd H a (.ins C dx (putF f u fs))) h3 := by
  unfold setF at q
  cases z : insC x h with
  | none => rw [z] at q; cases q
  | some p =>
    obtain ⟨n, d, fs⟩ := p
    rw [z] at q
    obtain ⟨a, dx, vs, ex, en, ey, er, eH, rf, l⟩ := ins_at R r z
    have q : (if d ∈ cs ∧ fs.length < 800 then some (h.set n (.ins d (putC k c fs))) else none) = some h3 := q
    by_cases m : d ∈ cs ∧ fs.length < 800
    · rw [if_pos m] at q
      cases q
      have lv := repFs_len rf
      have mu : Mut (H a) := by rw [eH]; trivial
      refine ⟨a, _, dx, vs, ey, eH, (F.cl d m.1).1, (F.cl d m.1).2, by omega, fun n' d' gs' e => by cases e; rfl, .write mu, R.set er mu ?_⟩
      refine ⟨dx, _, rfl, ?_, ?_⟩
      · exact (rep_put F.nd F.nm rc rf).per (List.prefix_refl _) (.write mu)
      · have := putC_len k c fs
        omega
    · rw [if_neg m] at q; cases q
theorem se_fld (F : FldOk X.K B cs k f) (he : SE X B W e mo) (hb : attributeBase e f X.env (eval e X.env) = eval e X.env) : SE X B W (.Attribute e f pos) (eFld cs k mo) := by
  refine PE.imp (pe_fld he hb) fun σ H Q h => ?_
  refine tX_bind (rep := rV X.K B) (f := fun _ x h1 => match getF cs k x h1 with
    | some v => .ok v h1
    | none => .bad) h fun ρ1 h1 s x y H1 R S r p => ?_
  cases q : getF cs k x h1 with
  | none => simp only [q] at p; exact p.elim
  | some c =>
    simp only [q] at p
    obtain ⟨a, C, dx, fs, u, e1, e2, e3, e4, e5, e6⟩ := getF_at F R r q
    exact ⟨a, C, dx, fs, u, e1, e2, e3, e4, e5, p.ok R e6⟩
theorem ss_fld (F : FldOk X.K B cs k f) (ho : SE X B W o mo) (hv : SE X B W v mv) (hs : swapsWith v (some (.Attribute o f pos')) pos.line X.env = pure false := by rfl) : SS X B W (.Assign [.Attribute o f pos'] v pos) (sFld cs k mo mv) :=
  PS.imp (ps_fld ho hv hs) fun D σ H h => by
  refine tS_bind (rep := rV X.K B) (f := fun s y h1 => rBind (mo s h1) s fun x h2 => match setF cs k y x h2 with
    | some h3 => .nx s h3
    | none => .bad) h fun ρ1 h1 s y u H1 R S r p => ?_
  refine ⟨ρ1, h1, s, R, S, Post.imp (fun w H2 hh => ?_) (SOk.bind (rV X.K B) S p)⟩
  obtain ⟨x, h2, ρ2, M2, p2⟩ := hh
  cases q : setF cs k y x h2 with
  | none => simp only [q] at p2; exact p2.elim
  | some h3 =>
    simp only [q] at p2
    obtain ⟨a, C, dx, fs, e1, e2, e3, e4, e5, _, e6, e7⟩ := setF_at F M2.rel M2.rp (RepV.per M2.pre M2.per _ _ r) q
    exact ⟨a, C, dx, fs, e1, e2, e3, e4, e5, p2 ρ2 _ σ (List.prefix_refl _) e6 e7 ((S.per M2.pre M2.per).per (List.prefix_refl _) e6)⟩
def VIn (X : Cx) (B : Bs) (rd : V → V → Hp → VK → Prop) (f : CV → CV → CH → Res CV) : Prop :=
  ∀ {ρ : List Addr} {H : Hp} {h h1 : CH} {x y z : CV} {u v : V} {Q : VK}, RepV X.K B.sc ρ H x u → RepV X.K B.sc ρ H y v → f x y h = .ok z h1 → h1 = h ∧ ((∀ w, RepV X.K B.sc ρ H z w → Q w H) → rd u v H Q)
def noEx (f : CV → CV → CH → Res CV) : Prop := ∀ x y h c d h1, f x y h ≠ .ex c d h1
theorem vin_add : VIn X B rAdd addI := by
  intro ρ H h h1 x y z u v Q r1 r2 e
  cases x <;> cases y <;> simp [addI] at e
  obtain ⟨e1, e2⟩ := e
  subst e1 e2
  obtain rfl : u = _ := r1
  obtain rfl : v = _ := r2
  exact ⟨rfl, fun k => ⟨_, _, rfl, rfl, k _ rfl⟩⟩
theorem nox_add : noEx addI := by
  intro x y h c d h1 e
  cases x <;> cases y <;> simp [addI] at e
theorem vin_sub : VIn X B rSub subV := by
  intro ρ H h h1 x y z u v Q r1 r2 e
  cases x <;> cases y <;> simp [subV] at e
  obtain ⟨e1, e2⟩ := e
  subst e1 e2
  obtain rfl : u = _ := r1
  obtain rfl : v = _ := r2
  exact ⟨rfl, fun k => ⟨_, _, rfl, rfl, k _ rfl⟩⟩
theorem nox_sub : noEx subV := by
  intro x y h c d h1 e
  cases x <;> cases y <;> simp [subV] at e
theorem ss_fldaug {op : Operator} {rd : V → V → Hp → VK → Prop} {g : CV → CV → CH → Res CV} (F : FldOk X.K B cs k f) (ho : SE X B W o mo) (hv : SE X B W v mv) (hop : InOp X op rd) (vi : VIn X B rd g) (ne : noEx g) : SS X B W (.AugAssign (.Attribute o f tpos) op v pos) (sFldAug g cs k mo mv) :=
  PS.imp (ps_fldaug ho hv hop) fun D σ H h => by
  refine tS_bind (rep := rV X.K B) (f := fun s x h1 => match getF cs k x h1 with
    | some u => rBind (mv s h1) s fun y h2 => rBind (g u y h2) s fun z h3 => if sameC x h1 h3 then (match setF cs k z x h3 with
      | some h4 => .nx s h4
      | none => .bad) else .bad
    | none => .bad) h fun ρ1 h1 s x vx H1 R S r p => ?_
  cases q : getF cs k x h1 with
  | none => simp only [q] at p; exact p.elim
  | some c =>
    simp only [q] at p
    obtain ⟨a, C, dx, fs, u, e1, e2, e3, e4, e5, e6⟩ := getF_at F R r q
    refine ⟨a, C, dx, fs, u, e1, e2, e3, e4, e5, ?_⟩
    refine ⟨ρ1, h1, s, R, S, Post.imp (fun vy H2 hh => ?_) (SOk.bind (rV X.K B) S p)⟩
    obtain ⟨y, h2, ρ2, M2, p2⟩ := hh
    cases eg : g c y h2 with
    | bad => rw [eg] at p2; exact p2.elim
    | ex c d h => exact absurd eg (ne _ _ _ _ _ _)
    | ok z h3 =>
      rw [eg] at p2
      obtain ⟨eh, k2⟩ := vi (Q := fun z H3 => ∃ dx' fs', H3 a = some (.ins C dx' fs') ∧ fs'.length < 1000 ∧ D.nx σ (upd H3 a (.ins C dx' (putF f z fs')))) (RepV.per M2.pre M2.per _ _ e6) M2.rp eg
      subst eh
      refine k2 fun w rw_ => ?_
      have p2 : SOk X.K B W (if sameC x h1 h3 then (match setF cs k z x h3 with
        | some h4 => .nx s h4
        | none => .bad) else .bad) ρ2 H2 D := p2
      by_cases same : sameC x h1 h3 = true
      · rw [if_pos same] at p2
        cases q3 : setF cs k z x h3 with
        | none => simp only [q3] at p2; exact p2.elim
        | some h4 =>
          simp only [q3] at p2
          obtain ⟨b, C', dx', fs', g1, g2, _, _, g5, gC, g6, g7⟩ := setF_at F M2.rel (RepV.per M2.pre M2.per _ _ r) rw_ q3
          rw [e1] at g1
          cases g1
          have eC : C' = C := by
            unfold sameC at same
            cases z1 : insC x h1 with
            | none => rw [z1] at same; exact nomatch same
            | some p1 =>
              cases z2 : insC x h3 with
              | none => rw [z1, z2] at same; exact nomatch same
              | some p3 =>
                obtain ⟨n1, d1, gs1⟩ := p1
                obtain ⟨n3, d3, gs3⟩ := p3
                rw [z1, z2] at same
                have ed : d1 = d3 := eq_of_beq same
                obtain ⟨a1, dx1, vs1, _, _, ea1, _, eH1, _⟩ := ins_at R r z1
                rw [e1] at ea1
                cases ea1
                rw [e2] at eH1
                have := gC _ _ _ z2
                rw [this, ← ed]
                injection eH1 with t
                injection t with t1 t2 t3
                exact t1.symm
          subst eC
          exact ⟨dx', fs', g2, g5, p2 ρ2 _ σ (List.prefix_refl _) g6 g7 ((S.per M2.pre M2.per).per (List.prefix_refl _) g6)⟩
      · rw [if_neg same] at p2; exact p2.elim
end
end Cn
set_option Elab.async false
set_option linter.all false
set_option maxRecDepth 100000
set_option maxHeartbeats 4000000
namespace Cn
open PySem PySem.Spec PyProof.Rows L2
structure KB (K : PySem.W.Frag) (fd : FuncData) (ps : List Str) (n : Nat) (ks : List Str) (gC : List CV → List CV) : Prop where
  ex : ∃ (g : List Value → List Value → List Value) (gV : List V → List V → List V), KBn K fd ps n ks g gV ∧
    ∀ (sc : List Int) (ρ : List Addr) (H : Hp) (cs zs : List CV) (vs ws : List V), RepVs K sc ρ H cs vs → RepVs K sc ρ H zs ws → cs.length = n → zs.length = ks.length → RepVs K sc ρ H (gC (cs ++ zs)) (gV vs ws)
theorem KB.plain {K : PySem.W.Frag} {fd : FuncData} {ps : List Str} {n : Nat} (b : Binds K fd ps []) (e : ps.length = n) : KB K fd ps n [] id := by
  refine ⟨fun us _ => us, fun vs _ => vs, ⟨fun s us ws X l1 l2 => ?_, fun r1 _ => r1⟩, fun sc ρ H cs zs vs ws r1 r2 l1 l2 => ?_⟩
  · have := b s us X (by rw [List.append_nil, l1, e])
    rw [List.append_nil] at this
    cases ws with
    | nil => exact this
    | cons => exact nomatch l2
  · cases zs with
    | nil => rw [List.append_nil]; exact r1
    | cons => exact nomatch l2
structure Okk (P : Program) (w : World) (K : PySem.W.Frag) (mg : Str → Option Value) (base : Heap) (B : Bs) (k : Nat) (f : Addr) (n : Nat) (ks : List Str) (m : Def) : Prop where
  ex : ∃ (fd : FuncData) (ps : List Str) (gC : List CV → List CV) (m0 : Def), m = re gC m0 ∧ FnOk P w K mg base (L2.CX P w) k f fd ps (spM K B m0) ∧ KB K fd ps n ks gC
theorem Okk.mono {P : Program} {w : World} {K : PySem.W.Frag} {mg : Str → Option Value} {base : Heap} {B : Bs} {j k : Nat} {f : Addr} {n : Nat} {ks : List Str} {m : Def} (F : Okk P w K mg base B j f n ks m) (h : j ≤ k) : Okk P w K mg base B k f n ks m :=
  let ⟨fd, ps, gC, m0, e, F1, F2⟩ := F.ex; ⟨fd, ps, gC, m0, e, F1.mono h, F2⟩
section
variable {X : Cx} {CX : CXT} {k n : Nat} {f C : Addr} {fd : FuncData} {ps ks : List Str} {sp : Sp} {E : XK} {g : List Value → List Value → List Value} {gV : List V → List V → List V}
theorem run_kn {pins : List (Addr × Obj)} {σ : L2.St} {H : Hp} {s : Shared} {Q : VK} {us ws : List Value} {vs zs : List V} (F : FnOk X.prog X.w X.K X.mg X.base CX k f fd ps sp) (room : Room k X.A) (b : KBn X.K fd ps n ks g gV) (hx : PassesAt CX X σ E)
    (I : Inv X pins σ H s) (r : Vals vs us) (rz : Vals zs ws) (l1 : vs.length = n) (l2 : zs.length = ks.length) (h : sp (gV vs zs) H Q E) : wpAny (model X.prog X.w) X.A (call (.ref f) us (ks.zip ws)) (EP X pins σ Q) X.xe s :=
  wpAny_call (codeAny_mono (F.run X.A X.stack s H ⟨us, ks.zip ws⟩ _ _ Q E room I.env0 (b.to s us ws I.kIn (r.length.symm.trans l1) (rz.length.symm.trans l2)) (b.rel r rz) h) fun x s' z => by
    cases x with
    | error e => exact hx pins H s e s' I z
    | ok y => cases y with
      | ret u => exact I.after z
      | _ => exact False.elim z)
theorem run_mk {pins : List (Addr × Obj)} {σ : L2.St} {H : Hp} {s : Shared} {Q : VK} {us ws : List Value} {vs zs : List V} (M : Mk X.K C f) (F : FnOk X.prog X.w X.K X.mg X.base CX k f fd ps sp) (room : Room (k + 1) X.A) (b : KBn X.K fd ps (n + 1) ks g gV) (hx : PassesAt CX X σ E)
    (I : Inv X pins σ H s) (r : Vals vs us) (rz : Vals zs ws) (l1 : vs.length = n) (l2 : zs.length = ks.length)
    (h : ∀ x dx, H x = none → H dx = none → dx ≠ x → sp (gV (.ref x :: vs) zs) (upd (upd H dx (.own x)) x (.ins C dx [])) (fun v H2 => v = .non ∧ Q (.ref x) H2) E) :
    wpAny (model X.prog X.w) X.A (call (.ref C) us (ks.zip ws)) (EP X pins σ Q) X.xe s := by
  have new := Inv.made (C := C) I
  have fr1 := I.hok.fresh (Nat.le_succ s.heap.objs.size)
  have fr0 := I.hok.fresh (Nat.le_refl s.heap.objs.size)
  have h1 := h (s.heap.objs.size + 1) s.heap.objs.size fr1 fr0 (Nat.ne_of_lt (Nat.lt_succ_self _))
  have rr : Vals (.ref (s.heap.objs.size + 1) :: vs) (.ref (s.heap.objs.size + 1) :: us) := .cons rfl r
  have ll : (Value.ref (s.heap.objs.size + 1) :: us).length = n + 1 := by rw [List.length_cons, ← r.length, l1]
  have run := F.run _ X.stack _ _ ⟨_ :: us, ks.zip ws⟩ _ _ _ _ (room.make C us (ks.zip ws)) (new.env0.make C us (ks.zip ws)) (b.to _ _ ws new.kIn ll (rz.length.symm.trans l2)) (b.rel rr rz) h1
  refine wpAny_call (make_map (f := f) I.kIn M.makes M.init (beq_iff_eq.mp M.fn) (codeAny_mono run fun x s' z => ?_))
  cases x with
  | error e => exact hx pins _ _ e s' new z
  | ok y => cases y with
    | ret u =>
      obtain ⟨v, H', I3, rv, ev, q3⟩ := new.after z
      subst ev
      exact ⟨rv, ⟨V.ref (s.heap.objs.size + 1), H', I3, rfl, q3⟩⟩
    | _ => exact False.elim z
end
abbrev SK (X : Cx) (B : Bs) (W : WX) (kws : List Keyword) (m : ME (List CV)) : Prop := PK X kws (tX X.K B (rVs X.K B) W m)
theorem PK.imp {X : Cx} {kws : List Keyword} {t t' : TA} (p : PK X kws t) (h : ∀ σ H Q, t' σ H Q → t σ H Q) : PK X kws t' := ⟨fun pos pins s σ H Q I hw => p.run pos pins s σ H Q I (h σ H Q hw)⟩
section
variable {X : Cx} {B : Bs} {W : WX} {e o : Expr} {es : List Expr} {kws : List Keyword} {mo me : ME CV} {ms mk : ME (List CV)} {pos apos kpos p : Pos} {k n : Nat} {x mn : Str} {nm : Option Str} {tb : List (Nat × Def)}
theorem sk_nil : SK X B W [] aNil := PK.imp pk_nil fun σ H Q h => by
  obtain ⟨ρ, h0, s, R, S, q⟩ := h
  exact q.ok (v := []) R rfl
theorem sk_cons (ha : SE X B W e me) (hr : SK X B W kws mk) : SK X B W (⟨nm, e, kpos⟩ :: kws) (aCons me mk) := PK.imp (pk_cons ha hr) fun σ H Q h => by
  refine tX_bind (rep := rV X.K B) (f := fun s x h1 => (mk s h1).bind fun xs h2 => .ok (x :: xs) h2) h fun ρ1 h1 s a v H1 R S r p1 => ?_
  refine ⟨ρ1, h1, s, R, S, Post.imp (fun vs H2 hh => ?_) (Post.bind (rVs X.K B) p1)⟩
  obtain ⟨xs, h2, ρ2, M, p2⟩ := hh
  exact p2.ok (v := v :: vs) M.rel ⟨v, vs, rfl, RepV.per M.pre M.per _ _ r, M.rp⟩
structure MOk (X : Cx) (B : Bs) (k : Nat) (mn : Str) (n : Nat) (ks : List Str) (c : Nat) (m : Def) : Prop where
  ex : ∃ f, Cls X.K (B.ca c) ∧ Meth X.K (B.ca c) mn f ∧ Okk X.prog X.w X.K X.mg X.base B k f n ks m
structure MTb (X : Cx) (B : Bs) (k : Nat) (mn : Str) (nf : Option Nat) (n : Nat) (ks : List Str) (tb : List (Nat × Def)) : Prop where
  all : ∀ p ∈ tb, MOk X B k mn n ks p.1 p.2
  nm : match nf with
    | some i => B.an[i]? = some mn ∧ B.an.Nodup
    | none => mn ∉ B.an
theorem lookD_mem {c : Nat} {f : Def} : ∀ {tb : List (Nat × Def)}, lookD c tb = some f → (c, f) ∈ tb
  | [], e => nomatch e
  | (d, g) :: r, e => by
    unfold lookD at e
    by_cases q : d = c
    · rw [if_pos q] at e
      cases e
      rw [q]
      exact List.mem_cons_self ..
    · rw [if_neg q] at e
      exact List.mem_cons_of_mem _ (lookD_mem e)
theorem meth_at {nf : Option Nat} {ks : List Str} {K : PySem.W.Frag} {ρ : List Addr} {H : Hp} {h : CH} {y : CV} {v : V} {f : Def} (T : MTb X B k mn nf n ks tb) (eK : K = X.K) (R : Rel K B ρ H h) (r : RepV K B.sc ρ H y v) (q : methC tb nf y h = some f) :
    ∃ a C dx fs c, v = .ref a ∧ H a = some (.ins C dx fs) ∧ C = B.ca c ∧ fs.lookup mn = none ∧ MOk X B k mn n ks c f := by
  unfold methC at q
  cases z : insC y h with
  | none => rw [z] at q; exact nomatch q
  | some p =>
    obtain ⟨m, d, fs⟩ := p
    rw [z] at q
    obtain ⟨a, dx, vs, _, _, ey, _, eH, rf, _⟩ := ins_at R r z
    have q : (if hasF nf fs then none else lookD d tb) = some f := q
    by_cases w : hasF nf fs = true
    · rw [if_pos w] at q; exact nomatch q
    · rw [if_neg w] at q
      refine ⟨a, _, dx, vs, d, ey, eH, rfl, ?_, T.all _ (lookD_mem q)⟩
      have tn := T.nm
      cases nf with
      | none => exact rep_none tn rf
      | some i =>
        refine (rep_look tn.2 tn.1 rf).2 ?_
        cases lk : lookC i fs with
        | none => rfl
        | some c => exact absurd (show (lookC i fs).isSome = true by rw [lk]; rfl) w
theorem spM_of' {K : PySem.W.Frag} {ρ : List Addr} {H : Hp} {h : CH} {cs : List CV} {vs : List V} {Q : VK} {E : XK} {m : Def} (R : Rel K B ρ H h) (r : RepVs K B.sc ρ H cs vs) (p : Post K B (rV K B) E (m cs h) ρ H Q) : spM K B m vs H Q E := ⟨ρ, h, cs, R, r, p⟩
def AL (ms : ME (List CV)) (n : Nat) : Prop := ∀ s h xs h', ms s h = .ok xs h' → xs.length = n
theorem al_nil : AL aNil 0 := fun s h xs h' e => by
  unfold aNil at e
  cases e; rfl
theorem al_cons {a : ME CV} {r : ME (List CV)} {n : Nat} (h : AL r n) : AL (aCons a r) (n + 1) := fun s h0 xs h' e => by
  unfold aCons at e
  cases q : a s h0 with
  | ok x h1 =>
    rw [q] at e
    have e : ((r s h1).bind fun xs h2 => Res.ok (x :: xs) h2) = .ok xs h' := e
    cases q2 : r s h1 with
    | ok ys h2 =>
      rw [q2] at e
      have e : Res.ok (x :: ys) h2 = .ok xs h' := e
      cases e
      rw [List.length_cons, h _ _ _ _ q2]
    | ex => rw [q2] at e; exact nomatch e
    | bad => rw [q2] at e; exact nomatch e
  | ex => rw [q] at e; exact nomatch e
  | bad => rw [q] at e; exact nomatch e
theorem tX_args {m : ME (List CV)} {f : List CV → CH → Res CV} {ρ : List Addr} {H : Hp} {h : CH} {s : CS} {σ : L2.St} {Q : VK} {n : Nat} (R : Rel X.K B ρ H h) (S : RepS X.K B ρ H s σ) (al : AL m n) (p : Post X.K B (rV X.K B) (fun c d H' => W c d σ H') ((m s h).bind f) ρ H Q) :
    tX X.K B (rVs X.K B) W m σ H fun us H2 => ∃ ρ2 h2 cs, ρ <+: ρ2 ∧ Per X.K H H2 ∧ Rel X.K B ρ2 H2 h2 ∧ RepVs X.K B.sc ρ2 H2 cs us ∧ cs.length = n ∧ RepS X.K B ρ2 H2 s σ ∧ Post X.K B (rV X.K B) (fun c d H' => W c d σ H') (f cs h2) ρ2 H2 Q := by
  refine ⟨ρ, h, s, R, S, ?_⟩
  cases em2 : m s h with
  | bad => rw [em2] at p; exact p
  | ex c d h' => rw [em2] at p; exact p
  | ok xs h' =>
    rw [em2] at p
    exact fun ρ2 H2 us a1 a2 R2 r2 => ⟨ρ2, h', xs, a1, a2, R2, r2, al _ _ _ _ em2, S.per a1 a2, Post.later a1 a2 p⟩
theorem meth_go {pins : List (Addr × Obj)} {σ : L2.St} {H : Hp} {s : Shared} {Q : VK} {us ws : List Value} {vs zs : List V} {cs ds : List CV} {ks : List Str} {f : Addr} {fm : Def} {a : CV} {u : V} {v : Value} {ρ : List Addr} {h : CH} (OK : Okk X.prog X.w X.K X.mg X.base B k f (n + 1) ks fm) (room : Room k X.A) (tk : Takes X W)
    (I : L2.Inv X pins σ H s) (R : Rel X.K B ρ H h) (r : RepV X.K B.sc ρ H a u) (ru : RelV u v) (rr : Vals vs us) (r2 : RepVs X.K B.sc ρ H cs vs) (ln : cs.length = n) (rz : Vals zs ws) (r3 : RepVs X.K B.sc ρ H ds zs) (lk : ds.length = ks.length)
    (p : Post X.K B (rV X.K B) (fun c d H' => W c d σ H') (fm (a :: (cs ++ ds)) h) ρ H Q) : wpAny (model X.prog X.w) X.A (call (.ref f) (v :: us) (ks.zip ws)) (EP X pins σ Q) X.xe s := by
  obtain ⟨fd, ps, gC, m0, em, F, kb⟩ := OK.ex
  obtain ⟨g, gV, kn, kr⟩ := kb.ex
  subst em
  have rg := kr B.sc ρ H (a :: cs) ds (u :: vs) zs ⟨_, _, rfl, r, r2⟩ r3 (by rw [List.length_cons, ln]) lk
  exact run_kn (us := v :: us) (ws := ws) (vs := u :: vs) (zs := zs) F room kn (passAt tk σ) I (.cons ru rr) rz (by rw [List.length_cons, r2.len, ln]) (by rw [r3.len, lk]) (spM_of' R rg p)
theorem meth_find {nf : Option Nat} {pl : Sem Bool} {ks : List Str} (T : MTb X B k mn nf n ks tb) {ar : ME (List CV)} {pins : List (Addr × Obj)} {s : Shared} {σ : L2.St} {H : Hp} {Q : VK} (he : SE X B W o mo) (I : L2.Inv X pins σ H s) (h : tX X.K B (rV X.K B) W (eMeth tb nf mo ar) σ H Q)
    (go : ∀ (s1 : Shared) (H1 : Hp) (ρ1 : List Addr) (h1 : CH) (st : CS) (a : CV) (ad f : Addr) (fm : Def), L2.Inv X pins σ H1 s1 → Rel X.K B ρ1 H1 h1 → RepS X.K B ρ1 H1 st σ → RepV X.K B.sc ρ1 H1 a (.ref ad) → PySem.W.keepIn X.K (.ref f) = true → Okk X.prog X.w X.K X.mg X.base B k f n ks fm →
      Post X.K B (rV X.K B) (fun c d H' => W c d σ H') ((ar st h1).bind fun xs h2 => fm (a :: xs) h2) ρ1 H1 Q → wpAny (model X.prog X.w) X.A (callWith pos (.ref f) [.ref ad] (backTo pos (starEach es X.env)) (backToKw pos (keywordEach kws X.env))) (EP X pins σ Q) X.xe s1)
    (ht : eval (.Call (.Attribute o mn apos) es kws pos) X.env = (do
      let ov ← eval o X.env
      standAt apos.atName
      let (f, first) ← holding [ov] (getMethod ov mn pl)
      callWith pos f first (backTo pos (starEach es X.env)) (backToKw pos (keywordEach kws X.env)))) :
    wpAny (model X.prog X.w) X.A (eval (.Call (.Attribute o mn apos) es kws pos) X.env) (EP X pins σ Q) X.xe s := by
  have h2 := tX_bind (rep := rV X.K B) (R := fun u H1 => ∃ ρ1 h1 s1 a, Rel X.K B ρ1 H1 h1 ∧ RepS X.K B ρ1 H1 s1 σ ∧ RepV X.K B.sc ρ1 H1 a u ∧ Post X.K B (rV X.K B) (fun c d H' => W c d σ H') (match methC tb nf a h1 with
    | some f => (ar s1 h1).bind fun xs h2 => f (a :: xs) h2
    | none => .bad) ρ1 H1 Q) (f := fun s x h1 => match methC tb nf x h1 with
    | some f => (ar s h1).bind fun xs h2 => f (x :: xs) h2
    | none => .bad) h fun ρ1 h1 s1 a u H1 R S r p => ⟨ρ1, h1, s1, a, R, S, r, p⟩
  refine PySem.W.methodCall_KW (pl := pl) (thn (he.run pins s σ H _ I h2) fun u s1 ⟨x, H1, I1, rx, ρ1, h1, st1, a, R, S, r, p⟩ => ?_) ht
  cases q : methC tb nf a h1 with
  | none => simp only [q] at p; exact p.elim
  | some fm =>
    simp only [q] at p
    obtain ⟨ad, C, dx, fs, c, ex, eH, eC, el, MO⟩ := meth_at T rfl R r q
    obtain ⟨f, cl, mt, OK⟩ := MO.ex
    subst ex eC
    obtain rfl : u = Value.ref ad := rx
    exact getmeth_ok I1 eH cl mt el (go s1 H1 ρ1 h1 st1 a ad f fm I1 R S r mt.kp OK p)
theorem se_meth {nf : Option Nat} {pl : Sem Bool} (T : MTb X B k mn nf (n + 1) [] tb) (room : Room k X.A) (tk : Takes X W) (he : SE X B W o mo) (ha : SA X B W (e :: es) ms) (hn : AL ms n)
    (hst : starEach (e :: es) X.env = (false, eval e X.env) :: starEach es X.env := by rfl) (hpl : (backTo pos (starEach es X.env)).any (·.1) = false := by rfl)
    (ht : eval (.Call (.Attribute o mn apos) (e :: es) [] pos) X.env = (do
      let ov ← eval o X.env
      standAt apos.atName
      let (f, first) ← holding [ov] (getMethod ov mn pl)
      callWith pos f first (backTo pos (starEach (e :: es) X.env)) (backToKw pos (keywordEach [] X.env))) := by rfl) :
    SE X B W (.Call (.Attribute o mn apos) (e :: es) [] pos) (eMeth tb nf mo ms) := by
  refine ⟨fun pins s σ H Q I h => meth_find T he I h (fun s1 H1 ρ1 h1 st a ad f fm I1 R S r kp OK p => ?_) ht⟩
  refine PySem.W.callWith_K (first := [.ref ad]) (h₀ := X.base) I.ok.mod.kin kp (thn (ha.run pos pins s1 σ H1 _ I1 (tX_args R S hn p)) fun us s2 hh => ?_) hst hpl
  obtain ⟨vs, H2, I2, rr, ρ2, h2, cs, a1, a2, R2, r2, ln, _, p2⟩ := hh
  exact ⟨I2.kIn, meth_go (ws := []) (zs := []) (ds := []) (ks := []) OK room tk I2 R2 (RepV.per a1 a2 _ _ r) rfl rr r2 ln .nil rfl rfl (by rw [List.append_nil]; exact p2)⟩
theorem se_meth0 {nf : Option Nat} {pl : Sem Bool} (T : MTb X B k mn nf 1 [] tb) (room : Room k X.A) (tk : Takes X W) (he : SE X B W o mo)
    (ht : eval (.Call (.Attribute o mn apos) [] [] pos) X.env = (do
      let ov ← eval o X.env
      standAt apos.atName
      let (f, first) ← holding [ov] (getMethod ov mn pl)
      callWith pos f first (backTo pos (starEach [] X.env)) (backToKw pos (keywordEach [] X.env))) := by rfl) :
    SE X B W (.Call (.Attribute o mn apos) [] [] pos) (eMeth tb nf mo aNil) := by
  refine ⟨fun pins s σ H Q I h => meth_find T he I h (fun s1 H1 ρ1 h1 st a ad f fm I1 R S r kp OK p => ?_) ht⟩
  exact PySem.W.callWith_K0 (first := [.ref ad]) I1.kIn kp (meth_go (us := []) (vs := []) (cs := []) (ws := []) (zs := []) (ds := []) (ks := []) (n := 0) OK room tk I1 R r rfl .nil rfl rfl .nil rfl rfl p)
theorem se_methK {nf : Option Nat} {pl : Sem Bool} {ks : List Str} (T : MTb X B k mn nf (n + 1) ks tb) (room : Room k X.A) (tk : Takes X W) (he : SE X B W o mo) (ha : SA X B W (e :: es) ms) (hn : AL ms n) (hk : SK X B W kws mk) (hl : AL mk ks.length)
    (hall : (backToKw pos (keywordEach kws X.env)).all (·.1.isSome) = true := by rfl) (hks : (backToKw pos (keywordEach kws X.env)).filterMap (·.1) = ks := by rfl)
    (hst : starEach (e :: es) X.env = (false, eval e X.env) :: starEach es X.env := by rfl) (hpl : ((backTo pos (starEach (e :: es) X.env)).any (·.1) || (backToKw pos (keywordEach kws X.env)).any (·.1.isNone)) = false := by rfl)
    (ht : eval (.Call (.Attribute o mn apos) (e :: es) kws pos) X.env = (do
      let ov ← eval o X.env
      standAt apos.atName
      let (f, first) ← holding [ov] (getMethod ov mn pl)
      callWith pos f first (backTo pos (starEach (e :: es) X.env)) (backToKw pos (keywordEach kws X.env))) := by rfl) :
    SE X B W (.Call (.Attribute o mn apos) (e :: es) kws pos) (eMeth tb nf mo (aApp ms mk)) := by
  refine ⟨fun pins s σ H Q I h => meth_find T he I h (fun s1 H1 ρ1 h1 st a ad f fm I1 R S r kp OK p => ?_) ht⟩
  have p : Post X.K B (rV X.K B) (fun c d H' => W c d σ H') ((ms st h1).bind fun xs h2 => (mk st h2).bind fun ys h3 => fm (a :: (xs ++ ys)) h3) ρ1 H1 Q := by
    unfold aApp at p
    cases q : ms st h1 with
    | ok xs h2 =>
      rw [q] at p
      show Post X.K B (rV X.K B) (fun c d H' => W c d σ H') ((mk st h2).bind fun ys h3 => fm (a :: (xs ++ ys)) h3) ρ1 H1 Q
      cases q2 : mk st h2 with
      | ok ys h3 => simp only [bind_ok, q2] at p; exact p
      | ex => simp only [bind_ok, q2, bind_ex] at p; exact p
      | bad => simp only [bind_ok, q2, bind_bad] at p; exact p
    | ex => rw [q] at p; exact p
    | bad => rw [q] at p; exact p
  refine PySem.W.callWith_KW (first := [.ref ad]) (h₀ := X.base) I.ok.mod.kin kp hall (thn (ha.run pos pins s1 σ H1 _ I1 (tX_args (f := fun xs h2 => (mk st h2).bind fun ys h3 => fm (a :: (xs ++ ys)) h3) R S hn p)) fun us s2 hh => ?_) hpl hst
  obtain ⟨vs, H2, I2, rr, ρ2, h2, cs, a1, a2, R2, r2, ln, S2, p2⟩ := hh
  refine thn (hk.run pos pins s2 σ H2 _ I2 (tX_args (f := fun ys h3 => fm (a :: (cs ++ ys)) h3) R2 S2 hl p2)) fun ws s3 hh => ?_
  obtain ⟨zs, H3, I3, rz, ρ3, h3, ds, b1, b2, R3, r3, ln3, _, p3⟩ := hh
  refine ⟨I3.kIn, ?_⟩
  rw [hks]
  exact meth_go OK room tk I3 R3 (RepV.per (a1.trans b1) (a2.trans b2) _ _ r) rfl rr (RepVs.per b1 b2 _ _ r2) ln rz r3 ln3 p3
end
end Cn
set_option Elab.async false
set_option linter.all false
set_option maxRecDepth 100000
set_option maxHeartbeats 4000000
namespace Cn
open PySem PySem.Spec PyProof.Rows L2
section
variable {K : PySem.W.Frag} {B : Bs} {ρ : List Addr} {H : Hp} {h : CH}
theorem Rel.aside (R : Rel K B ρ H h) {p : Addr} {u : HO} (hp : H p = none) : Rel K B ρ (upd H p u) h := by
  refine ⟨R.scq, R.len, R.nd, fun i o e => ?_⟩
  obtain ⟨a, w, e1, e2, e3⟩ := R.obj i o e
  have na : a ≠ p := fun z => by
    rw [z, hp] at e2
    exact nomatch e2
  exact ⟨a, w, e1, by rw [upd_ne na]; exact e2, e3.per (List.prefix_refl _) (.new hp)⟩
end
section
variable {X : Cx} {B : Bs} {W : WX} {e o : Expr} {es : List Expr} {kws : List Keyword} {mo me : ME CV} {ms mk : ME (List CV)} {pos apos kpos p : Pos} {k n c : Nat} {x mn : Str} {fi C : Addr}
theorem make_go {pins : List (Addr × Obj)} {σ : L2.St} {H : Hp} {s : Shared} {Q : VK} {us ws : List Value} {vs zs : List V} {cs ds : List CV} {ks : List Str} {fm : Def} {ρ : List Addr} {h : CH} (M : Mk X.K (B.ca c) fi) (OK : Okk X.prog X.w X.K X.mg X.base B k fi (n + 1) ks fm) (room : Room (k + 1) X.A) (tk : Takes X W)
    (I : L2.Inv X pins σ H s) (R : Rel X.K B ρ H h) (rr : Vals vs us) (r2 : RepVs X.K B.sc ρ H cs vs) (ln : cs.length = n) (rz : Vals zs ws) (r3 : RepVs X.K B.sc ρ H ds zs) (lk : ds.length = ks.length)
    (q : Post X.K B (rV X.K B) (fun c d H' => W c d σ H') (mkC c fm (cs ++ ds) h) ρ H Q) : wpAny (model X.prog X.w) X.A (call (.ref (B.ca c)) us (ks.zip ws)) (EP X pins σ Q) X.xe s := by
  obtain ⟨fd, ps, gC, m0, em, F, kb⟩ := OK.ex
  obtain ⟨g, gV, kn, kr⟩ := kb.ex
  subst em
  refine run_mk M F room kn (passAt tk σ) I rr rz (by rw [r2.len, ln]) (by rw [r3.len, lk]) fun y dx hy hd ne => ?_
  have hy2 : (upd H dx (.own y)) y = none := by rw [upd_ne (Ne.symm ne)]; exact hy
  have R1 := R.aside (u := .own y) hd
  have P1 : Per X.K H (upd H dx (.own y)) := .new hd
  have ro : RepO X.K B B.sc (ρ ++ [y]) (upd (upd H dx (.own y)) y (.ins (B.ca c) dx [])) (.ins c []) (.ins (B.ca c) dx []) := ⟨dx, [], rfl, rfl, by show 0 < 900; omega⟩
  have R2 := R1.new hy2 ro
  have P2 : Per X.K H (upd (upd H dx (.own y)) y (.ins (B.ca c) dx [])) := P1.trans (.new hy2)
  have pre : ρ <+: ρ ++ [y] := List.prefix_append _ _
  have rs : RepV X.K B.sc (ρ ++ [y]) (upd (upd H dx (.own y)) y (.ins (B.ca c) dx [])) (.ref h.os.length) (.ref y) := ⟨y, by rw [← R.len, List.getElem?_append_right (Nat.le_refl _), Nat.sub_self]; rfl, rfl⟩
  refine spM_of' R2 (kr B.sc _ _ (.ref h.os.length :: cs) ds (.ref y :: vs) zs ⟨_, _, rfl, rs, RepVs.per pre P2 _ _ r2⟩ (RepVs.per pre P2 _ _ r3) (by rw [List.length_cons, ln]) lk) ?_
  have q' := Post.later pre P2 q
  unfold mkC re at q'
  have q2 := Post.bind (rep := rV X.K B) q'
  refine Post.imp (fun v H1 hh => ?_) q2
  obtain ⟨r, h2, ρ2, M2, p2⟩ := hh
  cases r with
  | non =>
    have ev : v = .non := M2.rp
    refine ⟨ev, ?_⟩
    exact p2.ok M2.rel (RepV.per M2.pre M2.per _ _ rs)
  | _ => exact p2.elim
theorem se_makeK0 {ks : List Str} {fm : Def} (M : Mk X.K C fi) (eC : B.ca c = C) (OK : Okk X.prog X.w X.K X.mg X.base B k fi 1 ks fm) (room : Room (k + 1) X.A) (tk : Takes X W) (hg : Gl X x) (hm : X.mg x = some (.ref C)) (hk : SK X B W kws mk) (hl : AL mk ks.length)
    (hdb : (x == ("__debug__" : Str)) = false := by decide +kernel) (hall : (backToKw pos (keywordEach kws X.env)).all (·.1.isSome) = true := by rfl) (hks : (backToKw pos (keywordEach kws X.env)).filterMap (·.1) = ks := by rfl)
    (hpl : ((backTo pos (starEach [] X.env)).any (·.1) || (backToKw pos (keywordEach kws X.env)).any (·.1.isNone)) = false := by rfl) :
    SE X B W (.Call (.Name x p) [] kws pos) (eMake c fm mk) := by
  subst eC
  refine ⟨fun pins s σ H Q I h => ?_⟩
  refine wpAny_Call_Name_kw (ld_glob I hg hm ?_ hdb)
  obtain ⟨ρ, h0, st, R, S, q⟩ := h
  refine PySem.W.callWith_KW0 (h₀ := X.base) I.ok.mod.kin M.kp hall ?_ hpl
  refine thn (hk.run pos pins s σ H _ I (tX_args (f := mkC c fm) R S hl q)) fun ws s2 hh => ?_
  obtain ⟨zs, H2, I2, rz, ρ2, h2, ds, a1, a2, R2, r3, l3, _, p2⟩ := hh
  refine ⟨I2.kIn, ?_⟩
  rw [hks]
  exact make_go (n := 0) (us := []) (vs := []) (cs := []) M OK room tk I2 R2 .nil rfl rfl rz r3 l3 p2
theorem se_make {fm : Def} (M : Mk X.K C fi) (eC : B.ca c = C) (OK : Okk X.prog X.w X.K X.mg X.base B k fi (n + 1) [] fm) (room : Room (k + 1) X.A) (tk : Takes X W) (hg : Gl X x) (hm : X.mg x = some (.ref C)) (ha : SA X B W (e :: es) ms) (hn : AL ms n)
    (hdb : (x == ("__debug__" : Str)) = false := by decide +kernel) (he : starEach (e :: es) X.env = (false, eval e X.env) :: starEach es X.env := by rfl) (hpl : (backTo pos (starEach es X.env)).any (·.1) = false := by rfl) :
    SE X B W (.Call (.Name x p) (e :: es) [] pos) (eMake c fm ms) := by
  subst eC
  refine ⟨fun pins s σ H Q I h => ?_⟩
  refine wpAny_Call_Name_kw (ld_glob I hg hm ?_ hdb)
  obtain ⟨ρ, h0, st, R, S, q⟩ := h
  refine PySem.W.callWith_K (h₀ := X.base) I.ok.mod.kin M.kp (thn (ha.run pos pins s σ H _ I (tX_args (f := mkC c fm) R S hn q)) fun us s1 hh => ?_) he hpl
  obtain ⟨vs, H2, I2, rr, ρ2, h2, cs, a1, a2, R2, r2, l2, _, p2⟩ := hh
  exact ⟨I2.kIn, make_go (ws := []) (zs := []) (ds := []) (ks := []) M OK room tk I2 R2 rr r2 l2 .nil rfl rfl (by rw [List.append_nil]; exact p2)⟩
theorem se_make0 {fm : Def} (M : Mk X.K C fi) (eC : B.ca c = C) (OK : Okk X.prog X.w X.K X.mg X.base B k fi 1 [] fm) (room : Room (k + 1) X.A) (tk : Takes X W) (hg : Gl X x) (hm : X.mg x = some (.ref C))
    (hdb : (x == ("__debug__" : Str)) = false := by decide +kernel) : SE X B W (.Call (.Name x p) [] [] pos) (eMake c fm aNil) := by
  subst eC
  refine ⟨fun pins s σ H Q I h => ?_⟩
  refine wpAny_Call_Name_kw (ld_glob I hg hm ?_ hdb)
  obtain ⟨ρ, h0, st, R, S, q⟩ := h
  exact PySem.W.callWith_K0 I.kIn M.kp (make_go (n := 0) (us := []) (vs := []) (cs := []) (ws := []) (zs := []) (ds := []) (ks := []) M OK room tk I R .nil rfl rfl .nil rfl rfl q)
end
section
variable {K : PySem.W.Frag} {x qual : Str} {params : Arguments} {body : List Stmt} {scope : Scope} {dvs : List V} {kws : List (Str × V)} {f : Addr} {fd : FuncData} {ps : List Str}
inductive CD1 where
  | non | int (i : Int) | bl (b : Bool)
def CD1.c : CD1 → CV
  | .non => .non
  | .int i => .int i
  | .bl b => .bl b
def CD1.v : CD1 → V
  | .non => .non
  | .int i => .int i
  | .bl b => .bl b
theorem rep_cds {sc : List Int} {ρ : List Addr} {H : Hp} : ∀ l : List CD1, RepVs K sc ρ H (l.map CD1.c) (l.map CD1.v)
  | [] => rfl
  | d :: l => ⟨d.v, l.map CD1.v, rfl, by cases d <;> rfl, rep_cds l⟩
theorem KB.dfl (F : FunD K x qual params body scope dvs kws f fd) (n : Nat) (ks : List Str) (ds : List CD1) (ed : dvs = ds.map CD1.v) (g : {α : Type} → List α → List α → List α → List α) (hd : ds ≠ [])
    (hrel : ∀ {vs ds zs : List V} {us its ws : List Value}, Vals vs us → Vals ds its → Vals zs ws → Vals (g vs ds zs) (g us its ws))
    (hrep : ∀ (sc : List Int) (ρ : List Addr) (H : Hp) (cs ds zs : List CV) (vs ws us : List V), RepVs K sc ρ H cs vs → RepVs K sc ρ H ds ws → RepVs K sc ρ H zs us → RepVs K sc ρ H (g cs ds zs) (g vs ws us))
    (h : ∀ (T : Addr) (kV doc pm : Value) (an : Option Addr) (cdv ct : Value) (us its ws : List Value), us.length = n → its.length = dvs.length → ws.length = ks.length →
      ∃ k, bindArgs (PySem.W.fnOf x qual params body scope (.ref T) kV doc pm an cdv ct) ⟨us, ks.zip ws⟩ = seqItems? (.ref T) >>= k ∧ k (some its.toArray) = pure (ps.zip (g us its ws))) :
    KB K fd ps n ks fun l => g (l.take n) (ds.map CD1.c) (l.drop n) := by
  subst ed
  obtain ⟨its, b⟩ := F.kbindsD n ks g (by simpa using hd) hrel h
  refine ⟨_, _, b, fun sc ρ H cs zs vs ws r1 r2 l1 l2 => ?_⟩
  show RepVs K sc ρ H (g ((cs ++ zs).take n) (ds.map CD1.c) ((cs ++ zs).drop n)) (g vs (ds.map CD1.v) ws)
  subst l1
  rw [List.take_left' rfl, List.drop_left' rfl]
  exact hrep sc ρ H _ _ _ _ _ _ r1 (rep_cds ds) r2
theorem KB.kwo (F : FunD K x qual params body scope [] kws f fd) (n : Nat) (ks : List Str) (ms : List (Str × CD1)) (g : {α : Type} → List α → List α → List α → List α) (hk : kws ≠ []) (hms : ∀ q ∈ ms, (q.1, q.2.v) ∈ kws)
    (hrel : ∀ {vs mz zs : List V} {us mv ws : List Value}, Vals vs us → Vals mz mv → Vals zs ws → Vals (g vs mz zs) (g us mv ws))
    (hrep : ∀ (sc : List Int) (ρ : List Addr) (H : Hp) (cs ds zs : List CV) (vs ws us : List V), RepVs K sc ρ H cs vs → RepVs K sc ρ H ds ws → RepVs K sc ρ H zs us → RepVs K sc ρ H (g cs ds zs) (g vs ws us))
    (h : ∀ (D : Addr) (doc pm : Value) (an : Option Addr) (cdv ct : Value) (us mv ws : List Value), us.length = n → mv.length = ms.length → ws.length = ks.length →
      KwChain D ((ms.map (·.1)).zip mv) (bindArgs (PySem.W.fnOf x qual params body scope .none (.ref D) doc pm an cdv ct) ⟨us, ks.zip ws⟩) (ps.zip (g us mv ws))) :
    KB K fd ps n ks fun l => g (l.take n) (ms.map (·.2.c)) (l.drop n) := by
  have e1 : (ms.map fun q => (q.1, q.2.v)).map (·.1) = ms.map (·.1) := by rw [List.map_map]; rfl
  have e2 : (ms.map fun q => (q.1, q.2.v)).map (·.2) = (ms.map (·.2)).map CD1.v := by rw [List.map_map, List.map_map]; rfl
  have e3 : ms.map (·.2.c) = (ms.map (·.2)).map CD1.c := by rw [List.map_map]; rfl
  obtain ⟨mv, b⟩ := F.kbinds0 n ks (ms.map fun q => (q.1, q.2.v)) g hk (fun q hq => by
    obtain ⟨p, hp, e⟩ := List.mem_map.mp hq
    rw [← e]; exact hms p hp) hrel (fun D doc pm an cdv ct us mv ws l1 l2 l3 => by
      rw [e1]
      exact h D doc pm an cdv ct us mv ws l1 (by rw [l2, List.length_map]) l3)
  refine ⟨_, _, b, fun sc ρ H cs zs vs ws r1 r2 l1 l2 => ?_⟩
  show RepVs K sc ρ H (g ((cs ++ zs).take n) (ms.map (·.2.c)) ((cs ++ zs).drop n)) (g vs ((ms.map fun q => (q.1, q.2.v)).map (·.2)) ws)
  subst l1
  rw [List.take_left' rfl, List.drop_left' rfl, e2, e3]
  exact hrep sc ρ H _ _ _ _ _ _ r1 (rep_cds _) r2
end
end Cn
namespace Cn
open PySem PySem.Spec PyProof.Rows L2
theorem vals_get {vs : List V} {us : List Value} (r : Vals vs us) (p : Nat) : (vs[p]? = none ∧ us[p]? = none) ∨ ∃ v u, vs[p]? = some v ∧ us[p]? = some u ∧ RelV v u := by
  induction r generalizing p with
  | nil => exact .inl ⟨by simp, by simp⟩
  | cons a r ih =>
    cases p with
    | zero => exact .inr ⟨_, _, rfl, rfl, a⟩
    | succ p => exact ih p
theorem vals_sel (pos : List Nat) {vs ds zs : List V} {us its ws : List Value} (a : Vals vs us) (b : Vals ds its) (c : Vals zs ws) : Vals (gsel pos vs ds zs) (gsel pos us its ws) := by
  have r := a.append (b.append c)
  unfold gsel
  induction pos with
  | nil => exact .nil
  | cons p pos ih =>
    rw [List.filterMap_cons, List.filterMap_cons]
    rcases vals_get r p with ⟨e1, e2⟩ | ⟨v, u, e1, e2, e3⟩
    · rw [e1, e2]; exact ih
    · rw [e1, e2]; exact .cons e3 ih
theorem reps_app {K : PySem.W.Frag} {sc : List Int} {ρ : List Addr} {H : Hp} : ∀ {cs ds : List CV} {vs ws : List V}, RepVs K sc ρ H cs vs → RepVs K sc ρ H ds ws → RepVs K sc ρ H (cs ++ ds) (vs ++ ws)
  | [], ds, vs, ws, e, r => by
    have e : vs = [] := e
    subst e
    exact r
  | c :: cs, ds, vs, ws, e, r => by
    obtain ⟨v, vs', rfl, h1, h2⟩ := e
    exact ⟨v, vs' ++ ws, rfl, h1, reps_app h2 r⟩
theorem reps_get {K : PySem.W.Frag} {sc : List Int} {ρ : List Addr} {H : Hp} : ∀ {cs : List CV} {vs : List V}, RepVs K sc ρ H cs vs → ∀ p : Nat, (cs[p]? = none ∧ vs[p]? = none) ∨ ∃ c v, cs[p]? = some c ∧ vs[p]? = some v ∧ RepV K sc ρ H c v
  | [], vs, e, p => by
    have e : vs = [] := e
    subst e
    exact .inl ⟨by simp, by simp⟩
  | c :: cs, vs, e, p => by
    obtain ⟨v, vs', rfl, h1, h2⟩ := e
    cases p with
    | zero => exact .inr ⟨_, _, rfl, rfl, h1⟩
    | succ p => exact reps_get h2 p
theorem reps_sel {K : PySem.W.Frag} (pos : List Nat) (sc : List Int) (ρ : List Addr) (H : Hp) (cs ds zs : List CV) (vs ws us : List V) (a : RepVs K sc ρ H cs vs) (b : RepVs K sc ρ H ds ws) (c : RepVs K sc ρ H zs us) : RepVs K sc ρ H (gsel pos cs ds zs) (gsel pos vs ws us) := by
  have r := reps_app a (reps_app b c)
  unfold gsel
  induction pos with
  | nil => exact rfl
  | cons p pos ih =>
    rw [List.filterMap_cons, List.filterMap_cons]
    rcases reps_get r p with ⟨e1, e2⟩ | ⟨v, u, e1, e2, e3⟩
    · rw [e1, e2]; exact ih
    · rw [e1, e2]; exact ⟨_, _, rfl, e3, ih⟩
theorem fld_ok {K : PySem.W.Frag} {B : Bs} {cs : List Nat} {k : Nat} {f : Str} (cl : ∀ c ∈ cs, Cls K (B.ca c) ∧ NoAttr K (B.ca c) f) (nm : B.an[k]? = some f) (nd : B.an.Nodup) : FldOk K B cs k f := ⟨cl, nm, nd⟩
theorem cl_nil {K : PySem.W.Frag} {B : Bs} {f : Str} : ∀ c ∈ ([] : List Nat), Cls K (B.ca c) ∧ NoAttr K (B.ca c) f := fun c h => nomatch h
theorem cl_cons {K : PySem.W.Frag} {B : Bs} {f : Str} {d : Nat} {cs : List Nat} {C : Addr} (e : B.ca d = C) (a : Cls K C) (b : NoAttr K C f) (r : ∀ c ∈ cs, Cls K (B.ca c) ∧ NoAttr K (B.ca c) f) : ∀ c ∈ d :: cs, Cls K (B.ca c) ∧ NoAttr K (B.ca c) f := fun c h => by
  subst e
  rcases List.mem_cons.mp h with h | h
  · subst h; exact ⟨a, b⟩
  · exact r c h
section
variable {X : Cx} {B : Bs} {k n : Nat} {mn : Str} {ks : List Str} {tb : List (Nat × Def)}
theorem mt_nil : ∀ p ∈ ([] : List (Nat × Def)), MOk X B k mn n ks p.1 p.2 := fun p h => nomatch h
theorem mt_cons {c : Nat} {m : Def} {C f : Addr} {j : Nat} (e : B.ca c = C) (a : Cls X.K C) (b : Meth X.K C mn f) (o : Okk X.prog X.w X.K X.mg X.base B j f n ks m) (hj : j ≤ k) (r : ∀ p ∈ tb, MOk X B k mn n ks p.1 p.2) : ∀ p ∈ (c, m) :: tb, MOk X B k mn n ks p.1 p.2 := fun p h => by
  subst e
  rcases List.mem_cons.mp h with h | h
  · subst h; exact ⟨f, a, b, o.mono hj⟩
  · exact r p h
theorem mt_free (nm : mn ∉ B.an) (r : ∀ p ∈ tb, MOk X B k mn n ks p.1 p.2) : MTb X B k mn none n ks tb := ⟨r, nm⟩
theorem mt_fld {i : Nat} (nm : B.an[i]? = some mn) (nd : B.an.Nodup) (r : ∀ p ∈ tb, MOk X B k mn n ks p.1 p.2) : MTb X B k mn (some i) n ks tb := ⟨r, nm, nd⟩
end
end Cn
namespace Cn
open PySem PySem.Spec PyProof.Rows L2
theorem kwc_nil {α : Type} {D : Addr} {t : Sem α} {r : α} (e : t = pure r) : KwChain D [] t r := e
theorem kwc_cons {α β γ : Type} {D : Addr} {q : Str × Value} {l : List (Str × Value)} {t : Sem α} {r : α} {k1 : Option Value → Sem β} {k2 : β → Sem γ} {k3 : γ → Sem α} {a : β} (e : t = ((nsGet D q.1 >>= k1) >>= k2) >>= k3) (e2 : k1 (some q.2) = pure a) (c : KwChain D l (k2 a >>= k3) r) : KwChain D (q :: l) t r := ⟨β, γ, k1, k2, k3, a, e, e2, c⟩
end Cn
set_option Elab.async false
set_option linter.all false
set_option maxRecDepth 100000
set_option maxHeartbeats 4000000
namespace Cn
open PySem PySem.Spec PyProof.Rows L2
section
variable {K : PySem.W.Frag} {B : Bs} {W : WX}
theorem v_min : VCall K B minV (fun xs H Q => ∃ i j, xs = [.int i, .int j] ∧ Q (.int (if j < i then j else i)) H) := by
  intro ρ H h cs vs W Q R r p
  unfold minV at p
  split at p
  · rename_i i j
    obtain ⟨v, w, e, r1, r2⟩ := two_rep r
    have e1 : v = .int i := r1
    have e2 : w = .int j := r2
    subst e e1 e2
    exact ⟨i, j, rfl, p.ok R rfl⟩
  · exact p.elim
theorem v_max : VCall K B maxV (fun xs H Q => ∃ i j, xs = [.int i, .int j] ∧ Q (.int (if j > i then j else i)) H) := by
  intro ρ H h cs vs W Q R r p
  unfold maxV at p
  split at p
  · rename_i i j
    obtain ⟨v, w, e, r1, r2⟩ := two_rep r
    have e1 : v = .int i := r1
    have e2 : w = .int j := r2
    subst e e1 e2
    exact ⟨i, j, rfl, p.ok R rfl⟩
  · exact p.elim
theorem v_list : VCall K B listV (fun xs H Q => ∃ p ys, xs = [.ref p] ∧ (SqL K H p ys ∨ SqT K H p ys) ∧ ∀ l, H l = none → Q (.ref l) (upd H l (.lst ys))) := by
  intro ρ H h cs vs W Q R r p
  unfold listV at p
  split at p
  · rename_i x
    obtain ⟨v, e, r1⟩ := one_rep r
    cases q : seqOf h x with
    | none => rw [q] at p; exact p.elim
    | some xs =>
      rw [q] at p
      obtain ⟨a, ys, ev, sq, rs⟩ := R.sqT r1 q
      subst e ev
      refine ⟨a, ys, rfl, sq, fun l hl => Post.alloc (o := .lst xs) R hl ⟨ys, rfl, RepVs.per (List.prefix_append _ _) (.new hl) _ _ rs⟩ p⟩
  · exact p.elim
theorem v_tup : VCall K B tupV (fun xs H Q => ∃ p ys, xs = [.ref p] ∧ ((SqL K H p ys ∧ ∀ l, H l = none → Q (.ref l) (upd H l (.tup ys))) ∨ (SqT K H p ys ∧ Q (.ref p) H))) := by
  intro ρ H h cs vs W Q R r p
  unfold tupV at p
  split at p
  · rename_i x
    obtain ⟨v, e, r1⟩ := one_rep r
    subst e
    cases x with
    | tup xs =>
      obtain ⟨a, ys, ev, sq, rs⟩ := r1
      subst ev
      exact ⟨a, ys, rfl, .inr ⟨SqT.of sq, p.ok R ⟨a, ys, rfl, sq, rs⟩⟩⟩
    | scr =>
      obtain ⟨a, ev, sq⟩ := r1
      subst ev
      exact ⟨a, _, rfl, .inl ⟨sq.sq, fun l hl => Post.tup R hl (by rw [R.scq]; exact RepVs.ints) p⟩⟩
    | ref n =>
      cases q : h.os[n]? with
      | none => simp [seqOf, lstOf, q] at p; exact p.elim
      | some o =>
        cases o with
        | lst xs =>
          simp only [seqOf, lstOf, q] at p
          obtain ⟨a, ws, ea, ev, hH, hr⟩ := R.lst r1 q
          subst ev
          exact ⟨a, ws, rfl, .inl ⟨SqL.of hH, fun l hl => Post.tup R hl hr p⟩⟩
        | _ => simp [seqOf, lstOf, q] at p; exact p.elim
    | _ => exact p.elim
  · exact p.elim
theorem v_extend : VMeth K B 5 extendV rExtend := by
  intro ρ H h c cs v vs W Q R r rs p
  unfold extendV at p
  split at p
  · rename_i n m e
    injection e with e1 e2
    subst e1 e2
    obtain ⟨w, ew, rw'⟩ := one_rep rs
    subst ew
    cases q : h.os[n]? with
    | none => simp only [q] at p; exact p.elim
    | some o =>
      cases o with
      | lst xs =>
        cases q2 : h.os[m]? with
        | none => simp only [q, q2] at p; exact p.elim
        | some o2 =>
          cases o2 with
          | lst ys =>
            simp only [q, q2] at p
            by_cases hl : xs.length + ys.length ≤ LINE
            · rw [if_pos hl] at p
              obtain ⟨a, ws, ea, ev, hH, hr⟩ := R.lst r q
              obtain ⟨b, zs, eb, ew, hB, hr2⟩ := R.lst rw' q2
              subst ev ew
              have mu : Mut (H a) := by rw [hH]; trivial
              refine ⟨a, b, ws, zs, rfl, rfl, hH, hB, by rw [hr.len, hr2.len, ← line_eq]; exact hl, p ρ _ .non (List.prefix_refl _) (.write mu) (R.set ea mu ⟨_, rfl, ?_⟩) rfl⟩
              exact (RepVs.per (List.prefix_refl _) (.write mu) _ _ hr).append (RepVs.per (List.prefix_refl _) (.write mu) _ _ hr2)
            · rw [if_neg hl] at p; exact p.elim
          | _ => simp only [q, q2] at p; exact p.elim
      | _ => simp only [q] at p; exact p.elim
  · exact p.elim
theorem v_clear : VMeth K B 5 clearV rClear := by
  intro ρ H h c cs v vs W Q R r rs p
  unfold clearV at p
  split at p
  · rename_i n e
    injection e with e1 e2
    subst e1 e2
    have ev : vs = [] := rs
    subst ev
    cases q : h.os[n]? with
    | none => simp only [q] at p; exact p.elim
    | some o =>
      cases o with
      | lst xs =>
        simp only [q] at p
        obtain ⟨a, ws, ea, ev, hH, hr⟩ := R.lst r q
        subst ev
        have mu : Mut (H a) := by rw [hH]; trivial
        exact ⟨a, ws, rfl, rfl, hH, p ρ _ .non (List.prefix_refl _) (.write mu) (R.set ea mu ⟨_, rfl, rfl⟩) rfl⟩
      | _ => simp only [q] at p; exact p.elim
  · exact p.elim
theorem splC_ne (c : Nat) : ∀ l, splC c l ≠ []
  | [] => by simp [splC]
  | x :: r => by
    unfold splC
    split
    · simp
    · split <;> simp
theorem spl1 (c : Nat) : ∀ (l acc : List Nat), TL.spl [c] 0 acc l = match splC c l with
    | p :: ps => (acc ++ p) :: ps
    | [] => [acc]
  | [], acc => by simp [TL.spl, splC]
  | x :: r, acc => by
    unfold splC
    by_cases e : x = c
    · rw [if_pos e, TL.spl_hit (by rw [pre1]; simp [e])]
      have ih := spl1 c r []
      show acc :: TL.spl [c] 0 [] r = _
      rw [ih]
      cases q : splC c r with
      | nil => exact absurd q (splC_ne c r)
      | cons p ps => simp
    · rw [if_neg e, TL.spl_miss (by rw [pre1]; simp [e])]
      rw [spl1 c r (acc ++ [x])]
      cases q : splC c r with
      | nil => exact absurd q (splC_ne c r)
      | cons p ps => simp
theorem splC_mem (c : Nat) : ∀ (l : List Nat) p, p ∈ splC c l → ∀ x ∈ p, x ∈ l
  | [], p, h, x, hx => by
    simp [splC] at h
    subst h
    exact nomatch hx
  | y :: r, p, h, x, hx => by
    unfold splC at h
    by_cases e : y = c
    · rw [if_pos e] at h
      rcases List.mem_cons.mp h with h | h
      · subst h; exact nomatch hx
      · exact List.mem_cons_of_mem _ (splC_mem c r p h x hx)
    · rw [if_neg e] at h
      cases q : splC c r with
      | nil => exact absurd q (splC_ne c r)
      | cons z zs =>
        rw [q] at h
        rcases List.mem_cons.mp h with h | h
        · subst h
          rcases List.mem_cons.mp hx with hx | hx
          · rw [hx]; exact List.mem_cons_self ..
          · exact List.mem_cons_of_mem _ (splC_mem c r z (by rw [q]; exact List.mem_cons_self ..) x hx)
        · exact List.mem_cons_of_mem _ (splC_mem c r p (by rw [q]; exact List.mem_cons_of_mem _ h) x hx)
theorem rep_strs {sc : List Int} {ρ : List Addr} {H : Hp} : ∀ {zs : List (List Nat)}, (∀ z ∈ zs, Pts z) → RepVs K sc ρ H (zs.map CV.str) ((zs.map fun z => (⟨z.toArray⟩ : Str)).map V.str)
  | [], _ => rfl
  | z :: zs, h => ⟨_, _, rfl, ⟨rfl, h z (List.mem_cons_self ..)⟩, rep_strs fun y hy => h y (List.mem_cons_of_mem _ hy)⟩
theorem v_split : VMeth K B 3 splitV (fun x xs H Q => ∃ a b, x = .str a ∧ xs = [.str b] ∧ (b.length == 0) = false ∧ a.length + 2 ≤ sizeLine ∧ rNewStrs (Txt.split a b) H Q) := by
  intro ρ H h c cs v vs W Q R r rs p
  unfold splitV at p
  split at p
  · rename_i a c' e
    injection e with e1 e2
    subst e1 e2
    obtain ⟨w, ew, rw'⟩ := one_rep rs
    have ev := r.1
    have ew2 := rw'.1
    subst ev ew ew2
    by_cases hl : a.length + 2 ≤ LINE ∧ c' < 256
    · rw [if_pos hl] at p
      refine ⟨_, _, rfl, rfl, rfl, by rw [str_len, ← line_eq]; exact hl.1, fun l hn => ?_⟩
      have e : Txt.split ⟨a.toArray⟩ ⟨[c'].toArray⟩ = (splC c' a).map fun z => (⟨z.toArray⟩ : Str) := by
        refine TL.map_tl_inj ?_
        rw [TL.split_spl _ _ (by simp) (TL.kind_ok (by simp [hl.2]))]
        show TL.spl [c'] 0 [] a = _
        rw [spl1 c' a []]
        rw [List.map_map]
        have e2 : ∀ l : List (List Nat), l.map (TL.tl ∘ fun z => (⟨z.toArray⟩ : Str)) = l := fun l => by
          induction l with
          | nil => rfl
          | cons z zs ih => rw [List.map_cons, ih]; rfl
        rw [e2]
        cases q : splC c' a with
        | nil => exact absurd q (splC_ne c' a)
        | cons p ps => rfl
      rw [e]
      exact Post.alloc (o := .lst ((splC c' a).map CV.str)) R hn ⟨_, rfl, rep_strs fun z hz x hx => r.2 x (splC_mem c' a z hz x hx)⟩ p
    · rw [if_neg hl] at p; exact p.elim
  · exact p.elim
end
end Cn
set_option Elab.async false
set_option linter.all false
set_option maxRecDepth 100000
set_option maxHeartbeats 4000000
namespace Cn
open PySem PySem.Spec PyProof.Rows L2
section
variable {K : PySem.W.Frag} {B : Bs} {sc : List Int} {ρ : List Addr} {H : Hp} {h : CH}
theorem keyC_inj {a b : CK} (e : keyC a = keyC b) : a = b := by
  cases a <;> cases b <;> simp [keyC] at e <;> rw [e]
theorem keysC_inj : ∀ {a b : List CK}, a.map keyC = b.map keyC → a = b
  | [], [], _ => rfl
  | [], _ :: _, e => nomatch e
  | _ :: _, [], e => nomatch e
  | x :: xs, y :: ys, e => by
    rw [List.map_cons, List.map_cons] at e
    injection e with e1 e2
    rw [keyC_inj e1, keysC_inj e2]
section
variable {κ κ' : Type} [DecidableEq κ] [DecidableEq κ'] {f : κ → κ'} (inj : ∀ a b, f a = f b → a = b)
theorem valC_pos {p : κ × CV} {r : List (κ × CV)} {k : κ} (e : p.1 = k) : valC (p :: r) k = some p.2 := by simp [valC, List.find?_cons, e]
theorem valC_neg {p : κ × CV} {r : List (κ × CV)} {k : κ} (e : ¬ p.1 = k) : valC (p :: r) k = valC r k := by simp [valC, List.find?_cons, e]
include inj in
theorem rep_val (k : κ) : ∀ {kvs : List (κ × CV)} {vs : List (κ' × V)}, RepKs K sc ρ H f kvs vs → (∀ c, valC kvs k = some c → ∃ v, valV vs (f k) = some v ∧ RepV K sc ρ H c v) ∧ (valC kvs k = none → valV vs (f k) = none)
  | [], vs, e => by
    have e : vs = [] := e
    subst e
    refine ⟨fun c z => ?_, fun _ => rfl⟩
    simp [valC] at z
  | (j, c) :: r, vs, e => by
    obtain ⟨v, vs', rfl, rv, rr⟩ := e
    by_cases q : j = k
    · subst q
      rw [valC_pos rfl, valV_pos rfl]
      exact ⟨fun d z => by injection z with z; rw [← z]; exact ⟨v, rfl, rv⟩, fun z => nomatch z⟩
    · rw [valC_neg q, valV_neg (fun z => q (inj _ _ z))]
      exact rep_val k rr
theorem repKs_len : ∀ {kvs : List (κ × CV)} {vs : List (κ' × V)}, RepKs K sc ρ H f kvs vs → vs.length = kvs.length
  | [], vs, e => by
    have e : vs = [] := e
    subst e; rfl
  | (j, c) :: r, vs, e => by
    obtain ⟨v, vs', rfl, rv, rr⟩ := e
    rw [List.length_cons, List.length_cons, repKs_len rr]
include inj in
theorem rep_any (k : κ) : ∀ {kvs : List (κ × CV)} {vs : List (κ' × V)}, RepKs K sc ρ H f kvs vs → (vs.any fun kv => decide (kv.1 = f k)) = (kvs.any fun kv => decide (kv.1 = k))
  | [], vs, e => by
    have e : vs = [] := e
    subst e; rfl
  | (j, c) :: r, vs, e => by
    obtain ⟨v, vs', rfl, rv, rr⟩ := e
    rw [List.any_cons, List.any_cons, rep_any k rr]
    congr 1
    exact decide_eq_decide.mpr ⟨fun z => inj _ _ z, fun z => congrArg f z⟩
include inj in
theorem rep_mapK (k : κ) {d : CV} {u : V} (rd : RepV K sc ρ H d u) : ∀ {kvs : List (κ × CV)} {vs : List (κ' × V)}, RepKs K sc ρ H f kvs vs → RepKs K sc ρ H f (kvs.map fun kv => if kv.1 = k then (kv.1, d) else kv) (vs.map fun kv => if kv.1 = f k then (kv.1, u) else kv)
  | [], vs, e => by
    have e : vs = [] := e
    subst e; rfl
  | (j, c) :: r, vs, e => by
    obtain ⟨v, vs', rfl, rv, rr⟩ := e
    rw [List.map_cons, List.map_cons]
    by_cases q : j = k
    · subst q
      rw [if_pos rfl, if_pos rfl]
      exact ⟨u, _, rfl, rd, rep_mapK _ rd rr⟩
    · rw [if_neg q, if_neg (fun z => q (inj _ _ z))]
      exact ⟨v, _, rfl, rv, rep_mapK _ rd rr⟩
theorem rep_snocK (k : κ) {d : CV} {u : V} (rd : RepV K sc ρ H d u) : ∀ {kvs : List (κ × CV)} {vs : List (κ' × V)}, RepKs K sc ρ H f kvs vs → RepKs K sc ρ H f (kvs ++ [(k, d)]) (vs ++ [(f k, u)])
  | [], vs, e => by
    have e : vs = [] := e
    subst e
    exact ⟨u, [], rfl, rd, rfl⟩
  | (j, c) :: r, vs, e => by
    obtain ⟨v, vs', rfl, rv, rr⟩ := e
    exact ⟨v, vs' ++ [(f k, u)], rfl, rv, rep_snocK k rd rr⟩
include inj in
theorem rep_putK (k : κ) {d : CV} {u : V} (rd : RepV K sc ρ H d u) {kvs : List (κ × CV)} {vs : List (κ' × V)} (r : RepKs K sc ρ H f kvs vs) : RepKs K sc ρ H f (putD kvs k d) (putK vs (f k) u) := by
  unfold putD putK
  rw [rep_any inj k r]
  split
  · exact rep_mapK inj k rd r
  · exact rep_snocK k rd r
end
theorem key_rep {c : CV} {v : V} {k : CK} (r : RepV K sc ρ H c v) (e : keyOf c = some k) : v = kV (keyC k) := by
  cases c <;> simp [keyOf] at e
  · subst e; exact r
  · subst e; exact r.1
theorem keys_rep : ∀ {cs : List CV} {vs : List V} {ks : List CK}, RepVs K sc ρ H cs vs → keysOf cs = some ks → vs = (ks.map keyC).map kV
  | [], vs, ks, r, e => by
    have r : vs = [] := r
    simp [keysOf] at e
    subst r e; rfl
  | c :: cs, vs, ks, r, e => by
    obtain ⟨v, vs', rfl, h1, h2⟩ := r
    unfold keysOf at e
    cases q : keyOf c with
    | none => rw [q] at e; exact nomatch e
    | some k =>
      cases q2 : keysOf cs with
      | none => rw [q, q2] at e; exact nomatch e
      | some ks' =>
        rw [q, q2] at e
        cases e
        rw [key_rep h1 q, keys_rep h2 q2]; rfl
theorem dget_at (R : Rel K B ρ H h) {d y : CV} {x w : V} (rd : RepV K B.sc ρ H d x) (ry : RepV K B.sc ρ H y w) {o : Option CV} (e : dGet d y h = some o) : ∃ a r, x = .ref a ∧ DGet H a w r ∧ (∀ c, o = some c → ∃ v, r = some v ∧ RepV K B.sc ρ H c v) ∧ (o = none → r = none) := by
  cases d with
  | ref n =>
    cases q : h.os[n]? with
    | none => simp [dGet, q] at e
    | some u =>
      obtain ⟨a, z, e1, e2, ro⟩ := R.obj _ _ q
      obtain ⟨b, eb, ex⟩ := rd
      rw [e1] at eb
      cases eb
      cases u with
      | dK kvs =>
        obtain ⟨vs, rfl, rk⟩ := ro
        cases qk : keyOf y with
        | none => simp [dGet, q, qk] at e
        | some k =>
          simp [dGet, q, qk] at e
          have ew := key_rep ry qk
          subst ew e
          have rv := rep_val (fun _ _ => keyC_inj) k rk
          exact ⟨a, _, ex, DGet.k e2, rv.1, rv.2⟩
      | fz kvs =>
        obtain ⟨od, vs, rfl, rk⟩ := ro
        cases qk : keyOf y with
        | none => simp [dGet, q, qk] at e
        | some k =>
          simp [dGet, q, qk] at e
          have ew := key_rep ry qk
          subst ew e
          have rv := rep_val (fun _ _ => keyC_inj) k rk
          exact ⟨a, _, ex, .inl ⟨vs, keyC k, .inr ⟨od, e2⟩, rfl, rfl⟩, rv.1, rv.2⟩
      | dT kvs =>
        obtain ⟨vs, rfl, rk⟩ := ro
        cases y with
        | tup xs =>
          cases qk : keysOf xs with
          | none => simp [dGet, q, qk] at e
          | some ks =>
            simp [dGet, q, qk] at e
            obtain ⟨b, ws, eb, eH, rs⟩ := ry
            have ew := keys_rep rs qk
            subst ew e eb
            have rv := rep_val (f := fun l : List CK => l.map keyC) (fun _ _ => keysC_inj) ks rk
            exact ⟨a, _, ex, DGet.t e2 eH, rv.1, rv.2⟩
        | _ => simp [dGet, q] at e
      | _ => simp [dGet, q] at e
  | _ => simp [dGet] at e
theorem isD_rep (R : Rel K B ρ H h) {d : CV} {x : V} (rd : RepV K B.sc ρ H d x) (e : isD d h = true) : ∃ a, x = .ref a ∧ IsD H a := by
  cases d with
  | ref n =>
    cases q : h.os[n]? with
    | none => simp [isD, q] at e
    | some u =>
      obtain ⟨a, z, e1, e2, ro⟩ := R.obj _ _ q
      obtain ⟨b, eb, ex⟩ := rd
      rw [e1] at eb
      cases eb
      cases u with
      | dK kvs =>
        obtain ⟨vs, rfl, rk⟩ := ro
        exact ⟨a, ex, .inl ⟨vs, .of e2⟩⟩
      | dT kvs =>
        obtain ⟨vs, rfl, rk⟩ := ro
        exact ⟨a, ex, .inr ⟨vs, .of e2⟩⟩
      | fz kvs =>
        obtain ⟨od, vs, rfl, rk⟩ := ro
        exact ⟨a, ex, .inl ⟨vs, .inr ⟨od, e2⟩⟩⟩
      | _ => simp [isD, q] at e
  | _ => simp [isD] at e
theorem dput_at (R : Rel K B ρ H h) {d y c : CV} {x w u : V} (rd : RepV K B.sc ρ H d x) (ry : RepV K B.sc ρ H y w) (rc : RepV K B.sc ρ H c u) {h4 : CH} (e : dPut d y c h = some h4) : ∃ a H4, x = .ref a ∧ DPut H a w u H4 ∧ Per K H H4 ∧ Rel K B ρ H4 h4 := by
  cases d with
  | ref n =>
    cases q : h.os[n]? with
    | none => simp [dPut, q] at e
    | some z =>
      obtain ⟨a, z, e1, e2, ro⟩ := R.obj _ _ q
      obtain ⟨b, eb, ex⟩ := rd
      rw [e1] at eb
      cases eb
      rename_i zz
      cases zz with
      | dK kvs =>
        obtain ⟨vs, rfl, rk⟩ := ro
        cases qk : keyOf y with
        | none => simp [dPut, q, qk] at e
        | some k =>
          simp [dPut, q, qk] at e
          obtain ⟨l, e⟩ := e
          have ew := key_rep ry qk
          subst ew e
          have mu : Mut (H a) := by rw [e2]; trivial
          have lv : vs.length < sizeLine := by rw [repKs_len rk, ← line_eq]; exact l
          refine ⟨a, _, ex, DPut.k e2 lv, .write mu, R.set e1 mu ⟨_, rfl, ?_⟩⟩
          exact (rep_putK (fun _ _ => keyC_inj) k rc rk).per (List.prefix_refl _) (.write mu)
      | dT kvs =>
        obtain ⟨vs, rfl, rk⟩ := ro
        cases y with
        | tup xs =>
          cases qk : keysOf xs with
          | none => simp [dPut, q, qk] at e
          | some ks =>
            simp [dPut, q, qk] at e
            obtain ⟨l, e⟩ := e
            obtain ⟨b, ws, eb, eH, rs⟩ := ry
            have ew := keys_rep rs qk
            subst ew e eb
            have mu : Mut (H a) := by rw [e2]; trivial
            have lv : vs.length < sizeLine := by rw [repKs_len rk, ← line_eq]; exact l
            refine ⟨a, _, ex, DPut.t e2 eH lv, .write mu, R.set e1 mu ⟨_, rfl, ?_⟩⟩
            exact (rep_putK (f := fun l : List CK => l.map keyC) (fun _ _ => keysC_inj) ks rc rk).per (List.prefix_refl _) (.write mu)
        | _ => simp [dPut, q] at e
      | _ => simp [dPut, q] at e
  | _ => simp [dPut] at e
end
section
variable {X : Cx} {B : Bs} {W : WX} {a b d e o v : Expr} {f : Str} {pos pos' tpos apos : Pos} {mo mv ma mb md mz : ME CV} {k : Nat}
theorem un1 (hr : Room k X.A) : X.A.units + 1 < cLine := by have := hr.un; omega
theorem se_newK : SE X B W (.Dict [] [] pos) (eNewD (.dK [])) := PE.imp pe_dnewK fun σ H Q h => by
  obtain ⟨ρ, h0, s, R, S, q⟩ := h
  exact fun p hp => Post.alloc (o := .dK []) R hp ⟨[], rfl, rfl⟩ q
theorem se_newT : SE X B W (.Dict [] [] pos) (eNewD (.dT [])) := PE.imp pe_dnewT fun σ H Q h => by
  obtain ⟨ρ, h0, s, R, S, q⟩ := h
  exact fun p hp => Post.alloc (o := .dT []) R hp ⟨[], rfl, rfl⟩ q
theorem tX_two {g : CV → CV → CH → Res CV} {σ : L2.St} {H : Hp} {Q : VK} {R2 : V → V → Hp → Prop} (h : tX X.K B (rV X.K B) W (e2 g ma mb) σ H Q)
    (k : ∀ ρ h x y u v H2, Rel X.K B ρ H2 h → RepV X.K B.sc ρ H2 x u → RepV X.K B.sc ρ H2 y v → Post X.K B (rV X.K B) (fun c d H' => W c d σ H') (g x y h) ρ H2 Q → R2 u v H2) :
    tX X.K B (rV X.K B) W ma σ H fun u H1 => tX X.K B (rV X.K B) W mb σ H1 fun v H2 => R2 u v H2 := by
  refine tX_bind (rep := rV X.K B) (f := fun s x h1 => (mb s h1).bind fun y h2 => g x y h2) h fun ρ1 h1 s x u H1 R1 S1 r1 p1 => ?_
  refine ⟨ρ1, h1, s, R1, S1, Post.imp (fun v H2 hh => ?_) (Post.bind (rep := rV X.K B) p1)⟩
  obtain ⟨y, h2, ρ2, M, p2⟩ := hh
  exact k ρ2 h2 x y u v H2 M.rel (RepV.per M.pre M.per _ _ r1) M.rp p2
theorem se_dget (hr : Room k X.A) (ho : SE X B W o mo) (hi : SE X B W e mb) (hs : NoSl e := by exact fun _ _ => rfl) : SE X B W (.Subscript o e pos) (e2 dixV mo mb) := PE.imp (pe_dget (un1 hr) ho hi hs) fun σ H Q h => by
  refine tX_two h fun ρ h x y u v H2 R r1 r2 p => ?_
  unfold dixV at p
  cases q : dGet x y h with
  | none => rw [q] at p; exact p.elim
  | some r =>
    cases r with
    | none => rw [q] at p; exact p.elim
    | some c =>
      rw [q] at p
      obtain ⟨ad, r, ex, g, g1, _⟩ := dget_at R r1 r2 q
      obtain ⟨w, er, rw_⟩ := g1 c rfl
      subst er
      exact ⟨ad, w, ex, g, p.ok R rw_⟩
theorem tX_din {σ : L2.St} {H : Hp} {Q : VK} (h : tX X.K B (rV X.K B) W (e2 dinV ma md) σ H Q) : tDIn (tX X.K B (rV X.K B) W ma) (tX X.K B (rV X.K B) W md) σ H Q := by
  refine tX_two h fun ρ h y x v u H2 R r1 r2 p => ?_
  unfold dinV at p
  cases q : dGet x y h with
  | none => rw [q] at p; exact p.elim
  | some r =>
    rw [q] at p
    obtain ⟨ad, z, ex, g, g1, g2⟩ := dget_at R r2 r1 q
    refine ⟨ad, z, ex, g, ?_⟩
    have ez : z.isSome = r.isSome := by
      cases r with
      | none => rw [g2 rfl]; rfl
      | some c =>
        obtain ⟨w, er, _⟩ := g1 c rfl
        rw [er]; rfl
    rw [ez]
    exact p.ok R rfl
theorem tX_dnin {σ : L2.St} {H : Hp} {Q : VK} (h : tX X.K B (rV X.K B) W (e2 dninV ma md) σ H Q) : tDNotIn (tX X.K B (rV X.K B) W ma) (tX X.K B (rV X.K B) W md) σ H Q := by
  refine tX_two h fun ρ h y x v u H2 R r1 r2 p => ?_
  unfold dninV at p
  cases q : dGet x y h with
  | none => rw [q] at p; exact p.elim
  | some r =>
    rw [q] at p
    obtain ⟨ad, z, ex, g, g1, g2⟩ := dget_at R r2 r1 q
    refine ⟨ad, z, ex, g, ?_⟩
    have ez : z.isSome = r.isSome := by
      cases r with
      | none => rw [g2 rfl]; rfl
      | some c =>
        obtain ⟨w, er, _⟩ := g1 c rfl
        rw [er]; rfl
    rw [ez]
    exact p.ok R rfl
theorem se_din (hr : Room k X.A) (hi : SE X B W e mb) (ho : SE X B W o mo) (hm : behindInMarks .In o = false := by rfl) : SE X B W (.Compare e [.In] [o] pos) (e2 dinV mb mo) := PE.imp (pe_cmp (pc_din (un1 hr) hi ho) hm) fun σ H Q h => tX_din h
theorem se_dnin (hr : Room k X.A) (hi : SE X B W e mb) (ho : SE X B W o mo) (hm : behindInMarks .NotIn o = false := by rfl) : SE X B W (.Compare e [.NotIn] [o] pos) (e2 dninV mb mo) := PE.imp (pe_cmp (pc_dnotin (un1 hr) hi ho) hm) fun σ H Q h => tX_dnin h
theorem st_din (hr : Room k X.A) (hi : SE X B W e mb) (ho : SE X B W o mo) (hm : behindInMarks .In o = false := by rfl) : ST X B W (.Compare e [.In] [o] pos) (tV (e2 dinV mb mo)) := PT.imp (pt_cmp (pc_din (un1 hr) hi ho) hm) fun σ H Q h => tX_din (tX_tV h)
theorem st_dnin (hr : Room k X.A) (hi : SE X B W e mb) (ho : SE X B W o mo) (hm : behindInMarks .NotIn o = false := by rfl) : ST X B W (.Compare e [.NotIn] [o] pos) (tV (e2 dninV mb mo)) := PT.imp (pt_cmp (pc_dnotin (un1 hr) hi ho) hm) fun σ H Q h => tX_dnin (tX_tV h)
theorem ss_dput (hr : Room k X.A) (hv : SE X B W v mv) (ho : SE X B W o mo) (hi : SE X B W e mb) (hs : swapsWith v (some (.Subscript o e pos')) pos.line X.env = pure false := by rfl) : SS X B W (.Assign [.Subscript o e pos'] v pos) (sDPut mv mo mb) :=
  PS.imp (ps_dput (un1 hr) ho hi hv hs) fun D σ H h => by
  refine tS_bind (rep := rV X.K B) (f := fun s u h1 => rBind (mo s h1) s fun x h2 => rBind (mb s h2) s fun k h3 => match dPut x k u h3 with
    | some h4 => .nx s h4
    | none => .bad) h fun ρ1 h1 s c u H1 R S r p => ?_
  refine ⟨ρ1, h1, s, R, S, Post.imp (fun vx H2 hh => ?_) (SOk.bind (rV X.K B) S p)⟩
  obtain ⟨x, h2, ρ2, M2, p2⟩ := hh
  refine ⟨ρ2, h2, s, M2.rel, S.per M2.pre M2.per, Post.imp (fun vy H3 hh => ?_) (SOk.bind (rV X.K B) (S.per M2.pre M2.per) p2)⟩
  obtain ⟨y, h3, ρ3, M3, p3⟩ := hh
  cases q : dPut x y c h3 with
  | none => simp only [q] at p3; exact p3.elim
  | some h4 =>
    simp only [q] at p3
    obtain ⟨ad, H4, ex, g, pr, R4⟩ := dput_at M3.rel (RepV.per M3.pre M3.per _ _ M2.rp) M3.rp (RepV.per (M2.pre.trans M3.pre) (M2.per.trans M3.per) _ _ r) q
    exact ⟨ad, H4, ex, g, p3 ρ3 H4 σ (List.prefix_refl _) pr R4 (((S.per M2.pre M2.per).per M3.pre M3.per).per (List.prefix_refl _) pr)⟩
theorem se_dget1 (hr : Room k X.A) (ho : SE X B W o mo) (he : SE X B W e mb) (m1 : attributeBase o "get" X.env (eval o X.env) = eval o X.env := by rfl) (m2 : ((backTo pos (starEach [e] X.env)).all (fun x => !x.1) && (backToKw pos (keywordEach [] X.env)).all (fun x => x.1.isSome)
      && decide (([e] : List Expr).length + ([] : List Keyword).length + (if ([] : List Keyword).isEmpty then 0 else 1) < 30)) = true := by rfl) (m3 : (apos.endLine == pos.line) = true := by rfl) (m4 : backTo pos (starEach [e] X.env) = [(false, eval e X.env)] := by rfl) :
    SE X B W (.Call (.Attribute o "get" apos) [e] [] pos) (eDGet1 mo mb) := PE.imp (pe_dget1 (un1 hr) ho he ⟨m1, m2, m3, m4⟩) fun σ H Q h => by
  refine tX_bind (rep := rV X.K B) (f := fun s x h1 => if isD x h1 then (mb s h1).bind fun k h2 => (match dGet x k h2 with
    | some o => .ok (o.getD .non) h2
    | none => .bad) else .bad) h fun ρ1 h1 s x u H1 R1 S1 r1 p1 => ?_
  by_cases hd : isD x h1 = true
  · simp only [hd, if_true] at p1
    obtain ⟨ad, ex, ed⟩ := isD_rep R1 r1 hd
    refine ⟨ad, ex, ed, ρ1, h1, s, R1, S1, Post.imp (fun w H2 hh => ?_) (Post.bind (rep := rV X.K B) p1)⟩
    obtain ⟨y, h2, ρ2, M, p2⟩ := hh
    cases q : dGet x y h2 with
    | none => simp only [q] at p2; exact p2.elim
    | some r =>
      simp only [q] at p2
      obtain ⟨ad2, z, ex2, g, g1, g2⟩ := dget_at M.rel (RepV.per M.pre M.per _ _ r1) M.rp q
      rw [ex] at ex2
      cases ex2
      refine ⟨z, g, ?_⟩
      cases r with
      | none => rw [g2 rfl]; exact p2.ok M.rel rfl
      | some c =>
        obtain ⟨w2, er, rw_⟩ := g1 c rfl
        rw [er]
        exact p2.ok M.rel rw_
  · rw [if_neg hd] at p1; exact p1.elim
theorem se_dget2 (hr : Room k X.A) (ho : SE X B W o mo) (he : SE X B W e mb) (hz : SE X B W a mz) (m1 : attributeBase o "get" X.env (eval o X.env) = eval o X.env := by rfl) (m2 : ((backTo pos (starEach [e, a] X.env)).all (fun x => !x.1) && (backToKw pos (keywordEach [] X.env)).all (fun x => x.1.isSome)
      && decide (([e, a] : List Expr).length + ([] : List Keyword).length + (if ([] : List Keyword).isEmpty then 0 else 1) < 30)) = true := by rfl) (m3 : (apos.endLine == pos.line) = true := by rfl) (m4 : backTo pos (starEach [e, a] X.env) = [(false, eval e X.env), (false, eval a X.env)] := by rfl) :
    SE X B W (.Call (.Attribute o "get" apos) [e, a] [] pos) (eDGet2 mo mb mz) := PE.imp (pe_dget2 (un1 hr) ho he hz ⟨m1, m2, m3, m4⟩) fun σ H Q h => by
  refine tX_bind (rep := rV X.K B) (f := fun s x h1 => if isD x h1 then (mb s h1).bind fun k h2 => (mz s h2).bind fun w h3 => (match dGet x k h3 with
    | some o => .ok (o.getD w) h3
    | none => .bad) else .bad) h fun ρ1 h1 s x u H1 R1 S1 r1 p1 => ?_
  by_cases hd : isD x h1 = true
  · simp only [hd, if_true] at p1
    obtain ⟨ad, ex, ed⟩ := isD_rep R1 r1 hd
    refine ⟨ad, ex, ed, ρ1, h1, s, R1, S1, Post.imp (fun w H2 hh => ?_) (Post.bind (rep := rV X.K B) p1)⟩
    obtain ⟨y, h2, ρ2, M, p2⟩ := hh
    refine ⟨ρ2, h2, s, M.rel, S1.per M.pre M.per, Post.imp (fun w3 H3 hh => ?_) (Post.bind (rep := rV X.K B) p2)⟩
    obtain ⟨z3, h3, ρ3, M3, p3⟩ := hh
    cases q : dGet x y h3 with
    | none => simp only [q] at p3; exact p3.elim
    | some r =>
      simp only [q] at p3
      obtain ⟨ad2, z, ex2, g, g1, g2⟩ := dget_at M3.rel (RepV.per (M.pre.trans M3.pre) (M.per.trans M3.per) _ _ r1) (RepV.per M3.pre M3.per _ _ M.rp) q
      rw [ex] at ex2
      cases ex2
      refine ⟨z, g, ?_⟩
      cases r with
      | none => rw [g2 rfl]; exact p3.ok M3.rel M3.rp
      | some c =>
        obtain ⟨w2, er, rw_⟩ := g1 c rfl
        rw [er]
        exact p3.ok M3.rel rw_
  · rw [if_neg hd] at p1; exact p1.elim
end
end Cn
set_option Elab.async false
set_option linter.all false
set_option maxRecDepth 100000
set_option maxHeartbeats 4000000
namespace Cn
open PySem PySem.Spec PyProof.Rows L2
def okKw (al : List Str) : List Str → List Str → Bool
  | _, [] => true
  | seen, k :: r => al.contains k && (!seen.contains k && okKw al (seen ++ [k]) r)
def lackKw : List Str → List Str → List Str
  | _, [] => []
  | seen, n :: r => if seen.contains n then lackKw seen r else n :: lackKw (seen ++ [n]) r
theorem look_names (k : Str) : ∀ l : List (Str × Value), (l.lookup k).isSome = (l.map (·.1)).contains k
  | [] => rfl
  | (a, v) :: r => by
    rw [List.lookup_cons, List.map_cons, List.contains_cons]
    cases q : (k == a) with
    | true => rfl
    | false => rw [Bool.false_or]; exact look_names k r
theorem zip_names : ∀ (ks : List Str) (ws : List Value), ws.length = ks.length → (ks.zip ws).map (·.1) = ks
  | [], [], _ => rfl
  | k :: ks, w :: ws, h => by
    rw [List.zip_cons_cons, List.map_cons, zip_names ks ws (by simpa using h)]
theorem kw_loop {al : List Str} {f : Str × Value → List (Str × Value) × List (Str × Value) → Sem (ForInStep (List (Str × Value) × List (Str × Value)))}
    (hf : ∀ k v s, al.contains k = true → (s.lookup k).isSome = false → f (k, v) (s, []) = pure (.yield (s ++ [(k, v)], []))) :
    ∀ (l : List (Str × Value)) (s : List (Str × Value)), okKw al (s.map (·.1)) (l.map (·.1)) = true → forIn l (s, []) f = (pure (s ++ l, []) : Sem _)
  | [], s, _ => by rw [List.forIn_nil, List.append_nil]
  | (k, v) :: l, s, h => by
    have h : (al.contains k && (!(s.map (·.1)).contains k && okKw al (s.map (·.1) ++ [k]) (l.map (·.1)))) = true := h
    simp only [Bool.and_eq_true, Bool.not_eq_true'] at h
    rw [List.forIn_cons, hf k v s h.1 (by rw [look_names]; exact h.2.1), pure_bind]
    have := kw_loop hf l (s ++ [(k, v)]) (by rw [List.map_append]; exact h.2.2)
    rw [List.append_assoc] at this
    exact this
theorem kwo_loop {M : Model} {h : Heap} {K : PySem.W.Frag} {D : Addr} (X : K.In h) {f : Str → List (Str × Value) × List Str → Sem (ForInStep (List (Str × Value) × List Str))}
    (hs : ∀ n s, (s.lookup n).isSome = true → f n (s, []) = pure (.yield (s, [])))
    (hn : ∀ n s v, (s.lookup n).isSome = false → PySem.W.nsIn K D n = some (some v) → PySem.W.Looks M h (f n (s, [])) (.yield (s ++ [(n, v)], []))) :
    ∀ (kn : List Str) (s q : List (Str × Value)), lackKw (s.map (·.1)) kn = q.map (·.1) → (∀ p ∈ q, PySem.W.nsIn K D p.1 = some (some p.2)) → PySem.W.Looks M h (forIn kn (s, []) f) (s ++ q, [])
  | [], s, q, e, _ => by
    have : q = [] := by
      cases q with
      | nil => rfl
      | cons => exact nomatch e
    subst this
    rw [List.forIn_nil, List.append_nil]
    exact PySem.W.Looks.of_pure rfl
  | n :: kn, s, q, e, hq => by
    unfold lackKw at e
    rw [List.forIn_cons]
    by_cases c : (s.map (·.1)).contains n = true
    · rw [if_pos c] at e
      rw [hs n s (by rw [look_names]; exact c), pure_bind]
      exact kwo_loop X hs hn kn s q e hq
    · rw [if_neg c] at e
      cases q with
      | nil => exact nomatch e
      | cons p q =>
        rw [List.map_cons] at e
        injection e with e1 e2
        subst e1
        refine (hn p.1 s p.2 (by rw [look_names]; simpa using c) (hq p (List.mem_cons_self ..))).andThen ?_
        have := kwo_loop X hs hn kn (s ++ [p]) q (by rw [List.map_append]; exact e2) (fun z hz => hq z (List.mem_cons_of_mem _ hz))
        rw [List.append_assoc] at this
        exact this
theorem bind_kwo {M : Model} {h : Heap} {K : PySem.W.Frag} {x qual : Str} {params : Arguments} {body : List Stmt} {scope : Scope} {D : Addr} {doc pm : Value} {an : Option Addr} {cdv ct : Value} {us ws : List Value} {ks : List Str} {q : List (Str × Value)} (X : K.In h)
    (h0 : params.posonlyargs = []) (h1 : params.vararg = none) (h2 : params.kwarg = none) (l1 : us.length = params.args.length) (l2 : ws.length = ks.length)
    (c1 : okKw (params.args.map (·.arg) ++ params.kwonlyargs.map (·.arg)) (params.args.map (·.arg)) ks = true)
    (c2 : lackKw (params.args.map (·.arg) ++ ks) (params.kwonlyargs.map (·.arg)) = q.map (·.1)) (hq : ∀ p ∈ q, PySem.W.nsIn K D p.1 = some (some p.2)) {r : List (Str × Value)}
    (er : ((params.args.map (·.arg) ++ params.kwonlyargs.map (·.arg)).filterMap fun n => (((params.args.map (·.arg)).zip us ++ ks.zip ws ++ q).lookup n).map (n, ·)) = r) :
    PySem.W.Looks M h (bindArgs (PySem.W.fnOf x qual params body scope .none (.ref D) doc pm an cdv ct) ⟨us, ks.zip ws⟩) r := by
  have np : ((params.args.map (·.arg)).zip us).map (·.1) = params.args.map (·.arg) := zip_names _ _ (by rw [List.length_map]; exact l1)
  have nk : (ks.zip ws).map (·.1) = ks := zip_names _ _ l2
  unfold bindArgs
  simp only [PySem.W.fnOf, h0, h1, h2, List.map_nil, List.nil_append]
  rw [kw_loop (al := params.args.map (·.arg) ++ params.kwonlyargs.map (·.arg)) (fun k v s a b => by
    have a : ((params.args.map (·.arg)).contains k || (params.kwonlyargs.map (·.arg)).contains k) = true := by
      simpa using a
    simp only [a, b, if_true, Bool.false_eq_true, if_false]) (ks.zip ws) ((params.args.map (·.arg)).zip us) (by rw [np, nk]; exact c1)]
  rw [pure_bind]
  have e1 : seqItems? Value.none = pure none := rfl
  rw [e1, pure_bind]
  have ln : (params.args.map (·.arg)).length = us.length := by rw [List.length_map, l1]
  have e2 : (decide (us.length > (params.args.map (·.arg)).length) && (none : Option Arg).isNone) = false := by
    rw [ln]; simp
  simp only [e2, Bool.false_eq_true, if_false, Option.getD_none, List.drop_nil, List.length_nil, Nat.sub_zero, List.zip_nil_right, List.forIn_nil, pure_bind]
  have e3 : (!((((params.args.map (·.arg)).take (params.args.map (·.arg)).length).filter fun n => (((params.args.map (·.arg)).zip us ++ ks.zip ws).lookup n).isNone)).isEmpty) = false := by
    rw [List.take_length]
    have : ((params.args.map (·.arg)).filter fun n => (((params.args.map (·.arg)).zip us ++ ks.zip ws).lookup n).isNone) = [] := by
      rw [List.filter_eq_nil_iff]
      intro n hn
      have : (((params.args.map (·.arg)).zip us ++ ks.zip ws).lookup n).isSome = true := by
        rw [look_names, List.map_append, np]
        simp only [List.contains_eq_mem, List.mem_append, decide_eq_true_eq]
        exact .inl hn
      rw [Option.isSome_iff_ne_none] at this
      rw [Option.isNone_iff_eq_none]
      exact this
    rw [this]; rfl
  rw [e3]
  simp only [Bool.false_eq_true, if_false]
  refine (kwo_loop (q := q) X (fun n s a => ?_) (fun n s v a b => ?_) (params.kwonlyargs.map (·.arg)) ((params.args.map (·.arg)).zip us ++ ks.zip ws) (by rw [List.map_append, np, nk]; exact c2) hq).andThen ?_
  · have a : (s.lookup n).isNone = false := by
      rw [Option.isSome_iff_ne_none] at a
      cases z : s.lookup n with
      | none => exact absurd z a
      | some => rfl
    simp only [a, Bool.false_eq_true, if_false]
  · have a : (s.lookup n).isNone = true := by
      cases z : s.lookup n with
      | none => rfl
      | some => rw [z] at a; exact nomatch a
    simp only [a, if_true]
    exact (PySem.W.looks_nsIn X b).andThen (PySem.W.Looks.of_pure rfl)
  · simp only [List.isEmpty_nil, Bool.not_true, Bool.false_eq_true, if_false]
    rw [er]
    exact PySem.W.Looks.of_pure rfl
section
variable {K : PySem.W.Frag} {x qual : Str} {params : Arguments} {body : List Stmt} {scope : Scope} {kws : List (Str × V)} {f : Addr} {fd : FuncData} {ps : List Str}
theorem KB.kwo2 (F : FunD K x qual params body scope [] kws f fd) (n : Nat) (ks : List Str) (ms : List (Str × CD1)) (pos : List Nat) (hk : kws ≠ []) (hms : ∀ q ∈ ms, (q.1, q.2.v) ∈ kws)
    (h0 : params.posonlyargs = []) (h1 : params.vararg = none) (h2 : params.kwarg = none) (hn : n = params.args.length)
    (c1 : okKw (params.args.map (·.arg) ++ params.kwonlyargs.map (·.arg)) (params.args.map (·.arg)) ks = true)
    (c2 : lackKw (params.args.map (·.arg) ++ ks) (params.kwonlyargs.map (·.arg)) = ms.map (·.1))
    (h : ∀ (us mv ws : List Value), us.length = n → mv.length = ms.length → ws.length = ks.length →
      ((params.args.map (·.arg) ++ params.kwonlyargs.map (·.arg)).filterMap fun n => (((params.args.map (·.arg)).zip us ++ ks.zip ws ++ (ms.map (·.1)).zip mv).lookup n).map (n, ·)) = ps.zip (gsel pos us mv ws)) :
    KB K fd ps n ks fun l => gsel pos (l.take n) (ms.map (·.2.c)) (l.drop n) := by
  have e2 : (ms.map fun q => (q.1, q.2.v)).map (·.2) = (ms.map (·.2)).map CD1.v := by rw [List.map_map, List.map_map]; rfl
  have e3 : ms.map (·.2.c) = (ms.map (·.2)).map CD1.c := by rw [List.map_map]; rfl
  have e1 : (ms.map fun q => (q.1, q.2.v)).map (·.1) = ms.map (·.1) := by rw [List.map_map]; rfl
  obtain ⟨oc, od, dV, kV, doc, pm, an, cdv, ct, osl, rfl, lk, hcd, hD, hK⟩ := F.ex
  rcases hD with ⟨_, rfl⟩ | ⟨e, _⟩
  · rcases hK with e | ⟨D, rfl, hq⟩
    · exact absurd e hk
    · obtain ⟨mv, hl, rk, hks⟩ := kwd_vals (K := K) (D := D) (ms := ms.map fun q => (q.1, q.2.v)) fun q hm => by
        obtain ⟨p, hp, e⟩ := List.mem_map.mp hm
        rw [← e]
        exact hq _ (hms p hp)
      rw [List.length_map] at hl
      rw [e1] at hks
      rw [e2] at rk
      refine ⟨fun us ws => gsel pos us mv ws, fun vs zs => gsel pos vs ((ms.map (·.2)).map CD1.v) zs, ⟨fun s us ws X l1 l2 => ?_, fun r1 r2 => vals_sel pos r1 rk r2⟩, fun sc ρ H cs zs vs ws r1 r2 l1 l2 => ?_⟩
      · refine BindsTo.of_looks fun M => bind_kwo (q := (ms.map (·.1)).zip mv) X h0 h1 h2 (by rw [l1, hn]) l2 c1 ?_ hks (h us mv ws l1 hl l2)
        rw [zip_names _ _ (by rw [List.length_map]; exact hl)]
        exact c2
      · show RepVs K sc ρ H (gsel pos ((cs ++ zs).take n) (ms.map (·.2.c)) ((cs ++ zs).drop n)) _
        subst l1
        rw [List.take_left' rfl, List.drop_left' rfl, e3]
        exact reps_sel pos sc ρ H _ _ _ _ _ _ r1 (rep_cds _) r2
  · exact absurd rfl e
end
end Cn
set_option Elab.async false
set_option linter.all false
set_option maxRecDepth 100000
set_option maxHeartbeats 4000000
namespace Cn
open PySem PySem.Spec PyProof.Rows L2
section
variable {X : Cx} {B : Bs} {W : WX} {st : Stmt} {sts : List Stmt} {a b c e : Expr} {ma mb mc : ME CV} {pos : Pos}
theorem ss_never : SS X B W st sNever := PS.imp ps_never fun D σ H h => by
  obtain ⟨ρ, h, s, R, S, k⟩ := h
  exact k
theorem sss_never : SSs X B W sts sNever := PSs.imp pss_never fun D σ H h => by
  obtain ⟨ρ, h, s, R, S, k⟩ := h
  exact k
theorem ss_raiseN {k l : Nat} : SS X B W st (sRaise k l ma) := PS.imp ps_never fun D σ H h => by
  obtain ⟨ρ, h, s, R, S, k⟩ := h
  exact k
end
def litV : CV → Option V
  | .non => some .non
  | .bl b => some (.bl b)
  | .int i => some (.int i)
  | .str s => if s.all (fun c => decide (c < 1114112)) then some (.str ⟨s.toArray⟩) else none
  | _ => none
def litVs : List CV → Option (List V)
  | [] => some []
  | c :: cs => match litV c, litVs cs with
    | some v, some vs => some (v :: vs)
    | _, _ => none
theorem litV_rep {K : PySem.W.Frag} {sc : List Int} {ρ : List Addr} {H : Hp} {c : CV} {v : V} (e : litV c = some v) : RepV K sc ρ H c v := by
  cases c with
  | non => cases e; rfl
  | bl b => cases e; rfl
  | int i => cases e; rfl
  | str s =>
    have e : (if s.all (fun c => decide (c < 1114112)) then some (V.str ⟨s.toArray⟩) else none) = some v := e
    split at e
    · next p =>
      cases e
      refine ⟨rfl, fun c hc => ?_⟩
      have := List.all_eq_true.mp p c hc
      exact of_decide_eq_true this
    · cases e
  | _ => cases e
theorem litVs_rep {K : PySem.W.Frag} {sc : List Int} {ρ : List Addr} {H : Hp} : ∀ {cs : List CV} {vs : List V}, litVs cs = some vs → RepVs K sc ρ H cs vs
  | [], vs, e => by cases e; rfl
  | c :: cs, vs, e => by
    unfold litVs at e
    cases e1 : litV c with
    | none => rw [e1] at e; cases e
    | some v =>
      rw [e1] at e
      cases e2 : litVs cs with
      | none => rw [e2] at e; cases e
      | some ws =>
        rw [e2] at e
        cases e
        exact ⟨v, ws, rfl, litV_rep e1, litVs_rep e2⟩
theorem isLit_rel {v : V} {u : Value} (e : isLit v u = true) : RelV v u := by
  unfold isLit at e
  split at e
  · rfl
  · have := eq_of_beq e; subst this; rfl
  · have := of_decide_eq_true e; subst this; exact ⟨_, rfl⟩
  · have := of_decide_eq_true e; subst this; exact ⟨_, rfl⟩
  · cases e
theorem areLit_rel : ∀ {vs : List V} {us : List Value}, areLit vs us = true → Vals vs us
  | [], [], _ => .nil
  | [], _ :: _, e => by cases e
  | _ :: _, [], e => by cases e
  | v :: vs, u :: us, e => by
    have e := Bool.and_eq_true_iff.mp e
    exact .cons (isLit_rel e.1) (areLit_rel e.2)
theorem tupAt_ok {K : PySem.W.Frag} {a : Addr} {vs : List V} (e : tupAt K a vs = true) (H : Hp) : SqT K H a vs := by
  unfold tupAt at e
  split at e
  · next o eo =>
    split at e
    · next its n ed =>
      have e1 := Bool.and_eq_true_iff.mp e
      have e2 := Bool.and_eq_true_iff.mp e1.1
      have hc : o.cls = .type "tuple" := by
        have := e2.1
        unfold isTy at this
        split at this
        · next m em => rw [em, eq_of_beq this]
        · cases this
      exact .inr ⟨o, its, n, eo, hc, ed, by rw [sizeLine_eq]; have := of_decide_eq_true e2.2; omega, areLit_rel e1.2⟩
    · cases e
  · cases e
theorem Cs.tup {C : Cs} {K : PySem.W.Frag} (c : C.ok K = true) (i : Nat) {n : Str} {vs : List V} (e : C.tups[i]? = some (n, vs)) : He.Fa.ok K (.glo n) = true ∧ tupAt K (He.ga K n) vs = true := by
  have := List.all_eq_true.mp c (n, vs) (List.mem_of_getElem? e)
  exact Bool.and_eq_true_iff.mp this
def hookC (n : Nat) (fa : List He.Fa) (fn : List He.DefD) (C : Cs) : PySem.W.Hook where
  α := He.AlD × Bool
  obs := fun s => (He.obsDG n fa fn s.heap.get?, C.ok (He.frG s.heap.get? (He.asD s.heap.get? n)))
  val := fun _ => (He.valD fn, true)
  says := fun _ h => ∃ K, K.In h ∧ He.SaysD fa fn K ∧ C.ok K = true
  of := fun w s e => by
    have e1 := congrArg Prod.fst e
    have e2 := congrArg Prod.snd e
    exact ⟨_, He.frG_in, e1, e2⟩
  keeps := fun w h h' ⟨K, k1, k2, k3⟩ hk => ⟨K, fun a o e => hk a o (k1 a o e), k2, k3⟩
def obC (n : Nat) (fa : List He.Fa) (fn : List He.DefD) (C : Cs) (g : Addr → Option Obj) : He.AlD × Bool := (He.obsDG n fa fn g, C.ok (He.frG g (He.asD g n)))
theorem obC_eq {n : Nat} {fa : List He.Fa} {fn : List He.DefD} {C : Cs} {g : Addr → Option Obj} {s : Shared} (e : ∀ a, g a = s.heap.get? a) : obC n fa fn C g = (hookC n fa fn C).obs s := by
  have : g = s.heap.get? := funext e
  subst this
  rfl
section
variable {X : Cx} {B : Bs} {W : WX} {a b c e : Expr} {ma mb mc : ME CV} {pos : Pos} {p2 : Pos}
theorem tX_inC {neg : Bool} {xs : List CV} {vs : List V} {p : Addr} {f : CV → CH → Res CV} {K : PySem.W.Frag} {σ : L2.St} {H : Hp} {Q : VK} (hf : f = fun x h => if neg then ninV x (.tup xs) h else Cn.inV x (.tup xs) h) (ht : ∀ H, SqT K H p vs) (rv : ∀ ρ H, RepVs K B.sc ρ H xs vs)
    (h : tX K B (rV K B) W (e1 f ma) σ H Q) : tOp (rInAny K neg) (tX K B (rV K B) W ma) (tC (.ref p)) σ H Q := by
  subst hf
  refine tX_bind (rep := rV K B) (f := fun s x h1 => if neg then ninV x (.tup xs) h1 else Cn.inV x (.tup xs) h1) h fun ρ1 h1 s x v H1 R1 S1 r1 p1 => ?_
  show rInAny K neg v (.ref p) H1 Q
  have key : ∀ k, inB x (.tup xs) h1 = some k → Q (.bl (if neg then !k else k)) H1 → rInAny K neg v (.ref p) H1 Q := by
    intro k e q
    have e2 : (if flatC x && xs.all flatC then some (xs.any fun y => eqF y x) else none) = some k := by
      rw [← e]
      cases x with
      | str z => cases z with
        | nil => rfl
        | cons a z => cases z <;> rfl
      | _ => rfl
    by_cases hf : (flatC x && xs.all flatC) = true
    · rw [if_pos hf] at e2
      cases e2
      obtain ⟨f1, f2⟩ := Bool.and_eq_true_iff.mp hf
      obtain ⟨k1, k2⟩ := any_ok f1 r1 f2 (rv ρ1 H1)
      exact .inr ⟨p, vs, rfl, .inr (ht H1), flat_rep f1 r1, k2, by rw [k1]; exact q⟩
    · rw [if_neg hf] at e2; cases e2
  cases neg with
  | true =>
    simp only [if_true] at p1
    unfold ninV at p1
    cases q : inB x (.tup xs) h1 with
    | none => rw [q] at p1; exact p1.elim
    | some k => rw [q] at p1; exact key k q (p1.ok R1 rfl)
  | false =>
    simp only [Bool.false_eq_true, if_false] at p1
    unfold Cn.inV at p1
    cases q : inB x (.tup xs) h1 with
    | none => rw [q] at p1; exact p1.elim
    | some k => rw [q] at p1; exact key k q (p1.ok R1 rfl)
theorem pe_gref {n : Str} {p : Addr} (hg : Gl X n) (hm : X.mg n = some (.ref p)) (hd : (n == ("__debug__" : Str)) = false := by decide +kernel) : PE X (.Name n p2) (tC (.ref p)) := pe_glob hg hm rfl hd
theorem se_inC {n : Str} {p : Addr} {xs : List CV} {vs : List V} (hg : Gl X n) (hm : X.mg n = some (.ref p)) (ht : ∀ H, SqT X.K H p vs) (rv : litVs xs = some vs) (ha : SE X B W a ma) (hd : (n == ("__debug__" : Str)) = false := by decide +kernel) : SE X B W (.Compare a [.In] [.Name n p2] pos) (e1 (inC xs) ma) :=
  PE.imp (pe_cmpR op_inAny ha (pe_gref hg hm hd) rfl) fun σ H Q h => tX_inC (neg := false) rfl ht (fun _ _ => litVs_rep rv) h
theorem se_ninC {n : Str} {p : Addr} {xs : List CV} {vs : List V} (hg : Gl X n) (hm : X.mg n = some (.ref p)) (ht : ∀ H, SqT X.K H p vs) (rv : litVs xs = some vs) (ha : SE X B W a ma) (hd : (n == ("__debug__" : Str)) = false := by decide +kernel) : SE X B W (.Compare a [.NotIn] [.Name n p2] pos) (e1 (ninC xs) ma) :=
  PE.imp (pe_cmpR op_notInAny ha (pe_gref hg hm hd) rfl) fun σ H Q h => tX_inC (neg := true) rfl ht (fun _ _ => litVs_rep rv) h
theorem st_inC {n : Str} {p : Addr} {xs : List CV} {vs : List V} (hg : Gl X n) (hm : X.mg n = some (.ref p)) (ht : ∀ H, SqT X.K H p vs) (rv : litVs xs = some vs) (ha : SE X B W a ma) (hd : (n == ("__debug__" : Str)) = false := by decide +kernel) : ST X B W (.Compare a [.In] [.Name n p2] pos) (tV (e1 (inC xs) ma)) :=
  PT.imp (pt_cmpR op_inAny ha (pe_gref hg hm hd) rfl) fun σ H Q h => tX_inC (neg := false) (Q := fun x H' => ∃ k, x = .bl k ∧ Q k H') rfl ht (fun _ _ => litVs_rep rv) (tX_tV h)
theorem st_ninC {n : Str} {p : Addr} {xs : List CV} {vs : List V} (hg : Gl X n) (hm : X.mg n = some (.ref p)) (ht : ∀ H, SqT X.K H p vs) (rv : litVs xs = some vs) (ha : SE X B W a ma) (hd : (n == ("__debug__" : Str)) = false := by decide +kernel) : ST X B W (.Compare a [.NotIn] [.Name n p2] pos) (tV (e1 (ninC xs) ma)) :=
  PT.imp (pt_cmpR op_notInAny ha (pe_gref hg hm hd) rfl) fun σ H Q h => tX_inC (neg := true) (Q := fun x H' => ∃ k, x = .bl k ∧ Q k H') rfl ht (fun _ _ => litVs_rep rv) (tX_tV h)
end
end Cn
set_option Elab.async false
set_option linter.all false
set_option maxRecDepth 100000
set_option maxHeartbeats 4000000
namespace Cn
open PySem PySem.Spec PyProof.Rows L2
section
variable {K : PySem.W.Frag} {B : Bs}
theorem sw_eq (a b : List Nat) : Txt.startswith ⟨a.toArray⟩ ⟨b.toArray⟩ = b.isPrefixOf a := by
  have e : Txt.startswith ⟨a.toArray⟩ ⟨b.toArray⟩ = (decide (0 + b.length ≤ a.length) && (a.toArray.extract 0 (0 + b.length) == b.toArray)) := by
    simp [Txt.startswith, Builtin.Str.subAt, PySem.Str.length]
  rw [e, Bool.eq_iff_iff, List.isPrefixOf_iff_prefix]
  simp only [Nat.zero_add, Bool.and_eq_true, decide_eq_true_eq, beq_iff_eq]
  have e2 : a.toArray.extract 0 b.length = b.toArray ↔ a.take b.length = b := by
    simp
  rw [e2]
  constructor
  · rintro ⟨h1, h2⟩
    rw [← h2]; exact List.take_prefix _ _
  · rintro ⟨t, rfl⟩
    simp
theorem v_sw : VMeth K B 3 swV (fun x xs H Q => ∃ a b, x = .str a ∧ xs = [.str b] ∧ Q (.bl (Txt.startswith a b)) H) := by
  intro ρ H h c cs v vs W Q R r rs p
  unfold swV at p
  split at p
  · rename_i a b e
    injection e with e1 e2
    subst e1 e2
    obtain ⟨w, ew, rw'⟩ := one_rep rs
    have ev := r.1
    have ew2 := rw'.1
    subst ev ew2
    refine ⟨_, _, rfl, ew, ?_⟩
    rw [sw_eq]
    exact p.ok R rfl
  · exact p.elim
end
end Cn
namespace Cn
open PySem
end Cn
set_option Elab.async false
set_option linter.all false
set_option maxRecDepth 100000
set_option maxHeartbeats 4000000
namespace Cn
open PySem PySem.Spec PyProof.Rows L2
theorem mt_rpart {X : Cx} : MtR X "str.rpartition" (fun x xs H Q => ∃ a b, x = .str a ∧ xs = [.str b] ∧ (b.length == 0) = false ∧ a.length ≤ sizeLine ∧ ∀ p, H p = none → Q (.ref p) (upd H p (.tup (match Builtin.Str.lastOccurrence a b 0 a.length with
    | some i => [.str (Builtin.Str.strSub a 0 i), .str b, .str (Builtin.Str.strSub a (i + b.length) a.length)]
    | none => [.str Str.empty, .str Str.empty, .str a])))) := by
  intro pins s σ H x xs v us Q I rx rxs ⟨a, b, e1, e2, e3, e4, q⟩
  subst e1 e2
  obtain ⟨t, rfl⟩ := rx
  cases rxs with
  | cons r1 r2 =>
    cases r2 with
    | nil =>
      obtain ⟨u, rfl⟩ := r1
      refine call_meets F.slot_str_rpartition (typeIs_str ..) F.entry_str_rpartition (F.args_str_rpartition_2 _ _) (meets_str_rpartition a b t u e3 e4) ?_
      cases hL : Builtin.Str.lastOccurrence a b 0 a.length with
      | none =>
        rw [hL] at q
        refine ⟨.ref s.heap.objs.size, upd H s.heap.objs.size (.tup [.str Str.empty, .str Str.empty, .str a]), ?_, rfl, q _ I.fresh⟩
        refine I.laid (fun b' u' hb => Heap.get?_push_of_some _ hb) (Nat.le_refl _) ?_
        exact ⟨by rw [sizeLine_eq]; simp, [Value.str Str.empty s.toks, Value.str Str.empty s.toks, Value.str a t], .cons ⟨_, rfl⟩ (.cons ⟨_, rfl⟩ (.cons ⟨_, rfl⟩ .nil)), ⟨_, Heap.get?_push_size _ rfl, rfl, _, rfl⟩⟩
      | some i =>
        rw [hL] at q
        refine ⟨.ref s.heap.objs.size, upd H s.heap.objs.size (.tup [.str (Builtin.Str.strSub a 0 i), .str b, .str (Builtin.Str.strSub a (i + b.length) a.length)]), ?_, rfl, q _ I.fresh⟩
        refine I.laid (fun b' u' hb => Heap.get?_push_of_some _ hb) (Nat.le_refl _) ?_
        exact ⟨by rw [sizeLine_eq]; simp, [Value.str (Builtin.Str.strSub a 0 i) s.toks, Value.str b u, Value.str (Builtin.Str.strSub a (i + b.length) a.length) (s.toks + 1)], .cons ⟨_, rfl⟩ (.cons ⟨_, rfl⟩ (.cons ⟨_, rfl⟩ .nil)), ⟨_, Heap.get?_push_size _ rfl, rfl, _, rfl⟩⟩
section
variable {K : PySem.W.Frag} {B : Bs}
theorem v_ord : VCall K B ordV (fun xs H Q => ∃ x, xs = [.str x] ∧ x.length = 1 ∧ Q (.int (x.cps.getD 0 0 : Nat)) H) := by
  intro ρ H h cs vs W Q R r p
  unfold ordV at p
  split at p
  · rename_i c
    obtain ⟨v, e, r1⟩ := one_rep r
    have e1 := r1.1
    subst e1
    exact ⟨_, e, rfl, p.ok R rfl⟩
  · exact p.elim
theorem rpart_none {c : Nat} : ∀ {a : List Nat}, (∀ i : Nat, a[i]? ≠ some c) → rpartC c a = none
  | [], _ => rfl
  | x :: r, h => by
    unfold rpartC
    rw [rpart_none fun i => by simpa using h (i + 1)]
    exact if_neg fun e => h 0 (by simp [e])
theorem rpart_some {c : Nat} : ∀ {a : List Nat} {i : Nat}, a[i]? = some c → (∀ k, i < k → a[k]? ≠ some c) → rpartC c a = some (a.take i, a.drop (i + 1))
  | [], i, e, _ => by simp at e
  | x :: r, 0, e, h => by
    have e1 : x = c := by simpa using e
    unfold rpartC
    rw [rpart_none fun i => by simpa using h (i + 1) (by omega)]
    simp [e1]
  | x :: r, i + 1, e, h => by
    unfold rpartC
    rw [rpart_some (i := i) (by simpa using e) fun k hk => by simpa using h (k + 1) (by omega)]
    rfl
theorem v_rpart : VMeth K B 3 rpartitionV (fun x xs H Q => ∃ a b, x = .str a ∧ xs = [.str b] ∧ (b.length == 0) = false ∧ a.length ≤ sizeLine ∧ ∀ p, H p = none → Q (.ref p) (upd H p (.tup (match Builtin.Str.lastOccurrence a b 0 a.length with
    | some i => [.str (Builtin.Str.strSub a 0 i), .str b, .str (Builtin.Str.strSub a (i + b.length) a.length)]
    | none => [.str Str.empty, .str Str.empty, .str a])))) := by
  intro ρ H h c cs v vs W Q R r rs p
  unfold rpartitionV at p
  split at p
  · rename_i a c' e
    injection e with e1 e2
    subst e1 e2
    obtain ⟨w, ew, rw'⟩ := one_rep rs
    have ev := r.1
    have ew2 := rw'.1
    subst ev ew ew2
    by_cases hl : a.length ≤ LINE ∧ c' < 256
    · rw [if_pos hl] at p
      refine ⟨_, _, rfl, rfl, rfl, by rw [str_len, ← line_eq]; exact hl.1, fun t ht => ?_⟩
      rcases StrLaws.last_spec (⟨a.toArray⟩ : Str) ⟨[c'].toArray⟩ with ⟨h0, hn⟩ | ⟨i, h0, hi, hn⟩
      · rw [h0]
        have e : rpartC c' a = none := rpart_none fun i z => hn i ((StrLaws.subAt_one (⟨a.toArray⟩ : Str) c' i).mpr z)
        rw [e] at p
        refine Post.tup (xs := [.str [], .str [], .str a]) R ht ?_ p
        exact ⟨_, _, rfl, ⟨rfl, fun _ z => nomatch z⟩, _, _, rfl, ⟨rfl, fun _ z => nomatch z⟩, _, _, rfl, ⟨rfl, r.2⟩, rfl⟩
      · rw [h0]
        have e1 : a[i]? = some c' := (StrLaws.subAt_one (⟨a.toArray⟩ : Str) c' i).mp hi
        have e : rpartC c' a = some (a.take i, a.drop (i + 1)) := rpart_some e1 fun k hk z => hn k hk ((StrLaws.subAt_one (⟨a.toArray⟩ : Str) c' k).mpr z)
        rw [e] at p
        have s1 : Builtin.Str.strSub (⟨a.toArray⟩ : Str) 0 i = ⟨(a.take i).toArray⟩ := by simp [Builtin.Str.strSub]
        have s2 : Builtin.Str.strSub (⟨a.toArray⟩ : Str) (i + (⟨[c'].toArray⟩ : Str).length) (⟨a.toArray⟩ : Str).length = ⟨(a.drop (i + 1)).toArray⟩ := by
          rw [str_len, str_len]
          simp [Builtin.Str.strSub]
          rw [List.take_of_length_le (by rw [List.length_drop]; exact Nat.le_refl _)]
        show Q (V.ref t) (upd H t (HO.tup [_, _, _]))
        rw [s1, s2]
        refine Post.tup (xs := [.str (a.take i), .str [c'], .str (a.drop (i + 1))]) R ht ?_ p
        exact ⟨_, _, rfl, ⟨rfl, fun d hd => r.2 d (List.mem_of_mem_take hd)⟩, _, _, rfl, ⟨rfl, rw'.2⟩, _, _, rfl, ⟨rfl, fun d hd => r.2 d (List.mem_of_mem_drop hd)⟩, rfl⟩
    · rw [if_neg hl] at p; exact p.elim
  · exact p.elim
theorem sum_count (c : Nat) (l : List Nat) : (l.map fun n => if decide (n = c) = true then (1 : Int) else 0).sum = (l.count c : Nat) := by
  induction l with
  | nil => rfl
  | cons x r ih =>
    rw [List.map_cons, List.sum_cons, ih, List.count_cons]
    by_cases e : x = c
    · simp [e]; omega
    · simp [e]
theorem v_count : VMeth K B 3 countV (fun x xs H Q => ∃ a b, x = .str a ∧ xs = [.str b] ∧ Q (.int (Txt.count a b)) H) := by
  intro ρ H h c cs v vs W Q R r rs p
  unfold countV at p
  split at p
  · rename_i a c' e
    injection e with e1 e2
    subst e1 e2
    obtain ⟨w, ew, rw'⟩ := one_rep rs
    have ev := r.1
    have ew2 := rw'.1
    subst ev ew ew2
    by_cases hl : a.length ≤ LINE
    · rw [if_pos hl] at p
      refine ⟨_, _, rfl, rfl, ?_⟩
      have e : Txt.count (⟨a.toArray⟩ : Str) ⟨[c'].toArray⟩ = (a.count c' : Nat) := by
        have := count_cnt (⟨a.toArray⟩ : Str) c'
        rw [show (⟨[c'].toArray⟩ : Str) = ⟨#[c']⟩ from rfl, this]
        exact (countIn_signs_sum _ _).trans (sum_count _ _)
      rw [e]
      exact p.ok R rfl
    · rw [if_neg hl] at p; exact p.elim
  · exact p.elim
end
section
variable {X : Cx} {B : Bs} {W : WX} {a : Expr} {ma : ME CV} {pos pos' : Pos}
theorem ss_aug {op : Operator} {rd : V → V → Hp → VK → Prop} {g : CV → CV → CH → Res CV} {i : Nat} {x : Str} (hN : X.N.Nodup) (ha : SE X B W a ma) (hop : InOp X op rd) (vi : VIn X B rd g) (ne : noEx g) (hi : X.N[i]? = some x := by rfl) (hx : Loc X.env.scope x := by first | exact Or.inl rfl | exact Or.inr rfl)
    (hf : X.fn x = true ∨ X.env.scope.names.lookup x = some .local := by first | exact .inl rfl | exact .inr rfl | assumption) : SS X B W (.AugAssign (.Name x pos') op a pos) (sAug g i ma) := PS.imp (ps_aug hN hi hx ha hop hf) fun D σ H h => by
  obtain ⟨ρ, h0, s, R, S, p⟩ := h
  unfold sAug at p
  cases e : s[i]? with
  | none => rw [e] at p; exact p.elim
  | some o => cases o with
    | none => rw [e] at p; exact p.elim
    | some c =>
      rw [e] at p
      obtain ⟨v, e2, r2⟩ := S.2 i c e
      refine ⟨v, e2, ρ, h0, s, R, S, Post.imp (fun vy H2 hh => ?_) (SOk.bind (rV X.K B) S p)⟩
      obtain ⟨y, h2, ρ2, M2, p2⟩ := hh
      cases q : g c y h2 with
      | ex cc d h3 => exact absurd q (ne _ _ _ _ _ _)
      | bad => rw [q] at p2; exact p2.elim
      | ok z h3 =>
        rw [q] at p2
        obtain ⟨eh, k⟩ := vi (RepV.per M2.pre M2.per _ _ r2) M2.rp q
        subst eh
        exact k fun w rw' => (show SOk X.K B W (.nx (s.set i (some z)) h3) ρ2 H2 D from p2) ρ2 H2 _ (List.prefix_refl _) Per.refl M2.rel ((S.per M2.pre M2.per).set rw')
end
end Cn
set_option Elab.async false
set_option maxRecDepth 100000
set_option linter.all false
namespace Cn
open PySem PySem.Spec PyProof.Rows
section
variable {prog : Program} {w : World}
abbrev Held (prog : Program) (w : World) (xs : List Str) (S : Addr) (i : Nat) (h : Heap) : Prop := h.SetOf (PySem.strKind prog w) S (fun k => decide (k ∈ xs.take i)) (met (xs.take i)).length
variable {A : Around} {R : Result → Shared → Prop} {I : Addr} {fp wr : List Addr} {G : Array GenState → Array GenState → Prop} {n : Nat} {P : Nat → Value → Prop} {St : Nat → Shared → Prop} {xs : List Str} {S : Addr}
theorem Held.moves {i : Nat} {s s' : Shared} (q : Held prog w xs S i s.heap) (k : ∀ o, s.heap.get? S = some o → s'.heap.get? S = some o) : Held prog w xs S i s'.heap := by
  obtain ⟨o, es, ep, t, ho, r⟩ := q
  exact ⟨o, es, ep, t, k o ho, r⟩
theorem Held.next {i : Nat} {x : Str} {h : Heap} (e : xs[i]? = some x)
    (q : h.SetOf (PySem.strKind prog w) S (fun k => decide (k ∈ xs.take i) || decide (k = x)) (if decide (x ∈ xs.take i) = true then (met (xs.take i)).length else (met (xs.take i)).length + 1)) : Held prog w xs S (i + 1) h := by
  have e2 : xs.take (i + 1) = xs.take i ++ [x] := by rw [List.take_succ, e]; rfl
  refine SetOf_congr q (fun k => ?_) ?_
  · rw [e2]; simp only [List.mem_append, List.mem_singleton, Bool.decide_or]
  · rw [e2, met_add]
    unfold metStep
    by_cases c : x ∈ xs.take i
    · rw [if_pos ((mem_met _).mpr c), if_pos (by simpa using c)]
    · rw [if_neg (fun m => c ((mem_met _).mp m)), if_neg (by simpa using c)]; rfl
theorem setLoop (W : WalksS prog w A.in1 I fp wr G n P St) (nS : S ∉ fp) (hn : xs.length = n) (hb : n + 1 < scanBound) (hP : ∀ i v, P i v → ∃ x t, xs[i]? = some x ∧ v = .str x t) :
    ∀ (m i : Nat) (s : Shared), i + m = n → St i s → Held prog w xs S i s.heap →
      (∀ s', Moved (S :: wr) G s s' → Held prog w xs S n s'.heap → R (.ok (.ret .none)) s') → codeAny (model prog w) A (.builtin "set.update.loop" ⟨[.ref S, .ref I], []⟩) R s := by
  have nW : S ∉ wr := fun z => nS (W.sub _ z)
  intro m
  induction m with
  | zero =>
    intro i s e st q fin
    obtain rfl : i = n := by omega
    refine codeAny_builtin PyProof.Rows.F.entry_set_update_loop ?_
    rw [Around.under_plainId PyProof.Rows.F.plain_set_update_loop _]
    show wpAny _ A.in1 (pyNext (.ref I) >>= _) _ _ s
    refine wpAny_bind (W.done s _ _ st fun s' mv => ?_)
    show wpAny _ A.in1 (ret Value.none) _ _ s'
    exact wpAny_pure (fin s' (mv.mono fun _ z => List.mem_cons_of_mem _ z) (q.moves fun o ho => mv.heap S o nW ho))
  | succ m ih =>
    intro i s e st q fin
    refine codeAny_builtin PyProof.Rows.F.entry_set_update_loop ?_
    rw [Around.under_plainId PyProof.Rows.F.plain_set_update_loop _]
    show wpAny _ A.in1 (pyNext (.ref I) >>= _) _ _ s
    refine wpAny_bind (W.item i s _ _ (by omega) st fun v s1 pv st1 mv => ?_)
    obtain ⟨x, t, ex, rfl⟩ := hP i v pv
    have q1 : Held prog w xs S i s1.heap := q.moves fun o ho => mv.heap S o nW ho
    show wpAny _ A.in1 (holding [Value.str x t] (setAdd S (.str x t)) >>= _) _ _ s1
    refine wpAny_bind (wpAny_holding ?_)
    unfold setAdd
    refine wpAny_holding (wpAny_bind ((PySem.strKind prog w).pyHash (k := x) (strKind_is _ _ _ _) ?_))
    have room : (met (xs.take i)).length + 1 < scanBound := by have := met_len (xs.take i); rw [List.length_take] at this; omega
    refine wpAny_setAddHashed_of (knd := PySem.strKind prog w) (s := { s1 with toks := s1.toks + 1 }) (strKind_is _ _ _ _) rfl q1 room fun h2 only q2 => ?_
    refine wpAny_pure ⟨plainId_quiet PyProof.Rows.F.plain_set_update_loop _, ih (i + 1) _ (by omega) (W.frame _ s1 _ _ st1 (Nat.le_succ _) fun b hb o eo => ?_) (Held.next ex q2) fun s3 mv3 q3 => ?_⟩
    · rw [only.2 b (fun z => nS (z ▸ hb))]; exact eo
    · refine fin s3 (Moved.trans W.gtrans ((mv.mono fun _ z => List.mem_cons_of_mem _ z).then_heap (Nat.le_succ _) fun b o hb eo => ?_) mv3) q3
      rw [only.2 b (fun z => hb (z ▸ List.mem_cons_self))]; exact eo
end
section
variable {prog : Program} {w : World} {A : Around} {E : Value → Shared → Prop} {s : Shared}
theorem strs_ith : ∀ {us : List Value} {xs : List Str}, StrsAre us xs → ∀ (i : Nat) (v : Value), us[i]? = some v → ∃ x t, xs[i]? = some x ∧ v = .str x t
  | _, _, .nil, _, _, e => by simp at e
  | _, _, .cons x t r, 0, v, e => ⟨x, t, rfl, by simpa using e.symm⟩
  | _, _, .cons x t r, i + 1, v, e => by
    obtain ⟨y, u, ey, ev⟩ := strs_ith r i v (by simpa using e)
    exact ⟨y, u, by simpa using ey, ev⟩
abbrev set0 (led : Bool) : Obj := { cls := .type "set", dict := none, data := .set #[] 0 (.fresh 0 0 led) }
def SetMade (prog : Program) (w : World) (xs : List Str) (s : Shared) (s2 : Shared) : Prop :=
  ∃ h' tk, s2 = { s with heap := h', toks := tk } ∧ Held prog w xs s.heap.objs.size xs.length h' ∧ ∀ b o, b < s.heap.objs.size → s.heap.get? b = some o → h'.get? b = some o
theorem setInit {l : Addr} {items : Array Value} {xs : List Str} {led : Bool} (hh : A.handled = none) (hl : s.heap.IsList l items) (hx : StrsAre items.toList xs) (hb : xs.length + 1 < scanBound) :
    codeAny (model prog w) A (.call (.builtin "set.__init__") ⟨[.ref s.heap.objs.size, .ref l], []⟩) (wants (fun r s2 => r = .none ∧ SetMade prog w xs s s2) E) { s with heap := s.heap.push (set0 led) } := by
  have hS : (s.heap.push (set0 led)).get? s.heap.objs.size = some (set0 led) := Heap.get?_push_size _ rfl
  refine codeAny_call_builtin PySem.F.called_set.init.plain PySem.F.entry_set_init (check_set_init_1 ⟨_, hS, rfl⟩ ?_)
  obtain ⟨⟨oc, od, odt, os⟩, ho, hc, nl, hd⟩ := hl
  simp only at hc hd
  subst hc; subst hd
  have ho1 : (s.heap.push (set0 led)).get? l = some { cls := .type "list", dict := od, data := .seq items nl, slots := os } := Heap.get?_push_of_some _ ho
  have f1 := PySem.F.sub_list_set
  have f2 := PySem.F.sub_list_frozenset
  have f3 : (Value.type "list" == Value.type "dict") = false := by decide
  have hl1 : (s.heap.push (set0 led)).IsList l items := ⟨_, ho1, rfl, nl, rfl⟩
  unfold Builtin.«set.__init__» noKeywords Builtin.Frozenset.updateFrom
  generalize hPI : pyIter = PI
  wp_walk
  subst hPI
  refine wpAny_pyIter_list hl1 (wpAny_bind (wpAny_runValue ?_))
  have lt : l < s.heap.objs.size := Heap.lt_size ho
  have sz : (s.heap.push (set0 led)).objs.size = s.heap.objs.size + 1 := Heap.size_push ..
  have nI : l ≠ (s.heap.push (set0 led)).objs.size := by rw [sz]; exact Nat.ne_of_lt (Nat.lt_succ_of_lt lt)
  have nS : s.heap.objs.size ∉ [(s.heap.push (set0 led)).objs.size, l] := by rw [sz]; simp only [List.mem_cons, List.not_mem_nil, or_false, not_or]; exact ⟨Nat.ne_of_lt (Nat.lt_succ_self _), Nat.ne_of_gt lt⟩
  have ln : xs.length = items.size := by rw [← StrsAre.len_eq hx, Array.length_toList]
  refine setLoop ((Walks.list (by simp [hh]) _ l nI items).toS) nS ln (by omega) (fun i v e => strs_ith hx i v (by rw [Array.getElem?_toList]; exact e)) items.size 0 _ (by omega) ⟨⟨_, Heap.get?_push_size _ rfl, rfl, rfl⟩, hl1.push _⟩ ?_ fun s' mv q => ?_
  · exact SetOf_congr ((setObjOf_fresh (knd := PySem.strKind prog w) led).setOf (Heap.get?_push_of_some _ hS) (by unfold scanBound; omega)) (fun _ => rfl) rfl
  · obtain ⟨h', g', d', tk', os'⟩ := s'
    have eg : g' = s.gens := mv.gens
    have ed : d' = s.drawn := mv.drawn
    have eo : os' = s.os := mv.os
    subst eg; subst ed; subst eo
    show wpAny _ _ _ _ _ _
    refine wpAny_pure ?_
    show wpAny _ _ (ret Value.none) _ _ _
    refine wpAny_pure ⟨rfl, h', tk', rfl, ln ▸ q, fun b o hb e => ?_⟩
    exact mv.heap b o (by rw [sz]; simp only [List.mem_cons, List.not_mem_nil, or_false, not_or]; exact ⟨Nat.ne_of_lt hb, Nat.ne_of_lt (Nat.lt_succ_of_lt hb)⟩) (Heap.get?_push_of_some _ (Heap.get?_push_of_some _ e))
set_option maxHeartbeats 3200000 in
theorem setCall {l : Addr} {items : Array Value} {xs : List Str} {Q : Value → Shared → Prop} (hh : A.handled = none) (hl : s.heap.IsList l items) (hx : StrsAre items.toList xs) (hb : xs.length + 1 < scanBound)
    (q : ∀ s2, SetMade prog w xs s s2 → Q (.ref s.heap.objs.size) s2) : wpAny (model prog w) A (call (.type "set") [.ref l]) Q E s := by
  obtain ⟨c, tl, g1⟩ := PySem.F.called_set.mro
  have g2 := PySem.F.called_set.made
  have g3 := PySem.F.called_set.sub
  have g4 := PySem.F.called_set.notType
  have g5 := PySem.F.called_set.canCreate
  have g6 := PySem.F.typeCall_set_1 (.ref l)
  refine wpAny_call (codeAny_of_tree ?_)
  show wpAny _ _ (callAny (.type "set") _) _ _ _
  refine wpAny_pure ⟨Code.quiet_builtin _ (by decide +kernel), codeAny_builtin PySem.F.entry_type_call ?_⟩
  rw [Around.under_plain (weight_type_call_type "set" [.ref l] []) rfl]
  repeat (any_goals (first | assumption | wp_step))
  refine codeAny_mono (code_set_new_1 (.ref l) (E := E) (Q₁ := fun x s1 => ∃ led : Bool, x = .ref s.heap.objs.size ∧ s1 = { s with heap := s.heap.push (set0 led) }) fun led => ⟨led, rfl, rfl⟩) fun r s1 hr => ?_
  rcases r with e | fl
  · exact hr
  cases fl with
  | ret x =>
    obtain ⟨led, rfl, rfl⟩ := hr
    have hT : Shared.TypeIs { s with heap := s.heap.push (set0 led) } (.ref s.heap.objs.size) "set" := ⟨_, Heap.get?_push_size _ rfl, rfl⟩
    have g7 := PySem.F.called_set.init.lookup
    have g8 := PySem.F.called_set.init.bind (.ref s.heap.objs.size)
    repeat (any_goals (first | assumption | wp_step))
    refine codeAny_mono (setInit (E := E) (by simpa using hh) hl hx hb) fun r2 s2 hr2 => ?_
    rcases r2 with e | fl2
    · exact hr2
    cases fl2 with
    | ret x =>
      obtain ⟨rfl, m⟩ := hr2
      repeat (any_goals (first | assumption | wp_step))
      exact q _ m
    | _ => exact hr2.elim
  | _ => exact hr.elim
end
section
open L2
variable {X : Cx} {B : Bs} {W : WX}
def tLenTexts (K : PySem.W.Frag) (ta : TE) : TE := fun σ H Q => ta σ H fun x H1 => ∃ l, ∃ xs : List Str, x = .ref l ∧ SqL K H1 l (xs.map V.str) ∧ xs.length + 1 < scanBound ∧ Q (.int (met xs).length) H1
theorem pe_lenTexts {a : Expr} {ta : TE} {p p2 q pos : Pos} (hc : X.calm = true) (hg : Gl X "len") (hm : X.mg "len" = none) (hg2 : Gl X "set") (hm2 : X.mg "set" = none) (ha : PE X a ta)
    (na : starEach [a] X.env = (false, eval a X.env) :: starEach [] X.env := by rfl) : PE X (.Call (.Name "len" p) [.Call (.Name "set" p2) [a] [] q] [] pos) (tLenTexts X.K ta) := by
  refine ⟨fun pins s σ H Q I h => ?_⟩
  refine Call_ (ld_blt I hg hm boot_len ?_)
  refine callWith_builtin1 (args_cons ?_ rfl) rfl rfl
  refine Call_ (ld_blt I hg2 hm2 boot_set ?_)
  refine callWith_type1 (args_cons (thn (ha.run pins s σ H _ I h) fun v s1 ⟨x, H1, I1, r1, q1⟩ => args_nil ?_) na) na rfl
  obtain ⟨l, xs, rfl, hq, hb, q1⟩ := q1
  cases r1
  obtain ⟨its, r, pl, hz⟩ := I1.list hq
  refine setCall (I1.ok.hd hc) pl.isList (by simpa using strsAre_of r) hb fun s2 m => ?_
  obtain ⟨h', tk, rfl, hd, keep⟩ := m
  refine args_nil ?_
  unfold Held at hd
  rw [List.take_length] at hd
  obtain ⟨o, es, ep, t, ho, hex, hdd, _, _, _, hf, hn⟩ := hd
  have I2 : Inv X pins σ H1 { s1 with heap := h', toks := tk } := I1.kept fun b o e => keep b o (Heap.lt_size e) e
  have hle : (met xs).length ≤ xs.length := met_len xs
  have sb : scanBound = 4096 := rfl
  refine call_len_set ho hex hdd hf (by rw [hn]; omega) ⟨.int (met xs).length, H1, I2.tok _, ⟨_, by rw [hn]⟩, q1⟩
theorem str_inj (a b : List Nat) (e : (⟨a.toArray⟩ : Str) = ⟨b.toArray⟩) : a = b := by
  have := congrArg (fun s : Str => s.cps.toList) e
  simpa using this
theorem se_lset {e : Expr} {mo : ME CV} {p p2 q pos : Pos} (hc : X.calm = true) (hg : Gl X "len") (hm : X.mg "len" = none) (hg2 : Gl X "set") (hm2 : X.mg "set" = none) (ha : SE X B W e mo)
    (na : starEach [e] X.env = (false, eval e X.env) :: starEach [] X.env := by rfl) : SE X B W (.Call (.Name "len" p) [.Call (.Name "set" p2) [e] [] q] [] pos) (e1 lsetV mo) := PE.imp (pe_lenTexts hc hg hm hg2 hm2 ha na) fun σ H Q h => by
  refine tX_bind (rep := rV X.K B) (f := fun _ => lsetV) h fun ρ1 h1 s a v H1 R1 S1 r1 p1 => ?_
  unfold lsetV at p1
  cases q1 : lstOf h1 a with
  | none => rw [q1] at p1; exact p1.elim
  | some xs =>
    rw [q1] at p1
    simp only at p1
    cases q2 : strsOf xs with
    | none => rw [q2] at p1; exact p1.elim
    | some zs =>
      rw [q2] at p1
      simp only at p1
      obtain ⟨ad, us, eu, hs, hr⟩ := R1.sq r1 q1
      obtain ⟨k1, k2⟩ := hr.strs q2
      subst eu k1
      by_cases hl : zs.length < 4000
      · rw [if_pos hl] at p1
        have sb : scanBound = 4096 := rfl
        refine ⟨ad, zs.map fun z => (⟨z.toArray⟩ : Str), rfl, hs, by rw [List.length_map]; omega, ?_⟩
        rw [met_map (fun z : List Nat => (⟨z.toArray⟩ : Str)) str_inj, List.length_map]
        exact p1.ok R1 rfl
      · rw [if_neg hl] at p1; exact p1.elim
end
end Cn
set_option Elab.async false
set_option maxRecDepth 100000
set_option linter.all false
set_option maxHeartbeats 2000000
namespace Cn
open PySem PySem.Spec PyProof.Rows L2 He
theorem dvalB_ok {K : PySem.W.Frag} {a : Addr} {z : Str} {vs : List V} (e : dvalB K a z vs = true) : ∃ b, PySem.W.nsIn K a z = some (some (.ref b)) ∧ ∀ H, SqT K H b vs := by
  unfold dvalB at e
  split at e
  · next b q => exact ⟨b, q, fun H => tupAt_ok e H⟩
  · cases e
def hookD (n : Nat) (fa : List Fa) (fn : List DefD) (C : Cs2) : PySem.W.Hook where
  α := AlD × Bool × DicT
  obs := fun s => (obsDG n fa fn s.heap.get?, C.ok (frG s.heap.get? (asD s.heap.get? n)), C.obs (frG s.heap.get? (asD s.heap.get? n)))
  val := fun w => (valD fn, true, C.val w)
  says := fun w h => ∃ K, K.In h ∧ SaysD fa fn K ∧ C.says w K
  of := fun w s e => by
    have e1 := congrArg Prod.fst e
    have e2 := congrArg Prod.snd e
    have e3 := congrArg Prod.fst e2
    have e4 := congrArg Prod.snd e2
    exact ⟨_, frG_in, e1, e3, e4⟩
  keeps := fun w h h' ⟨K, k1, k2, k3⟩ hk => ⟨K, fun a o e => hk a o (k1 a o e), k2, k3⟩
def obD (n : Nat) (fa : List Fa) (fn : List DefD) (C : Cs2) (g : Addr → Option Obj) : AlD × Bool × DicT := (obsDG n fa fn g, C.ok (frG g (asD g n)), C.obs (frG g (asD g n)))
theorem obD_eq {n : Nat} {fa : List Fa} {fn : List DefD} {C : Cs2} {g : Addr → Option Obj} {s : Shared} (e : ∀ a, g a = s.heap.get? a) : obD n fa fn C g = (hookD n fa fn C).obs s := by
  have : g = s.heap.get? := funext e
  subst this
  rfl
theorem dicW_keys {K : PySem.W.Frag} {w : World} {a : Addr} {ks : List Str} (h : dicW K a = some (keysIn w.params ks)) {es : Array DictEntry} {n : Nat} (D : KDict K w a es n) : es.toList.map He.keyOf = keysIn w.params ks := by
  unfold dicW at h
  rw [D.at_] at h
  simp only at h
  split at h
  · exact Option.some.inj h
  · cases h
theorem keyOf_str {e : DictEntry} {x : Str} {q : Int} (h : He.keyOf e = some (x, q)) : ∃ t, e.key = .str x t := by
  unfold He.keyOf at h
  split at h
  · next y t ey => cases h; exact ⟨t, ey⟩
  · cases h
theorem nsIn_none {K : PySem.W.Frag} {w : World} {a : Addr} {ks : List Str} {es : Array DictEntry} {n : Nat} {z : Str} (D : KDict K w a es n) (hk : es.toList.map He.keyOf = keysIn w.params ks) (nz : z ∉ ks) : PySem.W.nsIn K a z = some none := by
  have key : ∀ e ∈ es.toList, ∃ x t, e.key = .str x t ∧ x ∈ ks := by
    intro e he
    have m : He.keyOf e ∈ keysIn w.params ks := hk ▸ List.mem_map_of_mem he
    unfold keysIn at m
    obtain ⟨x, mx, ex⟩ := List.mem_map.mp m
    obtain ⟨t, et⟩ := keyOf_str ex.symm
    exact ⟨x, t, et, mx⟩
  unfold PySem.W.nsIn
  rw [D.at_]
  simp only
  have f1 : es.toList.find? (·.key.isStr z) = none := by
    rw [List.find?_eq_none]
    intro e he hs
    obtain ⟨x, t, ek, mx⟩ := key e he
    rw [ek] at hs
    have : x = z := by simpa [Value.isStr] using hs
    exact nz (this ▸ mx)
  rw [f1]
  simp only
  have f2 : es.toList.any (·.refKey) = false := by
    rw [List.any_eq_false]
    intro e he hs
    obtain ⟨x, t, ek, mx⟩ := key e he
    unfold DictEntry.refKey at hs
    rw [ek] at hs
    simp at hs
  rw [f2]; rfl
section
variable {X : Cx} {B : Bs} {W : WX} {d : Addr} {es : Array DictEntry} {n : Nat} {a : Expr} {ma : ME CV} {pos p2 : Pos}
theorem ix_kd (D : KDict X.K X.w d es n) : IxR X (fun x y H Q => ∃ (z : Str) (u0 : Value) (v0 : V), x = .ref d ∧ y = .str z ∧ PySem.W.nsIn X.K d z = some (some u0) ∧ RelV v0 u0 ∧ Q v0 H) := by
  intro value slice pins s σ H x y v u Q I rx ry h hs
  have hT := kd_type D I
  obtain ⟨z, u0, v0, rfl, rfl, e, r, q⟩ := h
  cases rx
  exact tail_any hT PySem.F.slot_dict_getitem.lookup (op_item_kd D pins s σ H (.ref d) (.str z) (.ref d) u Q I rfl ry ⟨z, u0, v0, rfl, rfl, e, r, q⟩) hs
structure DicOk (K : PySem.W.Frag) (w : World) (d : Addr) (kvs : List (List Nat × List CV)) : Prop where
  dict : ∃ es n, KDict K w d es n
  at_ : ∀ z vs, keyAt kvs z = some vs → ∃ b us, PySem.W.nsIn K d ⟨z.toArray⟩ = some (some (.ref b)) ∧ (∀ H, SqT K H b us) ∧ litVs vs = some us
  off : ∀ z, keyAt kvs z = none → PySem.W.nsIn K d ⟨z.toArray⟩ = some none
theorem litVs_get : ∀ {cs : List CV} {vs : List V} {i : Nat} {c : CV}, litVs cs = some vs → cs[i]? = some c → ∃ v, vs[i]? = some v ∧ litV c = some v
  | [], _, _, _, _, e => by simp at e
  | x :: cs, vs, i, c, l, e => by
    unfold litVs at l
    cases e1 : litV x with
    | none => rw [e1] at l; cases l
    | some v =>
      rw [e1] at l
      cases e2 : litVs cs with
      | none => rw [e2] at l; cases l
      | some ws =>
        rw [e2] at l
        cases l
        cases i with
        | zero => exact ⟨v, rfl, by have : x = c := by simpa using e
                                    rw [← this]; exact e1⟩
        | succ i => obtain ⟨u, k1, k2⟩ := litVs_get (i := i) e2 (by simpa using e); exact ⟨u, by simpa using k1, k2⟩
theorem se_dicIC {nm : Str} {kvs : List (List Nat × List CV)} {i : Nat} {j p3 p4 : _} (hg : Gl X nm) (hm : X.mg nm = some (.ref d)) (D : DicOk X.K X.w d kvs) (ha : SE X B W a ma) (hd : (nm == ("__debug__" : Str)) = false := by decide +kernel) (hs : PlainIx a := by exact fun _ _ => rfl) (hs2 : PlainIx (.Constant (.int i) j p3) := by exact fun _ _ => rfl) : SE X B W (.Subscript (.Subscript (.Name nm p2) a p4) (.Constant (.int i) j p3) pos) (e1 (dicIC kvs i) ma) := by
  obtain ⟨es, n, D0⟩ := D.dict
  refine PE.imp (pe_ix ix_seq (pe_ix (ix_kd D0) (pe_gref hg hm hd) ha hs) pe_int hs2) fun σ H Q h => ?_
  show tX X.K B (rV X.K B) W ma σ H _
  refine tX_bind (rep := rV X.K B) (f := fun _ => dicIC kvs i) h fun ρ1 h1 s x v H1 R1 S1 r1 p1 => ?_
  unfold dicIC at p1
  split at p1
  · next z =>
    split at p1
    · next vs ek =>
      split at p1
      · next c ec =>
        obtain ⟨b, us, e1, e2, e3⟩ := D.at_ z vs ek
        obtain ⟨u, e4, e5⟩ := litVs_get e3 ec
        have ev := r1.1
        subst ev
        refine ⟨_, _, .ref b, rfl, rfl, e1, rfl, ?_⟩
        exact .inr (.inl ⟨b, us, (i : Nat), u, rfl, rfl, e2 H1, by
          have li : i < us.length := (List.getElem?_eq_some_iff.mp e4).1
          unfold atI ixN
          rw [if_pos (by omega), if_pos (by omega)]
          simpa using e4, p1.ok R1 (litV_rep e5)⟩)
      · exact p1.elim
    · exact p1.elim
  · exact p1.elim
theorem ss_asgD {nm : Str} {kvs : List (List Nat × List CV)} {tgs : List Expr} {kk m : Nat} {gs : MGs} {p3 p4 : Pos} (own : List Nat) (hc : X.calm = true) (hg : Gl X nm) (hm : X.mg nm = some (.ref d)) (D : DicOk X.K X.w d kvs) (ha : SE X B W a ma) (hgs : SGs X B own tgs gs)
    (hd : (nm == ("__debug__" : Str)) = false := by decide +kernel) (hs : PlainIx a := by exact fun _ _ => rfl) (hn : (assignEach tgs X.env).length = m := by rfl) (hst : (assignEach tgs X.env).findIdx? (·.1) = none := by rfl)
    (hsw : swapsWithSole [.Tuple tgs kk p3] (.Subscript (.Name nm p2) a p4) pos.line X.env = pure false := by rfl) (hw : swappedStores [.Tuple tgs kk p3] (.Subscript (.Name nm p2) a p4) X.env = pure none := by rfl) (h1 : (assignEach [.Tuple tgs kk p3] X.env).map (·.2) = [assign (.Tuple tgs kk p3) X.env] := by rfl) :
    SS X B W (.Assign [.Tuple tgs kk p3] (.Subscript (.Name nm p2) a p4) pos) (sAsg (e1 (dicC kvs) ma) (Cn.gTup m gs)) := by
  obtain ⟨es, n, D0⟩ := D.dict
  refine PS.imp (ps_asg (pe_ix (ix_kd D0) (pe_gref hg hm hd) ha hs) (pg_tup hc hgs hn hst) hsw hw h1) fun DD σ H h => ?_
  have e : sAsg (e1 (dicC kvs) ma) (Cn.gTup m gs) = fun s h => rBind (ma s h) s fun x h1 => rBind (dicC kvs x h1) s fun y h2 => match Cn.gTup m gs y s h2 with
      | some (s1, h3) => .nx s1 h3
      | none => .bad := by
    funext s h
    unfold sAsg Cn.e1
    cases ma s h <;> rfl
  rw [e] at h
  refine tS_bind (rep := rV X.K B) h fun ρ1 h1 s x v H1 R1 S1 r1 p1 => ?_
  cases x with
  | str z =>
    have p2 : _ := p1
    unfold dicC at p2
    simp only at p2
    cases ek : keyAt kvs z with
    | none => rw [ek] at p2; exact p2.elim
    | some vs =>
      rw [ek] at p2
      obtain ⟨b, us, e1, e2, e3⟩ := D.at_ z vs ek
      have ev := r1.1
      subst ev
      have p3 : _ := p2
      simp only [rBind, Cn.gTup] at p3
      by_cases hl : vs.length = m
      · rw [if_pos hl] at p3
        cases q : gs vs s h1 with
        | none => rw [q] at p3; exact p3.elim
        | some pr =>
          obtain ⟨s2, h2⟩ := pr
          rw [q] at p3
          have hr : RepVs X.K B.sc ρ1 H1 vs us := litVs_rep e3
          exact ⟨_, _, .ref b, rfl, rfl, e1, rfl, b, us, rfl, e2 H1, by rw [hr.len]; exact hl, ρ1, h1, s, vs, R1, S1, hr, s2, h2, q, fun ρ' H' σ' a b R' S' _ => p3 ρ' H' σ' a b R' S'⟩
      · rw [if_neg hl] at p3; exact p3.elim
  | _ => exact p1.elim
theorem tX_kin {K : PySem.W.Frag} {w : World} {kvs : List (List Nat × List CV)} {neg : Bool} {σ : L2.St} {H : Hp} {Q : VK} (D : DicOk K w d kvs) (h : tX K B (rV K B) W (e1 (kinC neg kvs) ma) σ H Q) :
    tX K B (rV K B) W ma σ H fun x H1 => ∃ (z : Str) (r : Option Value), x = .str z ∧ V.ref d = V.ref d ∧ PySem.W.nsIn K d z = some r ∧ Q (.bl (cond neg (!r.isSome) r.isSome)) H1 := by
  refine tX_bind (rep := rV K B) (f := fun _ => kinC neg kvs) h fun ρ1 h1 s x v H1 R1 S1 r1 p1 => ?_
  unfold kinC at p1
  split at p1
  · next z =>
    have ev := r1.1
    subst ev
    cases ek : keyAt kvs z with
    | none =>
      rw [ek] at p1
      exact ⟨_, none, rfl, rfl, D.off z ek, p1.ok R1 rfl⟩
    | some vs =>
      rw [ek] at p1
      obtain ⟨b, us, e1, e2, e3⟩ := D.at_ z vs ek
      exact ⟨_, some (.ref b), rfl, rfl, e1, p1.ok R1 rfl⟩
  · exact p1.elim
variable {nm : Str} {kvs : List (List Nat × List CV)}
theorem se_kinC (hg : Gl X nm) (hm : X.mg nm = some (.ref d)) (D : DicOk X.K X.w d kvs) (ha : SE X B W a ma) (hd : (nm == ("__debug__" : Str)) = false := by decide +kernel) : SE X B W (.Compare a [.In] [.Name nm p2] pos) (e1 (kinC false kvs) ma) := by
  obtain ⟨es, n, D0⟩ := D.dict
  exact PE.imp (pe_cmpR (op_in_kd D0) ha (pe_gref hg hm hd) rfl) fun σ H Q h => tX_kin (neg := false) D h
theorem se_nkinC (hg : Gl X nm) (hm : X.mg nm = some (.ref d)) (D : DicOk X.K X.w d kvs) (ha : SE X B W a ma) (hd : (nm == ("__debug__" : Str)) = false := by decide +kernel) : SE X B W (.Compare a [.NotIn] [.Name nm p2] pos) (e1 (kinC true kvs) ma) := by
  obtain ⟨es, n, D0⟩ := D.dict
  exact PE.imp (pe_cmpR (op_notIn_kd D0) ha (pe_gref hg hm hd) rfl) fun σ H Q h => tX_kin (neg := true) D h
theorem st_kinC (hg : Gl X nm) (hm : X.mg nm = some (.ref d)) (D : DicOk X.K X.w d kvs) (ha : SE X B W a ma) (hd : (nm == ("__debug__" : Str)) = false := by decide +kernel) : ST X B W (.Compare a [.In] [.Name nm p2] pos) (tV (e1 (kinC false kvs) ma)) := by
  obtain ⟨es, n, D0⟩ := D.dict
  exact PT.imp (pt_cmpR (op_in_kd D0) ha (pe_gref hg hm hd) rfl) fun σ H Q h => tX_kin (neg := false) (Q := fun x H' => ∃ k, x = .bl k ∧ Q k H') D (tX_tV h)
theorem st_nkinC (hg : Gl X nm) (hm : X.mg nm = some (.ref d)) (D : DicOk X.K X.w d kvs) (ha : SE X B W a ma) (hd : (nm == ("__debug__" : Str)) = false := by decide +kernel) : ST X B W (.Compare a [.NotIn] [.Name nm p2] pos) (tV (e1 (kinC true kvs) ma)) := by
  obtain ⟨es, n, D0⟩ := D.dict
  exact PT.imp (pt_cmpR (op_notIn_kd D0) ha (pe_gref hg hm hd) rfl) fun σ H Q h => tX_kin (neg := true) (Q := fun x H' => ∃ k, x = .bl k ∧ Q k H') D (tX_tV h)
end
def dicOf (kvs : List (List Nat × List CV)) : List (Str × List V) := kvs.map fun q => (⟨q.1.toArray⟩, (litVs q.2).getD [])
theorem Cs2.xf {C : Cs2} {K : PySem.W.Frag} {w : World} (c : C.says w K) (i : Nat) {f : PySem.W.Frag → Bool} (e : C.xs[i]? = some f) : f K = true := List.all_eq_true.mp (Bool.and_eq_true_iff.mp c.1).1 _ (List.mem_of_getElem? e)
theorem Cs2.tup {C : Cs2} {K : PySem.W.Frag} {w : World} (c : C.says w K) (i : Nat) {n : Str} {vs : List V} (e : C.tups[i]? = some (n, vs)) : He.Fa.ok K (.glo n) = true ∧ tupAt K (He.ga K n) vs = true :=
  Cs.tup (C := ⟨C.tups⟩) (Bool.and_eq_true_iff.mp (Bool.and_eq_true_iff.mp c.1).2).1 i e
theorem Cs2.glo {C : Cs2} {K : PySem.W.Frag} {w : World} (c : C.says w K) (i : Nat) {n : Str} {ds : List (Str × List V)} (e : C.dics[i]? = some (n, ds)) : He.Fa.ok K (.glo n) = true :=
  (Bool.and_eq_true_iff.mp (List.all_eq_true.mp (Bool.and_eq_true_iff.mp (Bool.and_eq_true_iff.mp c.1).2).2 _ (List.mem_of_getElem? e))).1
theorem Cs2.dic {C : Cs2} {K : PySem.W.Frag} {w : World} (c : C.says w K) (i : Nat) {n : Str} {kvs : List (List Nat × List CV)} (e : C.dics[i]? = some (n, dicOf kvs)) (l : (kvs.all fun q => (litVs q.2).isSome) = true) : DicOk K w (ga K n) kvs := by
  have v := (Bool.and_eq_true_iff.mp (List.all_eq_true.mp (Bool.and_eq_true_iff.mp (Bool.and_eq_true_iff.mp c.1).2).2 _ (List.mem_of_getElem? e))).2
  have o : dicW K (ga K n) = some (keysIn w.params ((dicOf kvs).map Prod.fst)) := by
    have e1 : (C.dics.map fun d => dicW K (ga K d.1))[i]? = (C.dics.map fun d => some (keysIn w.params (d.2.map Prod.fst)))[i]? := congrArg (fun z : DicT => z[i]?) c.2
    rw [List.getElem?_map, List.getElem?_map, e] at e1
    exact Option.some.inj e1
  obtain ⟨es, m, D⟩ := dicW_ok o
  refine ⟨⟨es, m, D⟩, fun z vs hz => ?_, fun z hz => ?_⟩
  · unfold keyAt at hz
    obtain ⟨q, hq, rfl⟩ := Option.map_eq_some_iff.mp hz
    have mq := List.mem_of_find?_eq_some hq
    have eq : q.1 = z := by simpa using List.find?_some hq
    have l1 := List.all_eq_true.mp l q mq
    obtain ⟨us, hu⟩ := Option.isSome_iff_exists.mp l1
    have v1 := List.all_eq_true.mp v (⟨q.1.toArray⟩, (litVs q.2).getD []) (List.mem_map_of_mem (f := fun q : List Nat × List CV => ((⟨q.1.toArray⟩ : Str), (litVs q.2).getD [])) mq)
    simp only [hu, Option.getD_some] at v1
    obtain ⟨b, k1, k2⟩ := dvalB_ok v1
    exact ⟨b, us, eq ▸ k1, k2, hu⟩
  · refine nsIn_none D (dicW_keys o D) fun mz => ?_
    unfold dicOf at mz
    rw [List.map_map] at mz
    obtain ⟨q, mq, eq⟩ := List.mem_map.mp mz
    have eq2 : q.1 = z := str_inj _ _ eq
    unfold keyAt at hz
    rw [Option.map_eq_none_iff, List.find?_eq_none] at hz
    exact hz q mq (by simp [eq2])
end Cn
set_option Elab.async false
set_option maxRecDepth 100000
set_option linter.all false
set_option maxHeartbeats 4000000
namespace Cn
open PySem PySem.Spec PyProof.Rows L2 He
theorem oexB_ok {K : PySem.W.Frag} {C : Addr} (e : oexB K C = true) : OexC K C := by
  unfold oexB at e
  obtain ⟨e0, e⟩ := Bool.and_eq_true_iff.mp e
  obtain ⟨e1, e⟩ := Bool.and_eq_true_iff.mp e
  obtain ⟨e2, e⟩ := Bool.and_eq_true_iff.mp e
  obtain ⟨e3, e4⟩ := Bool.and_eq_true_iff.mp e
  refine ⟨?_, of_decide_eq_true e1, of_decide_eq_true e2, of_decide_eq_true e3, e4⟩
  split at e0
  · rename_i dd cd sl ho
    split at e0
    · rename_i C' bm k0 k1 k2 k3 n k5 hm hs
      simp only [Bool.and_eq_true, beq_iff_eq, Bool.not_eq_true'] at e0
      obtain ⟨⟨⟨⟨rfl, rfl⟩, hdel⟩, hd⟩, ht⟩ := e0
      obtain ⟨nm, bs, mro, ns, qn, hd', sn, sub, ab, col, del⟩ := cd
      dsimp only at hm hdel hd
      subst hm hdel hd
      have hsl : sl = #[k0, k1, k2, k3, some (.builtin "ValueError.__new__"), k5] := by
        obtain ⟨l⟩ := sl
        simp only at hs
        rw [hs]
      subst hsl
      exact ⟨nm, qn, ns, bs, bm, sn, sub, ab, col, dd, k0, k1, k2, k3, k5, ho, ht⟩
    · cases e0
  · cases e0
section
variable {X : Cx} {C : Addr} {o e : Expr} {es : List Expr} {to te : TE} {ta : TA} {f x : Str} {p p' p1 p2 pos : Pos}
theorem pe_teinit {pl : Sem Bool} (T0 : tinB X.K C = true) (hg : Gl X x) (hm : X.mg x = some (.ref C)) (ha : PA X (e :: es) ta) (hd : (x == ("__debug__" : Str)) = false := by decide +kernel)
    (hc : eval (.Call (.Attribute (.Name x p1) "__init__" p2) (e :: es) [] pos) X.env = (do
      let ov ← eval (.Name x p1) X.env
      standAt p2.atName
      let (f, first) ← holding [ov] (getMethod ov "__init__" pl)
      callWith pos f first (backTo pos (starEach (e :: es) X.env)) (backToKw pos (keywordEach [] X.env))) := by rfl)
    (he : starEach (e :: es) X.env = (false, eval e X.env) :: starEach es X.env := by rfl) (hpl : (backTo pos (starEach es X.env)).any (·.1) = false := by rfl) :
    PE X (.Call (.Attribute (.Name x p1) "__init__" p2) (e :: es) [] pos) (tVeI X.K ta) := by
  obtain ⟨h1, h2⟩ := Bool.and_eq_true_iff.mp T0
  obtain ⟨h2, h3⟩ := Bool.and_eq_true_iff.mp h2
  have h1 := of_decide_eq_true h1
  have h3 : PySem.W.findCls X.K (.ref C) (.type "type") "__init__" = some (.val (.builtin "ValueError.__init__")) := by
    split at h3
    · next i q => rw [q, eq_of_beq h3]
    · cases h3
  refine ⟨fun pins s σ H Q I h => ?_⟩
  refine PySem.W.methodCall_KW (ld_glob I hg hm ?_ hd) hc
  refine PySem.W.method_cls I.kIn h1 (PySem.W.cls_value I.kIn h2 h3 (by decide +kernel) ?_)
  show wpAny _ _ (callWith pos (Value.builtin "ValueError.__init__") [] (backTo pos (starEach (e :: es) X.env)) []) _ _ _
  refine PyProof.Rows.callWith_method1 (thn (ha.run pos pins _ σ H _ (I.tok _) h) fun us s1 ⟨vs, H1, I1, r1, a, C, ws, ev, hl, T, ea, q⟩ => ?_) he hpl
  subst ev
  cases r1 with
  | @cons _ u0 _ ur ra rw' =>
    obtain rfl : u0 = Value.ref a := ra
    have hlen : ur.length ≤ sizeLine := by
      rw [← Paired.length rw', sizeLine_eq]
      omega
    exact oinit_ok T I1 ea hlen fun s' J => ⟨.non, H1, J, rfl, q⟩
end
def spXi (C : Addr) (f : Str) : Sp := fun vs H Q _ => ∃ (a : Addr) (x : V), vs = [.ref a, x] ∧ H a = some (exo a C none) ∧ ∀ dx, H dx = none → dx ≠ a → Q .non (upd (upd H dx (exd dx [(f, x)])) a (exo a C (some dx)))
section
variable {P : Program} {w : World} {K : PySem.W.Frag} {mg : Str → Option Value} {base : Heap} {qual x0 : Str} {params : Arguments} {scope : Scope} {dvs : List V} {kws : List (Str × V)} {fa C C0 : Addr} {fd : FuncData} {k j : Nat} {f x y z : Str} {p1 p2 p3 p4 p5 p6 p7 p8 p9 pos pos' : Pos} {ml : Nat}
theorem xinit_ok {N : List Str} {st1 st2 : Stmt} (T : OexC K C) (hno : PySem.W.findIn K (.ref C) f = some none) (F : FunD K x0 qual params [st1, st2] scope dvs kws fa fd) (S : FnScope N N scope) (eN : N.length = 2)
    (hb : ∀ (cdv : Value) (A : Around) (outer : List Env) (s : Shared) (H : Hp) (E : XK), PS (cxOf (L2.CX P w) P w K mg base N qual scope fa cdv A outer s H E) st1 (tDrop (tVeI K (tCons (tVar 0) (tCons (tC (.str z)) tNil)))) ∧
      PS (cxOf (L2.CX P w) P w K mg base N qual scope fa cdv A outer s H E) st2 (tOst K f (tVar 0) (tVar 1))) : FnOk P w K mg base (L2.CX P w) (k + 1) fa fd N (spXi C f) := by
  refine F.ok S (fun vs H Q E ⟨a, v, e, _⟩ => by rw [e, eN]; rfl) fun cdv A outer s H vs Q E hr h => ⟨_, pss_cons (hb cdv A outer s H E).1 (pss_one (hb cdv A outer s H E).2), ?_⟩
  obtain ⟨a, v, rfl, ea, q⟩ := h
  refine ⟨.ref a, rfl, a, C, [.str z], rfl, by simp, T, ea, ?_⟩
  refine ⟨v, rfl, .ref a, rfl, a, C, rfl, T, hno, .inl ⟨ea, fun dx hd ne => q dx hd ne⟩⟩
end
section
variable {X : Cx} {B : Bs} {W : WX} {e : Expr} {me : ME CV} {pos p : Pos} {k kx c : Nat} {C fI : Addr} {fd : FuncData} {ps : List Str} {f x : Str}
theorem ss_raise (eC : B.ca c = C) (ef : B.an[k]? = some f) (T : OexC X.K C) (iC : PySem.W.findIn X.K (.ref C) "__init__" = some (some (.ref fI))) (tI : PySem.W.typeIn X.K (.ref fI) = some (.type "function"))
    (F : FnOk X.prog X.w X.K X.mg X.base (L2.CX X.prog X.w) kx fI fd ps (spXi C f)) (hb : Binds X.K fd ps []) (room : Room (kx + 1) X.A) (hc : X.calm = true) (tk : Takes X W) (hg : Gl X x) (hm : X.mg x = some (.ref C)) (ha : SE X B W e me)
    (hdb : (x == ("__debug__" : Str)) = false := by decide +kernel) (he : starEach [e] X.env = (false, eval e X.env) :: starEach [] X.env := by rfl) (hpl : (backTo pos (starEach [] X.env)).any (·.1) = false := by rfl) {pos' : Pos} :
    SS X B W (.Raise (some (.Call (.Name x p) [e] [] pos)) none pos') (sRaiseX c k me) := by
  have ha1 : SA X B W [e] (aCons me aNil) := sa_cons ha sa_nil (hs := he)
  have bi : Binds X.K fd ps ([] : List Value) := hb
  refine PS.imp (ps_raise hc tk (pmk_oex (CX := L2.CX X.prog X.w) (dvs := []) T iC tI F room bi .nil (passes_call (E := fun _ _ _ => False) tk fun _ _ _ _ z => z.elim) hg hm ha1 hdb he hpl)) fun D σ H h => ?_
  subst eC
  obtain ⟨ρ, h0, s, R, S, q⟩ := h
  refine ⟨ρ, h0, s, R, S, ?_⟩
  have ea : aCons me aNil s h0 = (me s h0).bind fun v h1 => .ok [v] h1 := by
    unfold aCons; rfl
  rw [ea]
  unfold sRaiseX at q
  cases em : me s h0 with
  | bad => rw [em] at q; exact q.elim
  | ex c2 d h1 =>
    rw [em] at q
    exact fun ρ' H' dx a b R' x' => q ρ' H' σ dx a b R' (S.per a b) x'
  | ok v h1 =>
    rw [em] at q
    rintro ρ' H' vs a b R' ⟨u, us, rfl, ru, rus⟩
    obtain rfl : us = [] := rus
    refine ⟨by simp, fun y hy => ⟨y, u, rfl, upd_same, fun dx hdx ne => ⟨rfl, dx, [(f, u)], upd_same, ?_, ?_, ?_⟩⟩⟩
    · rw [upd_ne ne, upd_same]
    · rw [upd_ne ne] at hdx; exact hdx
    · have hd1 : H' dx = none := by rw [upd_ne ne] at hdx; exact hdx
      have eH : upd (del (upd (upd (upd H' y (exo y (B.ca c) none)) dx (exd dx [(f, u)])) y (exo y (B.ca c) (some dx))) y) dx (HO.xd [(f, u)]) = upd H' dx (.xd [(f, u)]) := by
        funext b
        by_cases h1 : b = dx
        · subst h1; rw [upd_same, upd_same]
        · rw [upd_ne h1, upd_ne h1]
          by_cases h2 : b = y
          · subst h2; rw [del_same, hy]
          · rw [del_ne h2, upd_ne h2, upd_ne h1, upd_ne h2]
      rw [eH]
      have P1 : Per X.K H' (upd H' dx (.xd [(f, u)])) := .new hd1
      exact q ρ' _ σ (some dx) a (b.trans P1) (R'.aside hd1) (S.per a (b.trans P1)) (.inr ⟨by simp, dx, [(f, u)], rfl, upd_same, f, u, [], rfl, ef, RepV.per (List.prefix_refl _) P1 _ _ ru, rfl⟩)
end
end Cn
set_option Elab.async false
set_option maxRecDepth 100000
set_option linter.all false
set_option maxHeartbeats 4000000
namespace Cn
open PySem PySem.Spec PyProof.Rows L2 He
theorem mergeK_app : ∀ {more acc : List (Key × V)}, (∀ p ∈ more, valV acc p.1 = none) → (more.map (·.1)).Nodup → mergeK acc more = acc ++ more
  | [], acc, _, _ => by simp [mergeK]
  | p :: r, acc, h, nd => by
    have nd := List.nodup_cons.mp (show (p.1 :: r.map (·.1)).Nodup from nd)
    have e : mergeK acc (p :: r) = mergeK (putK acc p.1 p.2) r := rfl
    rw [e, putK_new p.2 (h p (by simp)), mergeK_app (fun q hq => ?_) nd.2]
    · simp
    · rw [valV_snoc _ _ _ _ (h p (by simp)), if_neg, h q (List.mem_cons_of_mem _ hq)]
      exact fun z => nd.1 (by rw [← z]; exact List.mem_map_of_mem hq)
abbrev sT (l : List Nat) : Str := ⟨l.toArray⟩
section
variable {X : Cx} {B : Bs} {W : WX} {pos : Pos}
theorem pps_str {ks : List (Option Expr)} {vs : List Expr} {z y : Str} {j1 j2 : Nat} {p1 p2 : Pos} {trs : List (TE × TE)} (l m : List Nat) (hr : PPs X pos ks vs trs) (h : (decide (z = sT l) && decide (y = sT m)) = true := by decide +kernel) :
    PPs X pos (some (.Constant (.str z) j1 p1) :: ks) (.Constant (.str y) j2 p2 :: vs) ((tC (.str (sT l)), tC (.str (sT m))) :: trs) := by
  obtain ⟨h1, h2⟩ := Bool.and_eq_true_iff.mp h
  have h1 := of_decide_eq_true h1
  have h2 := of_decide_eq_true h2
  subst h1 h2
  exact pps_cons pe_str pe_str hr
abbrev trS (kvs : List (List Nat × List Nat)) : List (TE × TE) := kvs.map fun q => (tC (.str (sT q.1)), tC (.str (sT q.2)))
theorem tPairs_S {σ : L2.St} : ∀ {kvs : List (List Nat × List Nat)} {H : Hp} {Q : List (V × V) → Hp → Prop}, Q (kvs.map fun q => (V.str (sT q.1), V.str (sT q.2))) H → tPairs (trS kvs) σ H Q
  | [], H, Q, h => h
  | q :: r, H, Q, h => tPairs_S (kvs := r) (Q := fun ps H3 => Q ((V.str (sT q.1), V.str (sT q.2)) :: ps) H3) h
theorem repK_S {K : PySem.W.Frag} {sc : List Int} {ρ : List Addr} {H : Hp} : ∀ {kvs : List (List Nat × List Nat)}, (kvs.all fun q => (q.1.all fun c => decide (c < 1114112)) && q.2.all fun c => decide (c < 1114112)) = true → RepKs K sc ρ H keyC (kvs.map fun q => (.inr q.1, .str q.2)) (kvs.map fun q => (.inr (sT q.1), .str (sT q.2)))
  | [], _ => rfl
  | q :: r, o => by
    have o1 := List.all_eq_true.mp o q (by simp)
    obtain ⟨_, o2⟩ := Bool.and_eq_true_iff.mp o1
    exact ⟨_, _, rfl, ⟨rfl, fun c hc => of_decide_eq_true (List.all_eq_true.mp o2 c hc)⟩, repK_S (kvs := r) (List.all_eq_true.mpr fun x hx => List.all_eq_true.mp o x (List.mem_cons_of_mem _ hx))⟩
theorem se_dispC {keys : List (Option Expr)} {values : List Expr} (kvs : List (List Nat × List Nat)) (h : PPs X pos keys values (trS kvs)) (ok : (decide (kvs.length ≤ 15) && decide ((kvs.map fun q => sT q.1).Nodup) && kvs.all fun q => (q.1.all fun c => decide (c < 1114112)) && q.2.all fun c => decide (c < 1114112)) = true := by decide +kernel)
    (hall : keys.all (·.isSome) = true := by rfl) (hl : keys.length = values.length := by rfl) (h0 : keys ≠ [] := by exact List.cons_ne_nil _ _) (h15 : keys.length ≤ 15 := by decide) :
    SE X B W (.Dict keys values pos) (eNewD (.dK (kvs.map fun q => (.inr q.1, .str q.2)))) := by
  obtain ⟨ok, o3⟩ := Bool.and_eq_true_iff.mp ok
  obtain ⟨o1, o2⟩ := Bool.and_eq_true_iff.mp ok
  have o1 := of_decide_eq_true o1
  have o2 := of_decide_eq_true o2
  refine PE.imp (pe_disp h hall hl h0 h15) fun σ H Q hh => ?_
  obtain ⟨ρ, h0, s, R, S, q⟩ := hh
  intro p hp
  refine tPairs_S ?_
  refine ⟨upd_same, kvs.map fun q => (.inr (sT q.1), .str (sT q.2)), by rw [List.map_map]; rfl, by rw [List.length_map]; exact o1, ?_⟩
  have e1 : mergeK [] (kvs.map fun q => ((.inr (sT q.1), .str (sT q.2)) : Key × V)) = kvs.map fun q => (.inr (sT q.1), .str (sT q.2)) := by
    rw [mergeK_app (fun _ _ => rfl)]
    · rfl
    · rw [List.map_map]
      unfold List.Nodup at o2 ⊢
      rw [List.pairwise_map] at o2 ⊢
      exact o2.imp fun h z => h (Sum.inr.inj z)
  have e2 : ∀ (u v : HO), upd (upd H p u) p v = upd H p v := fun u v => by
    funext b
    by_cases hb : b = p
    · subst hb; rw [upd_same, upd_same]
    · rw [upd_ne hb, upd_ne hb, upd_ne hb]
  rw [e1, e2]
  refine Post.alloc (o := .dK (kvs.map fun q => (.inr q.1, .str q.2))) R hp ?_ q
  exact ⟨_, rfl, repK_S o3⟩
end
end Cn
set_option Elab.async false
set_option maxRecDepth 100000
set_option linter.all false
set_option maxHeartbeats 2000000
namespace Cn
open PySem PySem.Spec PyProof.Rows L2 He
def clsK : Obj → Bool
  | ⟨_, _, .cls _, _⟩ => true
  | _ => false
def dicK : Obj → Bool
  | ⟨_, _, .dict _ _, _⟩ => true
  | _ => false
def atK (p : Obj → Bool) : Option Obj → Bool
  | some o => p o
  | none => false
def valsK : Option Obj → List Addr
  | some ⟨_, _, .dict es _, _⟩ => es.toList.flatMap fun e => refV e.val
  | _ => []
def codeK : Option Obj → List Addr
  | some ⟨_, _, .func fd, _⟩ => refV fd.code
  | _ => []
def asN (g : Addr → Option Obj) (n : Nat) : List Addr := ((List.range n).filter fun a => atK clsK (g a)) ++ (((List.range n).filter fun a => atK dicK (g a)) ++
  ((((List.range n).filter fun a => atK dicK (g a)).flatMap fun a => valsK (g a)) ++ (((((List.range n).filter fun a => atK dicK (g a)).flatMap fun a => valsK (g a)).flatMap fun a => codeK (g a)) ++ List.range n)))
def hookN (n : Nat) (fa : List Fa) (fn : List DefD) (C : Cs2) : PySem.W.Hook where
  α := AlD × Bool × DicT
  obs := fun s => (obsD fa fn (frG s.heap.get? (asN s.heap.get? n)), C.ok (frG s.heap.get? (asN s.heap.get? n)), C.obs (frG s.heap.get? (asN s.heap.get? n)))
  val := fun w => (valD fn, true, C.val w)
  says := fun w h => ∃ K, K.In h ∧ SaysD fa fn K ∧ C.says w K
  of := fun w s e => by
    have e1 := congrArg Prod.fst e
    have e2 := congrArg Prod.snd e
    have e3 := congrArg Prod.fst e2
    have e4 := congrArg Prod.snd e2
    exact ⟨_, frG_in, e1, e3, e4⟩
  keeps := fun w h h' ⟨K, k1, k2, k3⟩ hk => ⟨K, fun a o e => hk a o (k1 a o e), k2, k3⟩
def obN (n : Nat) (fa : List Fa) (fn : List DefD) (C : Cs2) (g : Addr → Option Obj) : AlD × Bool × DicT := (obsD fa fn (frG g (asN g n)), C.ok (frG g (asN g n)), C.obs (frG g (asN g n)))
theorem obN_eq {n : Nat} {fa : List Fa} {fn : List DefD} {C : Cs2} {g : Addr → Option Obj} {s : Shared} (e : ∀ a, g a = s.heap.get? a) : obN n fa fn C g = (hookN n fa fn C).obs s := by
  have : g = s.heap.get? := funext e
  subst this
  rfl
end Cn
set_option Elab.async false
set_option maxRecDepth 100000
set_option linter.all false
set_option maxHeartbeats 4000000
namespace PySem.W
open PySem PySem.Spec PySem.Calls PyProof.Rows
section
variable {prog : Program} {w : World} {A : Around} {E : Value → Shared → Prop} {s : Shared} {K : Frag} {x D : Addr} {ox : Obj} {od : Option Obj}
theorem findObj_dataX {C : Addr} {name : Str} {a g : Value} (hc : (clsIn K C).isSome = true) (ha : findIn K (.ref C) name = some (some a)) (hg : specialIn K a "__get__" = some (some g)) (ht : takesIn K a = some true) : findObj K C od name = some (.bind g a) := by
  obtain ⟨cd, hc⟩ := Option.isSome_iff_exists.mp hc
  unfold findObj
  rw [hc, Option.bind_some, ha, Option.bind_some]
  simp [hg, ht]
theorem kin_classX {Q : Option Value → Shared → Prop} (T : L2.ExcC K D) (X : K.In s.heap) (I : InstAt s.heap x ox D od) (h : Q (some (.ref D)) { s with toks := s.toks + 1 }) : wpAny (model prog w) A (getAttr? (.ref x) "__class__") Q E s := by
  have hf : findObj K D od "__class__" = some (.bind (.builtin "getset_descriptor.__get__") (.builtin "object.__class__")) := findObj_dataX (by obtain ⟨cd, hc, _⟩ := any_some T.hd; rw [hc]; rfl) T.ha T.hn T.ht
  obtain ⟨hp, g, d, t, os⟩ := s
  have L0 := I.type (M := model prog w)
  have L1 := looks_findIn (M := model prog w) X T.hg
  have L2 := looks_findIn (M := model prog w) X T.hk
  have L3 := looks_find (M := model prog w) X I hf
  have sub : Looks (model prog w) hp (isInstance (.ref x) (.type "BaseException")) true := L0.andThen (looks_subIn X T.hs)
  have hx0 : (false && onTheHeap (Value.builtin "BaseException.__getattribute__")) = false := rfl
  have hx2 : (Value.builtin "BaseException.__getattribute__" == Value.builtin "object.__getattribute__") = false := by decide +kernel
  have hx1 : (onTheHeap (Value.ref D) && Value.builtin "BaseException.__getattribute__" == Value.builtin "object.__getattribute__") = false := by rw [hx2]; rfl
  unfold getAttr? getAttrBy? getAttrBy
  refine wpAny_bind (wpAny_mkText (wpAny_bind (wpAny_attempt (wpAny_holding (wpAny_bind (L0.at (wpAny_bind (L1.at ?_))))))))
  show wpAny _ _ (if (onTheHeap (Value.ref D) && Value.builtin "BaseException.__getattribute__" == Value.builtin "object.__getattribute__") = true then _ else _) _ _ _
  rw [hx1, if_neg Bool.false_ne_true]
  unfold getAttrByItsOwn hookBefore
  refine wpAny_bind ?_
  rw [if_pos (show onTheHeap (Value.ref D) = true from rfl)]
  refine L2.at ?_
  refine wpAny_bind (wpAny_attempt (wpAny_holding ?_))
  unfold callGetattribute
  rw [hx0, if_neg Bool.false_ne_true]
  unfold boundAndCalled
  rw [PySem.F.excAttr_ValueError.ga.bind (.ref x)]
  refine wpAny_bind (wpAny_pure ?_)
  show wpAny _ _ (call (.builtin "BaseException.__getattribute__") [.ref x, .str "__class__" t]) _ _ _
  refine wpAny_call (codeAny_call_builtin PySem.F.excAttr_ValueError.ga.plain PySem.F.entry_bexc_ga ?_)
  refine @check_slot (model prog w) _ _ ⟨hp, g, d, t + 1, os⟩ "BaseException.__getattribute__" "BaseException" "__getattribute__" (.ref x) [.str "__class__" t] [] _ (by decide +kernel) (by decide +kernel) sub (PySem.F.args_bexc_ga (.ref x) (.str "__class__" t)) ?_
  unfold Builtin.«object.__getattribute__»
  refine wpAny_bind (wpAny_of_eq (a := ((Value.ref x : Value), [Value.str "__class__" t])) (by first | rfl | (simp only [slotArgs]; rfl)) ?_)
  refine wpAny_bind (wpAny_pure (wpAny_bind (L0.at (wpAny_bind (L3.at ?_)))))
  show wpAny _ _ (holding [Value.builtin "object.__class__"] (call (.builtin "getset_descriptor.__get__") [.builtin "object.__class__", .ref x, .ref D]) >>= ret) _ _ _
  refine wpAny_bind (wpAny_holding (wpAny_call (class_get (s := ⟨hp, g, d, t + 1, os⟩) (ox := ox) (od := od) X I T.hm ?_)))
  refine wpAny_pure ?_
  show wpAny _ _ (handedOut (.ref D)) _ _ _
  rw [handedOut_of (v := .ref D) rfl]
  first
    | exact wpAny_pure (wpAny_pure h)
    | exact wpAny_pure h
    | exact wpAny_pure (wpAny_bind (wpAny_pure (wpAny_pure h)))
theorem kitx_ownX (T : L2.ExcC K D) : KitX K (.ref x) (.ref D) (fun h => InstAt h x ox D od) where
  ty := fun _ _ _ I => I.type
  it := fun _ _ X _ => by
    obtain ⟨cdD, hcD, _⟩ := any_some T.hd
    unfold clsIn at hcD
    split at hcD
    · rename_i c' d' cd' sl' ho
      intro A' Q' E' s' k q
      unfold isType loadHead
      exact wpAny_bind (wpAny_loadPart (k _ _ (X _ _ ho)) (wpAny_pure q))
    · cases hcD
  ne := fun h tp dd its n sl X htp => by
    obtain ⟨cdD, hcD, _⟩ := any_some T.hd
    refine Bool.eq_false_iff.mpr fun q => ?_
    have e : D = tp := Value.ref.inj (beq_iff_eq.mp q)
    subst e
    unfold clsIn at hcD
    split at hcD
    · rename_i c' d' cd' sl' ho
      have z := (X _ _ ho).symm.trans htp
      cases z
    · cases hcD
  ca := fun X I k => kin_classX T X I k
end
end PySem.W
namespace Cn
open PySem PySem.Spec PyProof.Rows L2 He
theorem excB_ok {K : PySem.W.Frag} {D : Addr} (h : excB K D = true) : ExcC K D := by
  obtain ⟨h1, h⟩ := Bool.and_eq_true_iff.mp h
  obtain ⟨h2, h⟩ := Bool.and_eq_true_iff.mp h
  obtain ⟨h3, h⟩ := Bool.and_eq_true_iff.mp h
  obtain ⟨h4, h⟩ := Bool.and_eq_true_iff.mp h
  obtain ⟨h5, h⟩ := Bool.and_eq_true_iff.mp h
  obtain ⟨h6, h⟩ := Bool.and_eq_true_iff.mp h
  obtain ⟨h7, h8⟩ := Bool.and_eq_true_iff.mp h
  exact ⟨of_decide_eq_true h1, of_decide_eq_true h2, of_decide_eq_true h3, h4, of_decide_eq_true h5, of_decide_eq_true h6, of_decide_eq_true h7, of_decide_eq_true h8⟩
theorem call_isX {X : Cx} {a D : Addr} {dx : Option Addr} {oe : Obj} {pn : List (Addr × Obj)} (C : ExcC X.K D) (hz : Zc (.ref D) dx oe) (hf : ∃ vs, oe.data = .fields vs) : CallR (X.suite a ((a, oe) :: pn)) (.builtin "isinstance") (fun xs H Q => (∀ d, dx = some d → ∃ fs, H d = some (.xd fs)) ∧ rIsE X.K D a xs H Q) := by
  intro pins s σ H xs us Q I r h
  obtain ⟨hd, c, cv, b, rfl, hcv, e, q⟩ := h
  cases r with
  | cons rx rr =>
    cases rr with
    | cons rt rr =>
      cases rr
      cases rx
      have ec := hcv _ rt
      subst ec
      obtain ⟨hget, _⟩ := I.pin (a, oe) (List.mem_append.mpr (.inl List.mem_cons_self))
      obtain ⟨vs, hv⟩ := hf
      obtain ⟨od, J⟩ : ∃ od, PySem.W.InstAt s.heap a oe D od := by
        cases dx with
        | none =>
          refine ⟨none, hget, hz.1, by unfold PySem.W.notCls; rw [hv] <;> rfl, by rw [hz.2]; trivial⟩
        | some d =>
          obtain ⟨fs, hd⟩ := hd d rfl
          have hx : ObjOk X.prog X.w H s.heap d (.xd fs) := I.hok d _ hd
          obtain ⟨mA, hns, hr⟩ := hx
          obtain ⟨od, ho, hl⟩ := lookIn_ns hns
          exact ⟨some od, hget, hz.1, by unfold PySem.W.notCls; rw [hv] <;> rfl, by rw [hz.2]; exact ho⟩
      exact PySem.W.kia_one (PySem.W.kitx_ownX C) I.kIn J e (fun z => nomatch z) fun tk => ⟨.bl b, H, I.kept (t' := tk) fun _ _ z => z, rfl, q⟩
theorem RepX.per {K : PySem.W.Frag} {B : Bs} {ρ ρ' : List Addr} {H H' : Hp} {d : List (Nat × CV)} {dx : Option Addr} (p : ρ <+: ρ') (q : Per K H H') (r : RepX K B ρ H d dx) : RepX K B ρ' H' d dx := by
  rcases r with r | ⟨h1, D, fs, h2, h3, h4⟩
  · exact .inl r
  · exact .inr ⟨h1, D, fs, h2, q.xds _ _ h3, h4.per p q⟩
structure SuX (K : PySem.W.Frag) (B : Bs) (i : Nat) (a : Addr) (cls : Value) (dx : Option Addr) (C : Addr) (fs : List (Nat × CV)) (ρ : List Addr) (H : Hp) (σ : L2.St) : Prop where
  cl : cls = .ref C
  rx : RepX K B ρ H fs dx
  sl : σ[i]? = some (some (.ref a))
def tXE {α β : Type} (K : PySem.W.Frag) (B : Bs) (rep : RP α β) (W : WX) (i : Nat) (a : Addr) (cls : Value) (dx : Option Addr) (C : Addr) (m : List (Nat × CV) → ME α) : L2.St → Hp → (β → Hp → Prop) → Prop := fun σ H Q =>
  ∃ fs ρ h s, SuX K B i a cls dx C fs ρ H σ ∧ Rel K B ρ H h ∧ RepS K B ρ H s σ ∧ Post K B rep (fun c d H' => W c d σ H') (m fs s h) ρ H Q
def tSE (K : PySem.W.Frag) (B : Bs) (W : WX) (i : Nat) (a : Addr) (cls : Value) (dx : Option Addr) (C : Addr) (m : List (Nat × CV) → MS) : TS := fun D σ H =>
  ∃ fs ρ h s, SuX K B i a cls dx C fs ρ H σ ∧ Rel K B ρ H h ∧ RepS K B ρ H s σ ∧ SOk K B W (m fs s h) ρ H D
section
variable {X : Cx} {B : Bs} {W : WX} {i : Nat} {a C : Addr} {cls : Value} {dx : Option Addr} {K : PySem.W.Frag}
theorem tXE_bind {α β γ δ : Type} {rep : RP α β} {rep2 : RP γ δ} {m : List (Nat × CV) → ME α} {f : List (Nat × CV) → CS → α → CH → Res γ} {σ : L2.St} {H : Hp} {Q : δ → Hp → Prop} {R : β → Hp → Prop}
    (h : tXE K B rep2 W i a cls dx C (fun fs s h => (m fs s h).bind (f fs s)) σ H Q)
    (k : ∀ fs ρ1 h1 s x v H1, SuX K B i a cls dx C fs ρ1 H1 σ → Rel K B ρ1 H1 h1 → RepS K B ρ1 H1 s σ → rep ρ1 H1 x v → Post K B rep2 (fun c d H' => W c d σ H') (f fs s x h1) ρ1 H1 Q → R v H1) : tXE K B rep W i a cls dx C m σ H R := by
  obtain ⟨fs, ρ, h0, s, U, R0, S, p⟩ := h
  refine ⟨fs, ρ, h0, s, U, R0, S, Post.imp (fun v H1 hh => ?_) (Post.bind rep p)⟩
  obtain ⟨x, h1, ρ1, M, p1⟩ := hh
  exact k fs ρ1 h1 s x v H1 ⟨U.cl, U.rx.per M.pre M.per, U.sl⟩ M.rel (S.per M.pre M.per) M.rp p1
theorem tXE_drop {α β : Type} {rep : RP α β} {m : ME α} {σ : L2.St} {H : Hp} {Q : β → Hp → Prop} (h : tXE K B rep W i a cls dx C (fun _ => m) σ H Q) : tX K B rep W m σ H Q := by
  obtain ⟨fs, ρ, h0, s, U, R0, S, p⟩ := h
  exact ⟨ρ, h0, s, R0, S, p⟩
end
section
variable {X : Cx} {B : Bs} {W : WX} {i : Nat} {a C : Addr} {cls : Value} {dx : Option Addr} {pn : List (Addr × Obj)} {oe : Obj} {c e b : Expr} {rest : List Expr} {pos : Pos} {sts sts' : List Stmt} {st : Stmt} {ma mb : ME CV} {ta tb : List (Nat × CV) → ME Bool} {m m' : MS} {me : List (Nat × CV) → MS}
abbrev STE (X : Cx) (B : Bs) (W : WX) (i : Nat) (a : Addr) (cls : Value) (dx : Option Addr) (C : Addr) (e : Expr) (m : List (Nat × CV) → ME Bool) : Prop := PT X e (tXE X.K B (rEqual Bool) W i a cls dx C m)
abbrev SWE (X : Cx) (B : Bs) (W : WX) (i : Nat) (a : Addr) (cls : Value) (dx : Option Addr) (C : Addr) (e : Expr) (m : List (Nat × CV) → ME Bool) : Prop := PW X e (tXE X.K B (rEqual Bool) W i a cls dx C m)
theorem sx_t {t : ME Bool} (h : ST X B W e t) : STE X B W i a cls dx C e (fun _ => t) := PT.imp h fun _ _ _ h => tXE_drop h
theorem sx_w (h : SWE X B W i a cls dx C e ta) : STE X B W i a cls dx C e ta := h.pt
theorem sx_or1 (ha : STE X B W i a cls dx C c ta) : SWE X B W i a cls dx C (.BoolOp .Or [c] pos) ta := pw_or1 ha
theorem sx_or (ha : STE X B W i a cls dx C c ta) (hb : SWE X B W i a cls dx C (.BoolOp .Or (b :: rest) pos) tb) : SWE X B W i a cls dx C (.BoolOp .Or (c :: b :: rest) pos) (fun fs => Cn.tOr (ta fs) (tb fs)) := by
  refine PW.imp (pw_or ha hb) fun σ H Q h => ?_
  refine tXE_bind (rep := rEqual Bool) (f := fun fs s k h1 => if k then .ok true h1 else tb fs s h1) h fun fs ρ1 h1 s k v H1 U R S r p => ?_
  have e : k = v := r
  subst e
  cases k with
  | true => exact Post.ok R rfl p
  | false => exact ⟨fs, ρ1, h1, s, U, R, S, p⟩
theorem sx_not (ha : STE X B W i a cls dx C c ta) : STE X B W i a cls dx C (.UnaryOp .Not c pos) (fun fs => Cn.tNot (ta fs)) := by
  refine PT.imp (pt_not ha) fun σ H Q h => ?_
  refine tXE_bind (rep := rEqual Bool) (f := fun fs s k h1 => .ok (!k) h1) h fun fs ρ1 h1 s k v H1 U R S r p => ?_
  have e : k = v := r
  subst e
  exact Post.ok R rfl p
theorem sx_if (hc : STE X B W i a cls dx C c ta) (ha : SSs X B W sts m) (hb : SSs X B W sts' m') : PS X (.If c sts sts' pos) (tSE X.K B W i a cls dx C (fun fs => sIf (ta fs) m m')) := PS.imp (ps_if hc ha hb) fun D σ H h => by
  obtain ⟨fs, ρ, h0, s, U, R0, S, p⟩ := h
  refine ⟨fs, ρ, h0, s, U, R0, S, Post.imp (fun v H1 hh => ?_) (SOk.bind (rep := rEqual Bool) S (show SOk X.K B W (rBind (ta fs s h0) s fun k h1 => if k then m s h1 else m' s h1) ρ H D from p))⟩
  obtain ⟨k, h1, ρ1, M, p1⟩ := hh
  have e : k = v := M.rp
  subst e
  cases k with
  | true => exact ⟨ρ1, h1, s, M.rel, S.per M.pre M.per, p1⟩
  | false => exact ⟨ρ1, h1, s, M.rel, S.per M.pre M.per, p1⟩
theorem sx_cons (h1 : PS X st (tSE X.K B W i a cls dx C me)) (h2 : SSs X B W sts m') : PSs X (st :: sts) (tSE X.K B W i a cls dx C (fun fs => sSeq (me fs) m')) := PSs.imp (pss_cons h1 h2) fun D σ H h => by
  obtain ⟨fs, ρ, h0, s, U, R0, S, p⟩ := h
  refine ⟨fs, ρ, h0, s, U, R0, S, ?_⟩
  have p' : SOk X.K B W (match me fs s h0 with
    | .nx s1 h1 => m' s1 h1
    | r => r) ρ H D := p
  cases q : me fs s h0 with
  | nx s1 h1 =>
    rw [q] at p'
    exact fun ρ' H' σ' a b R S' => ⟨ρ', h1, s1, R, S', SOk.later a b p'⟩
  | rt c h1 => rw [q] at p'; exact p'
  | bk s1 h1 => rw [q] at p'; exact p'
  | ct s1 h1 => rw [q] at p'; exact p'
  | ex c d s1 h1 => rw [q] at p'; exact p'
  | bad => rw [q] at p'; exact p'
end
end Cn
set_option Elab.async false
set_option maxRecDepth 100000
set_option linter.all false
set_option maxHeartbeats 4000000
namespace Cn
open PySem PySem.Spec PyProof.Rows L2 He
theorem RepS.hide {K : PySem.W.Frag} {B : Bs} {ρ : List Addr} {H : Hp} {s : CS} {σ : L2.St} {i : Nat} {v : Option V} (S : RepS K B ρ H s σ) : RepS K B ρ H (s.set i none) (σ.set i v) := by
  refine ⟨by rw [List.length_set, List.length_set]; exact S.1, fun j d e => ?_⟩
  by_cases hij : i = j
  · subst hij
    by_cases hi : i < s.length
    · rw [List.getElem?_set_self hi] at e
      cases e
    · rw [List.getElem?_eq_none (by rw [List.length_set]; omega)] at e
      cases e
  · rw [List.getElem?_set_ne hij] at e
    obtain ⟨w, e2, r2⟩ := S.2 j d e
    exact ⟨w, by rw [List.getElem?_set_ne hij]; exact e2, r2⟩
section
variable {X : Cx} {B : Bs} {W : WX} {i : Nat} {a C D : Addr} {cls : Value} {dx : Option Addr} {pn : List (Addr × Obj)} {oe : Obj} {b : Expr} {pos p1 p2 p3 np pos' : Pos} {mb : ME CV} {f n x xT : Str} {k c : Nat}
theorem post_tV {K : PySem.W.Frag} {m : Res CV} {ρ : List Addr} {H : Hp} {W : XK} {Q : Bool → Hp → Prop} (p : Post K B (rEqual Bool) W (m.bind fun x h1 => match x with
    | .bl b => .ok b h1
    | _ => .bad) ρ H Q) : Post K B (rV K B) W m ρ H (fun x H1 => ∃ k, x = .bl k ∧ Q k H1) := by
  refine Post.imp (fun v H1 hh => ?_) (Post.bind (rV K B) p)
  obtain ⟨x, h1, ρ1, M, q⟩ := hh
  cases x with
  | bl k => exact ⟨k, M.rp, Post.ok (c := k) M.rel rfl q⟩
  | _ => exact q.elim
theorem sx_ne (T : xfB X.K C = true) (nd : B.an.Nodup) (ek : B.an[k]? = some f) (hno : PySem.W.findIn X.K (.ref C) f = some none) (hz : Zc cls dx oe) (hf : ∃ vs, oe.data = .fields vs) (hu : X.A.units + 64 < cLine) (hN : X.N[i]? = some n)
    (hb : SE (X.suite a ((a, oe) :: pn)) B W b mb) (hv : Vis X.env.scope n := by first | exact Or.inl rfl | exact Or.inr (Or.inl rfl) | exact Or.inr (Or.inr rfl)) (hd : (n == ("__debug__" : Str)) = false := by decide +kernel) (hcd : (n == ("__classdict__" : Str)) = false := by decide +kernel) :
    STE (X.suite a ((a, oe) :: pn)) B W i a cls dx C (.Compare (.Attribute (.Name n p1) f p2) [.NotEq] [b] pos) (fun fs => Cn.tV (e2 neV (eExc fs k) mb)) := by
  refine PT.imp (pt_cmpR (op_neD hu) (pe_xf (X := X) (xfB_ok T) hno hz hf (pe_var (X := X.suite a ((a, oe) :: pn)) hN hv hd hcd)) hb (nomark _)) fun σ H Q h => ?_
  obtain ⟨fs, ρ, h0, s, U, R, S, p⟩ := h
  refine ⟨.ref a, U.sl, rfl, U.cl, ?_⟩
  cases q : lookC k fs with
  | none =>
    have ee : eExc fs k s h0 = .bad := by unfold eExc; rw [q]
    have p' : Post X.K B (rEqual Bool) (fun c d H' => W c d σ H') (((eExc fs k s h0).bind fun x h1 => (mb s h1).bind fun y h2 => neV x y h2).bind fun x h1 => match x with
      | .bl b => .ok b h1
      | _ => .bad) ρ H Q := p
    rw [ee] at p'
    exact p'.elim
  | some c =>
    have ee : eExc fs k s h0 = .ok c h0 := by unfold eExc; rw [q]
    have p' : Post X.K B (rEqual Bool) (fun c d H' => W c d σ H') (((eExc fs k s h0).bind fun x h1 => (mb s h1).bind fun y h2 => neV x y h2).bind fun x h1 => match x with
      | .bl b => .ok b h1
      | _ => .bad) ρ H Q := p
    rw [ee] at p'
    have p2 := post_tV p'
    rcases U.rx with ⟨e, _⟩ | ⟨_, D, vs, e1, e2, rf⟩
    · rw [e] at q; cases q
    · obtain ⟨v, ev, rv⟩ := (rep_look nd ek rf).1 c q
      refine ⟨D, vs, v, e1, e2, ev, ρ, h0, s, R, S, Post.imp (fun y H2 hh => ?_) (Post.bind (rV X.K B) p2)⟩
      obtain ⟨c2, h2, ρ2, M, q2⟩ := hh
      exact v_ne ρ2 H2 h2 c c2 v y _ _ M.rel (RepV.per M.pre M.per _ _ rv) M.rp q2
theorem sx_is (T : excB X.K C = true) (hk : PySem.W.kitOne X.K (.ref C) (.ref D) = some true) (hz : Zc cls dx oe) (hf : ∃ vs, oe.data = .fields vs) (hN : X.N[i]? = some n) (hg : Gl X "isinstance") (hm : X.mg "isinstance" = none) (hgT : Gl X xT) (hmT : X.mg xT = some (.ref D))
    (hv : Vis X.env.scope n := by first | exact Or.inl rfl | exact Or.inr (Or.inl rfl) | exact Or.inr (Or.inr rfl)) (hd : (n == ("__debug__" : Str)) = false := by decide +kernel) (hcd : (n == ("__classdict__" : Str)) = false := by decide +kernel) (hdT : (xT == ("__debug__" : Str)) = false := by decide +kernel)
    (hs : starEach [.Name n p1, .Name xT p2] (X.suite a ((a, oe) :: pn)).env = (false, eval (.Name n p1) (X.suite a ((a, oe) :: pn)).env) :: starEach [.Name xT p2] (X.suite a ((a, oe) :: pn)).env := by rfl) (hpl : (backTo pos (starEach [.Name xT p2] (X.suite a ((a, oe) :: pn)).env)).any (·.1) = false := by rfl)
    (he : ∀ whole, isTrue (.Call (.Name "isinstance" p3) [.Name n p1, .Name xT p2] [] pos) (X.suite a ((a, oe) :: pn)).env whole = (do let v ← whole; standAt (Expr.pos (.Call (.Name "isinstance" p3) [.Name n p1, .Name xT p2] [] pos)); holding [v] (truthy v)) := by intro _; rfl) :
    STE (X.suite a ((a, oe) :: pn)) B W i a cls dx C (.Call (.Name "isinstance" p3) [.Name n p1, .Name xT p2] [] pos) (fun _ => Cn.tYes) := by
  have main : ∀ (ec : cls = .ref C), STE (X.suite a ((a, oe) :: pn)) B W i a cls dx C (.Call (.Name "isinstance" p3) [.Name n p1, .Name xT p2] [] pos) (fun _ => Cn.tYes) := by
    intro ec
    subst ec
    have hT : PE (X.suite a ((a, oe) :: pn)) (.Name xT p2) (tC (.ref D)) := pe_glob (v := V.ref D) hgT hmT rfl hdT
    refine PT.imp (pt_val (pe_callB (call_isX (excB_ok T) hz hf) hg hm rfl (pa_cons (pe_var (X := X.suite a ((a, oe) :: pn)) hN hv hd hcd) (pa_cons hT pa_nil rfl) hs) (he := hs) (hpl := hpl)) he) fun σ H Q h => ?_
    obtain ⟨fs, ρ, h0, s, U, R, S, p⟩ := h
    refine ⟨.ref a, U.sl, fun d ed => ?_, .ref D, .ref D, true, rfl, fun u hu => hu, hk, true, rfl, Post.ok (c := true) R rfl p⟩
    rcases U.rx with ⟨_, e⟩ | ⟨_, D', vs, e1, e2, rf⟩
    · rw [e] at ed; cases ed
    · rw [e1] at ed; cases ed; exact ⟨vs, e2⟩
  by_cases ec : cls = .ref C
  · exact main ec
  · exact ⟨fun pins s σ H Q I h => by obtain ⟨_, _, _, _, U, _⟩ := h; exact absurd U.cl ec⟩
theorem ss_tryAs {body suite : List Stmt} {b₀ : Stmt} {m : MS} {me : List (Nat × CV) → MS} (eC : B.ca c = C) (hs : X.stack = X.env :: X.outer) (hf : X.env.frame = some X.env.locals) (hN : X.N.Nodup) (hi : X.N[i]? = some n) (hln : X.env.kindOf n = some .local) (hc : Names X x (.ref C)) (tk : Takes X W)
    (hx : PySem.W.exmOne X.K (.ref C) (.ref C) = some true) (hb : ∀ (W' : WX) (pn : List (Addr × Obj)) (xe : Value → Shared → Prop), Takes (X.tr pn xe) W' → PassesOwn (model X.prog X.w) X.A X.env xe → SSs (X.tr pn xe) B W' body m)
    (hsu : ∀ (a : Addr) (oe : Obj) (cls : Value) (d : Option Addr) (pn : List (Addr × Obj)), Zc cls d oe → (∃ vs, oe.data = .fields vs) → PSs (X.suite a ((a, oe) :: pn)) (b₀ :: suite) (tSE X.K B W i a cls d C me)) :
    SS X B W (.Try body [.ExceptHandler (some (.Name x np)) (some n) (b₀ :: suite) pos'] [] [] pos) (sTry c m (fun d => sAs i (me d))) := by
  refine PS.imp (ps_try_as hs hf hN hi hln hc tk (tb := fun W' => tS X.K B W' m) hb (ts := fun a cls d => tSE X.K B W i a cls d C me) hsu) fun E σ H h => ?_
  obtain ⟨ρ, h0, s, R, S, p⟩ := h
  refine ⟨ρ, h0, s, R, S, ?_⟩
  have p' : SOk X.K B W (match m s h0 with
    | .ex c2 d s1 h1 => if c2 = c then sAs i (me d) s1 h1 else .bad
    | r => r) ρ H E := p
  cases q : m s h0 with
  | nx s1 h1 => rw [q] at p'; exact p'
  | rt v h1 => rw [q] at p'; exact p'
  | bk s1 h1 => rw [q] at p'; exact p'
  | ct s1 h1 => rw [q] at p'; exact p'
  | bad => rw [q] at p'; exact p'
  | ex c2 d s1 h1 =>
    rw [q] at p'
    dsimp only at p'
    by_cases ec : c2 = c
    · subst ec
      rw [if_pos rfl] at p'
      intro ρ' H' σ' dx pr per R' S' rx
      rw [eC]
      refine ⟨true, hx, fun _ a na => ?_, fun z => nomatch z⟩
      unfold sAs at p'
      by_cases il : i < s1.length
      · rw [if_pos il] at p'
        refine ⟨d, ρ', h1, s1.set i none, ⟨rfl, rx, by rw [List.getElem?_set_self (by rw [← S'.1]; exact il)]⟩, R', S'.hide, ?_⟩
        cases q2 : me d (s1.set i none) h1 with
        | nx s2 h2 => rw [q2] at p'; exact fun ρ'' H'' σ'' pr2 per2 R2 S2 => p' ρ'' H'' _ (pr.trans pr2) (per.trans per2) R2 S2.hide
        | bk s2 h2 => rw [q2] at p'; exact fun ρ'' H'' σ'' pr2 per2 R2 S2 => p' ρ'' H'' _ (pr.trans pr2) (per.trans per2) R2 S2.hide
        | ct s2 h2 => rw [q2] at p'; exact fun ρ'' H'' σ'' pr2 per2 R2 S2 => p' ρ'' H'' _ (pr.trans pr2) (per.trans per2) R2 S2.hide
        | rt v h2 => rw [q2] at p'; exact fun ρ'' H'' v' pr2 per2 R2 r2 => p' ρ'' H'' v' (pr.trans pr2) (per.trans per2) R2 r2
        | ex c3 d3 s2 h2 => rw [q2] at p'; exact p'.elim
        | bad => rw [q2] at p'; exact p'.elim
      · rw [if_neg il] at p'; exact p'.elim
    · rw [if_neg ec] at p'; exact p'.elim
end
theorem RepVs.bls {K : PySem.W.Frag} {sc : List Int} {ρ : List Addr} {H : Hp} : ∀ {cs : List CV} {bs : List Bool} {vs : List V}, RepVs K sc ρ H cs vs → blsOf cs = some bs → vs = bs.map V.bl
  | [], bs, _, h, e => by
    have e1 : _ = [] := h
    have e2 : ([] : List Bool) = bs := Option.some.inj e
    rw [e1, ← e2]; rfl
  | x :: xs, bs, _, h, e => by
    obtain ⟨v, r, rfl, h1, h2⟩ := h
    cases x with
    | bl b =>
      obtain ⟨q, e1, rfl⟩ := Option.map_eq_some_iff.mp (show (blsOf xs).map (b :: ·) = some bs from e)
      have e3 : v = .bl b := h1
      rw [e3, RepVs.bls h2 e1]; rfl
    | _ => cases e
theorem v_all {B : Bs} {K : PySem.W.Frag} : VCall K B allV (rAll K) := by
  intro ρ H h cs vs W Q R r p
  unfold allV at p
  split at p
  · rename_i x
    obtain ⟨v, e, r1⟩ := one_rep r
    subst e
    split at p
    · rename_i bs hb
      obtain ⟨xs, q1, q2⟩ := Option.bind_eq_some_iff.mp hb
      obtain ⟨a, ws, e1, hs, hr⟩ := R.sq r1 q1
      subst e1
      have e2 := hr.bls q2
      subst e2
      exact ⟨a, bs, rfl, hs, p.ok R rfl⟩
    · exact p.elim
  · exact p.elim
section
variable {K : PySem.W.Frag} {C fI : Addr} {f : Str}
theorem xraB_ok (h : xraB K C fI f = true) : OexC K C ∧ PySem.W.findIn K (.ref C) "__init__" = some (some (.ref fI)) ∧ PySem.W.typeIn K (.ref fI) = some (.type "function") ∧ PySem.W.findIn K (.ref C) f = some none := by
  obtain ⟨h1, h⟩ := Bool.and_eq_true_iff.mp h
  obtain ⟨h2, h⟩ := Bool.and_eq_true_iff.mp h
  obtain ⟨h3, h4⟩ := Bool.and_eq_true_iff.mp h
  exact ⟨oexB_ok h1, of_decide_eq_true h2, of_decide_eq_true h3, of_decide_eq_true h4⟩
theorem xcaB_ok (h : xcaB K C f = true) : excB K C = true ∧ xfB K C = true ∧ PySem.W.exmOne K (.ref C) (.ref C) = some true ∧ PySem.W.findIn K (.ref C) f = some none := by
  obtain ⟨h1, h⟩ := Bool.and_eq_true_iff.mp h
  obtain ⟨h2, h⟩ := Bool.and_eq_true_iff.mp h
  obtain ⟨h3, h4⟩ := Bool.and_eq_true_iff.mp h
  exact ⟨h1, h2, of_decide_eq_true h3, of_decide_eq_true h4⟩
end
def Okx (P : Program) (w : World) (K : PySem.W.Frag) (mg : Str → Option Value) (base : Heap) (k : Nat) (C fI : Addr) (ps : List Str) (f : Str) : Prop := ∃ fd, FnOk P w K mg base (L2.CX P w) k fI fd ps (spXi C f) ∧ Binds K fd ps []
section
variable {X : Cx} {B : Bs} {W : WX} {a b e : Expr} {ma mb me : ME CV} {pos p pos' : Pos} {k kx c : Nat} {C fI : Addr} {ps : List Str} {f x : Str}
theorem ss_raiseX (F : Okx X.prog X.w X.K X.mg X.base kx C fI ps f) (T : xraB X.K C fI f = true) (eC : B.ca c = C) (ef : B.an[k]? = some f) (room : Room (kx + 1) X.A) (hc : X.calm = true) (tk : Takes X W) (hg : Gl X x) (hm : X.mg x = some (.ref C)) (ha : SE X B W e me)
    (hdb : (x == ("__debug__" : Str)) = false := by decide +kernel) (he : starEach [e] X.env = (false, eval e X.env) :: starEach [] X.env := by rfl) (hpl : (backTo pos (starEach [] X.env)).any (·.1) = false := by rfl) :
    SS X B W (.Raise (some (.Call (.Name x p) [e] [] pos)) none pos') (sRaiseX c k me) := by
  obtain ⟨fd, F, hb⟩ := F
  obtain ⟨T1, T2, T3, _⟩ := xraB_ok T
  exact ss_raise eC ef T1 T2 T3 F hb room hc tk hg hm ha hdb he hpl
theorem st_eqU (hu : X.A.units + 64 < cLine) (ha : SE X B W a ma) (hb : SE X B W b mb) : ST X B W (.Compare a [.Eq] [b] pos) (tV (e2 Cn.eqV ma mb)) := st_cmp (op_eqD hu) v_eq ha hb (nomark _)
theorem st_neU (hu : X.A.units + 64 < cLine) (ha : SE X B W a ma) (hb : SE X B W b mb) : ST X B W (.Compare a [.NotEq] [b] pos) (tV (e2 neV ma mb)) := st_cmp (op_neD hu) v_ne ha hb (nomark _)
end
def eqs (k : Str) (v : Value) : Bool := match v with
  | .str x _ => x == k
  | _ => false
theorem eqs_at {A : Around} {s : Shared} {k : Str} {t : Tok} : ∀ {us : List Value} {ns : List Str}, StrsAre us ns → ∀ y ∈ us, SeqAt.EqAt A s y (.str k t) (eqs k y)
  | _, _, .nil => fun y hy => by cases hy
  | _, _, .cons n t' h => fun y hy => by
    rcases List.mem_cons.mp hy with e | e
    · rw [e]
      exact SeqAt.EqAt.str_str n t' k t
    · exact eqs_at h y e
theorem eqs_count {k : Str} : ∀ {us : List Value} {ns : List Str}, StrsAre us ns → us.countP (eqs k) = ns.count k
  | _, _, .nil => rfl
  | _, _, .cons n t h => by
    have ih := eqs_count (k := k) h
    rw [List.countP_cons, List.count_cons, ih] <;> rfl
def rCntS (K : PySem.W.Frag) : V → List V → Hp → VK → Prop := fun x xs H Q => ∃ (p : Addr) (ns : List Str) (k : Str), x = .ref p ∧ xs = [.str k] ∧ SqL K H p (ns.map V.str) ∧ Q (.int (ns.count k : Nat)) H
theorem mt_lcountS {X : Cx} : MtR X "list.count" (rCntS X.K) := by
  intro pins s σ H x xs v us Q I rx rxs h
  obtain ⟨p, ns, k, rfl, rfl, hs, q⟩ := h
  cases rx
  obtain ⟨u, rfl, ru⟩ := rxs.one
  obtain ⟨t, rfl⟩ := ru
  obtain ⟨its, rv, ⟨⟨cls, dd, data, sl⟩, n, ho, hc, hdn, hd⟩, hlen⟩ := I.list hs
  simp only at hc hd
  subst hc hd
  have hi := strs_of_vals rv
  refine call_meets PySem.F.slot_list_count ⟨_, ho, rfl⟩ PySem.F.entry_list_count (PySem.F.args_list_count_2 _ _)
    (SeqAt.list_countAt p its.toArray n dd sl (.str k t) (eqs k)) ⟨ho, fun y hy => eqs_at hi y (by simpa using hy), ?_⟩
  have ec : its.toArray.toList.countP (eqs k) = ns.count k := eqs_count hi
  refine ⟨.int (ns.count k : Nat), H, I.tok _, ⟨s.toks, ?_⟩, q⟩
  show Value.int ((its.toArray.toList.countP (eqs k) : Nat) : Int) s.toks = Value.int ((ns.count k : Nat) : Int) s.toks
  rw [ec]
theorem count_toS (k : List Nat) : ∀ zs : List (List Nat), (zs.map fun z => (⟨z.toArray⟩ : Str)).count ⟨k.toArray⟩ = zs.count k
  | [] => rfl
  | z :: zs => by
    have e : (((⟨z.toArray⟩ : Str) == ⟨k.toArray⟩) : Bool) = (z == k) := by
      rw [Bool.eq_iff_iff]
      simp
    rw [List.map_cons, List.count_cons, List.count_cons, count_toS k zs, e]
theorem v_lcnt {B : Bs} {K : PySem.W.Frag} : VMeth K B 5 lcntV (rCntS K) := by
  intro ρ H h cs c v vs W Q R r rs p
  unfold lcntV at p
  split at p
  · rename_i x k e
    injection e with e1 e2
    subst e1 e2
    obtain ⟨w, ew, rw'⟩ := one_rep rs
    subst ew
    split at p
    · rename_i zs hb
      obtain ⟨xs, q1, q2⟩ := Option.bind_eq_some_iff.mp hb
      obtain ⟨a, ws, e1, hs, hr⟩ := R.sq r q1
      subst e1
      obtain ⟨e2, _⟩ := hr.strs q2
      subst e2
      have e3 := rw'.1
      subst e3
      refine ⟨a, zs.map fun z => (⟨z.toArray⟩ : Str), ⟨k.toArray⟩, rfl, rfl, hs, ?_⟩
      rw [count_toS]
      exact p.ok R rfl
    · exact p.elim
  · exact p.elim
end Cn
set_option Elab.async false
set_option maxRecDepth 100000
set_option linter.all false
set_option maxHeartbeats 4000000
namespace Cn
open PySem PySem.Spec PyProof.Rows L2 He
def rIns : V → List V → Hp → VK → Prop := fun x vs H Q => ∃ (l : Addr) (xs : List V) (i : Int) (y : V), x = .ref l ∧ vs = [.int i, y] ∧ H l = some (.lst xs) ∧ xs.length < sizeLine ∧ 0 ≤ i ∧ i < 2 ^ 63 ∧
    Q .non (upd H l (.lst (xs.take i.toNat ++ [y] ++ xs.drop i.toNat)))
theorem mt_ins {X : Cx} : MtR X "list.insert" rIns := mt_insert
theorem v_ins {B : Bs} {K : PySem.W.Frag} : VMeth K B 5 insertV rIns := by
  intro ρ H h c cs v vs W Q R r rs p
  unfold insertV at p
  split at p
  · rename_i n i x e
    injection e with e1 e2
    subst e1 e2
    obtain ⟨w0, w, ew, ri, rw'⟩ := two_rep rs
    subst ew
    have ei : w0 = .int i := ri
    subst ei
    cases q : h.os[n]? with
    | none => rw [q] at p; exact p.elim
    | some o =>
      rw [q] at p
      cases o with
      | lst xs =>
        have p' : Post K B (rV K B) W (if xs.length < LINE ∧ 0 ≤ i ∧ i < B62 then .ok .non (h.set n (.lst (xs.take i.toNat ++ [x] ++ xs.drop i.toNat))) else .bad) ρ H Q := p
        by_cases hl : xs.length < LINE ∧ 0 ≤ i ∧ i < B62
        · rw [if_pos hl] at p'
          obtain ⟨a, ws, ea, ev, hH, hr⟩ := R.lst r q
          subst ev
          have mu : Mut (H a) := by rw [hH]; trivial
          have hb : i < 2 ^ 63 := by
            have := hl.2.2
            unfold B62 at this
            omega
          refine ⟨a, ws, i, w, rfl, rfl, hH, by rw [hr.len, ← line_eq]; exact hl.1, hl.2.1, hb, p' ρ _ .non (List.prefix_refl _) (.write mu) (R.set ea mu ⟨_, rfl, ?_⟩) rfl⟩
          exact (((RepVs.per (List.prefix_refl _) (.write mu) _ _ hr).take _).append (RepVs.one (RepV.per (List.prefix_refl _) (.write mu) _ _ rw'))).append ((RepVs.per (List.prefix_refl _) (.write mu) _ _ hr).drop _)
        · rw [if_neg hl] at p'; exact p'.elim
      | _ => exact p.elim
  · exact p.elim
theorem idx_first (k : List Nat) : ∀ (zs : List (List Nat)) (m : Nat) (z : List Nat), m < zs.idxOf k → zs[m]? = some z → z ≠ k
  | [], m, z, _, e => by simp at e
  | a :: zs, 0, z, l, e => by
    simp at e; subst e
    intro c; subst c
    simp [List.idxOf_cons] at l
  | a :: zs, m + 1, z, l, e => by
    rw [List.idxOf_cons] at l
    have e : zs[m]? = some z := by simpa using e
    cases q : a == k with
    | true => rw [q] at l; simp at l
    | false =>
      rw [q] at l
      exact idx_first k zs m z (by simpa using l) e
theorem v_lidx {B : Bs} {K : PySem.W.Frag} : VMeth K B 5 lindexV (rIndex K) := by
  intro ρ H h cs c v vs W Q R r rs p
  unfold lindexV at p
  split at p
  · rename_i x k e
    injection e with e1 e2
    subst e1 e2
    obtain ⟨w, ew, rw'⟩ := one_rep rs
    subst ew
    split at p
    · rename_i zs hb
      obtain ⟨xs, q1, q2⟩ := Option.bind_eq_some_iff.mp hb
      obtain ⟨a, ws, e1, hs, hr⟩ := R.sq r q1
      subst e1
      obtain ⟨e2, _⟩ := hr.strs q2
      subst e2
      have e3 := rw'.1
      subst e3
      by_cases mk : k ∈ zs
      · rw [if_pos mk] at p
        have lt := List.idxOf_lt_length_of_mem mk
        have eg : zs[zs.idxOf k] = k := List.getElem_idxOf lt
        refine ⟨a, zs.map fun z => V.str (⟨z.toArray⟩ : Str), .str ⟨k.toArray⟩, zs.idxOf k, .str ⟨k.toArray⟩, rfl, rfl, by rw [List.map_map] at hs; exact hs, rfl, by simp [flatV], ?_, ?_, ?_, p.ok R rfl⟩
        · rw [List.getElem?_map, List.getElem?_eq_getElem lt, eg]; rfl
        · simp [L2.eqV]
        · intro m z' lm ez
          rw [List.getElem?_map] at ez
          obtain ⟨y, ey, rfl⟩ := Option.map_eq_some_iff.mp ez
          have := idx_first k zs m y lm ey
          simp [L2.eqV, this]
      · rw [if_neg mk] at p; exact p.elim
    · exact p.elim
  · exact p.elim
section
variable {X : Cx} {B : Bs} {W : WX} {i : Nat} {a C : Addr} {cls : Value} {dx : Option Addr} {K : PySem.W.Frag} {oe : Obj} {pn : List (Addr × Obj)} {k : Nat} {f n xT : Str} {p1 p2 p3 p4 pos : Pos}
theorem sx_isF {T : String} {j : Nat} (Tx : xfB X.K C = true) (nd : B.an.Nodup) (ek : B.an[k]? = some f) (hno : PySem.W.findIn X.K (.ref C) f = some none) (hz : Zc cls dx oe) (hf : ∃ vs, oe.data = .fields vs) (hN : X.N[i]? = some n)
    (hg : Gl X "isinstance") (hm : X.mg "isinstance" = none) (hgT : Gl X xT) (hmT : X.mg xT = none) (hj : j < 7 := by decide) (h2 : j ≠ 2 := by decide) (hvT : bootBuiltins xT = some (.type T) := by rfl) (eT : kindN j = T := by decide +kernel)
    (hv : Vis X.env.scope n := by first | exact Or.inl rfl | exact Or.inr (Or.inl rfl) | exact Or.inr (Or.inr rfl)) (hd : (n == ("__debug__" : Str)) = false := by decide +kernel) (hcd : (n == ("__classdict__" : Str)) = false := by decide +kernel) (hnT : xT ≠ "__name__" := by decide +kernel) (hdT : (xT == ("__debug__" : Str)) = false := by decide +kernel)
    (hs : starEach [.Attribute (.Name n p1) f p4, .Name xT p2] (X.suite a ((a, oe) :: pn)).env = (false, eval (.Attribute (.Name n p1) f p4) (X.suite a ((a, oe) :: pn)).env) :: starEach [.Name xT p2] (X.suite a ((a, oe) :: pn)).env := by rfl) (hpl : (backTo pos (starEach [.Name xT p2] (X.suite a ((a, oe) :: pn)).env)).any (·.1) = false := by rfl)
    (he : ∀ whole, isTrue (.Call (.Name "isinstance" p3) [.Attribute (.Name n p1) f p4, .Name xT p2] [] pos) (X.suite a ((a, oe) :: pn)).env whole = (do let v ← whole; standAt (Expr.pos (.Call (.Name "isinstance" p3) [.Attribute (.Name n p1) f p4, .Name xT p2] [] pos)); holding [v] (truthy v)) := by intro _; rfl) :
    STE (X.suite a ((a, oe) :: pn)) B W i a cls dx C (.Call (.Name "isinstance" p3) [.Attribute (.Name n p1) f p4, .Name xT p2] [] pos) (fun fs => Cn.tV (e1 (isiV j) (eExc fs k))) := by
  have hT : PE (X.suite a ((a, oe) :: pn)) (.Name xT p2) (tC (.ty T)) := pe_bltn hgT hmT hvT rfl hnT hdT
  refine PT.imp (pt_val (pe_callB call_isi hg hm (by decide +kernel) (pa_cons (pe_xf (X := X) (xfB_ok Tx) hno hz hf (pe_var (X := X.suite a ((a, oe) :: pn)) hN hv hd hcd)) (pa_cons hT pa_nil rfl) hs) (he := hs) (hpl := hpl)) he) fun σ H Q h => ?_
  obtain ⟨fs, ρ, h0, s, U, R, S, p⟩ := h
  refine ⟨.ref a, U.sl, rfl, U.cl, ?_⟩
  cases q : lookC k fs with
  | none =>
    have ee : eExc fs k s h0 = .bad := by unfold eExc; rw [q]
    have p' : Post X.K B (rEqual Bool) (fun c d H' => W c d σ H') (((eExc fs k s h0).bind fun x h1 => isiV j x h1).bind fun x h1 => match x with
      | .bl b => .ok b h1
      | _ => .bad) ρ H Q := p
    rw [ee] at p'
    exact p'.elim
  | some c =>
    have ee : eExc fs k s h0 = .ok c h0 := by unfold eExc; rw [q]
    have p' : Post X.K B (rEqual Bool) (fun c d H' => W c d σ H') (((eExc fs k s h0).bind fun x h1 => isiV j x h1).bind fun x h1 => match x with
      | .bl b => .ok b h1
      | _ => .bad) ρ H Q := p
    rw [ee] at p'
    have p2 := post_tV p'
    rcases U.rx with ⟨e, _⟩ | ⟨_, D, vs, e1, e2, rf⟩
    · rw [e] at q; cases q
    · obtain ⟨v, ev, rv⟩ := (rep_look nd ek rf).1 c q
      refine ⟨D, vs, v, e1, e2, ev, ?_⟩
      have p3 : Post X.K B (rV X.K B) (fun c d H' => W c d σ H') (isiV j c h0) ρ H (fun x H1 => ∃ k, x = .bl k ∧ Q k H1) := p2
      unfold isiV at p3
      by_cases hk : kindC c h0 < 7
      · rw [if_pos hk] at p3
        refine ⟨v, .ty T, .type (kindN (kindC c h0)), .type T, (kindC c h0 == j), rfl, .ty T, kind_ty R rv hk, ?_, p3.ok R rfl⟩
        rw [← eT]
        exact kit_ty (kit_all _ _ hk hj h2)
      · rw [if_neg hk] at p3; exact p3.elim
end
end Cn
set_option Elab.async false
set_option maxRecDepth 100000
set_option linter.all false
set_option maxHeartbeats 4000000
namespace Cn
open PySem PySem.Spec PyProof.Rows L2 He
theorem glo_alias {mg : Str → Option Value} {x : Str} {a b : Addr} (e : mg x = some (.ref a)) (h : a = b) : mg x = some (.ref b) := h ▸ e
section
variable {X : Cx} {B : Bs} {W : WX} {C : Addr} {x : Str} {np pos pos' : Pos} {c : Nat}
theorem ss_tryNo {body suite : List Stmt} {b₀ : Stmt} {m ms : MS} (eC : B.ca c = C) (hs : X.stack = X.env :: X.outer) (hf : X.env.frame = some X.env.locals) (hc : Names X x (.ref C)) (tk : Takes X W)
    (hx : PySem.W.exmOne X.K (.ref C) (.ref C) = some true) (hb : ∀ (W' : WX) (pn : List (Addr × Obj)) (xe : Value → Shared → Prop), Takes (X.tr pn xe) W' → PassesOwn (model X.prog X.w) X.A X.env xe → SSs (X.tr pn xe) B W' body m)
    (hsu : ∀ (a : Addr) (oe : Obj) (cls : Value) (d : Option Addr) (pn : List (Addr × Obj)), Zc cls d oe → (∃ vs, oe.data = .fields vs) → SSs (X.suite a ((a, oe) :: pn)) B W (b₀ :: suite) ms) :
    SS X B W (.Try body [.ExceptHandler (some (.Name x np)) none (b₀ :: suite) pos'] [] [] pos) (sTry c m (fun _ => ms)) := by
  refine PS.imp (ps_try_only hs hf hc tk (tb := fun W' => tS X.K B W' m) hb (ts := fun a cls d => tS X.K B W ms) hsu) fun E σ H h => ?_
  obtain ⟨ρ, h0, s, R, S, p⟩ := h
  refine ⟨ρ, h0, s, R, S, ?_⟩
  have p' : SOk X.K B W (match m s h0 with
    | .ex c2 d s1 h1 => if c2 = c then ms s1 h1 else .bad
    | r => r) ρ H E := p
  cases q : m s h0 with
  | nx s1 h1 => rw [q] at p'; exact p'
  | rt v h1 => rw [q] at p'; exact p'
  | bk s1 h1 => rw [q] at p'; exact p'
  | ct s1 h1 => rw [q] at p'; exact p'
  | bad => rw [q] at p'; exact p'
  | ex c2 d s1 h1 =>
    rw [q] at p'
    dsimp only at p'
    by_cases ec : c2 = c
    · subst ec
      rw [if_pos rfl] at p'
      intro ρ' H' σ' dx pr per R' S' rx
      rw [eC]
      exact ⟨true, hx, fun _ a na => ⟨ρ', h1, s1, R', S', SOk.later pr per p'⟩, fun z => nomatch z⟩
    · rw [if_neg ec] at p'; exact p'.elim
end
end Cn
set_option Elab.async false
set_option maxRecDepth 100000
set_option linter.all false
set_option maxHeartbeats 4000000
namespace Cn
open PySem PySem.Spec PyProof.Rows L2 He
abbrev trM (K : PySem.W.Frag) (B : Bs) (W : WX) (kvs : List (List Nat × ME CV)) : List (TE × TE) := kvs.map fun q => (tC (.str (sT q.1)), tX K B (rV K B) W q.2)
abbrev zipV (kvs : List (List Nat × ME CV)) (vs : List V) : List (V × V) := List.zipWith (fun q v => (V.str (sT q.1), v)) kvs vs
section
variable {K : PySem.W.Frag} {B : Bs} {W : WX} {σ : L2.St}
theorem tPairs_M : ∀ {kvs : List (List Nat × ME CV)} {ρ : List Addr} {H : Hp} {h : CH} {s : CS} {Q : List (V × V) → Hp → Prop}, Rel K B ρ H h → RepS K B ρ H s σ →
    Post K B (rVs K B) (fun c d H' => W c d σ H') (dispGo kvs s h) ρ H (fun vs H' => Q (zipV kvs vs) H') → tPairs (trM K B W kvs) σ H Q
  | [], ρ, H, h, s, Q, R, S, p => Post.ok (c := []) (h := h) (rep := rVs K B) (v := []) R rfl p
  | q :: r, ρ, H, h, s, Q, R, S, p => by
    show tX K B (rV K B) W q.2 σ H fun y H2 => tPairs (trM K B W r) σ H2 fun ps H3 => Q ((V.str (sT q.1), y) :: ps) H3
    refine ⟨ρ, h, s, R, S, Post.imp (fun y H2 hh => ?_) (Post.bind (rV K B) p)⟩
    obtain ⟨x, h1, ρ1, M, p1⟩ := hh
    refine tPairs_M M.rel (S.per M.pre M.per) (Post.imp (fun vs H3 hh => ?_) (Post.bind (rVs K B) p1))
    obtain ⟨xs, h2, ρ2, M2, p2⟩ := hh
    exact Post.ok (v := y :: vs) M2.rel ⟨y, vs, rfl, RepV.per M2.pre M2.per _ _ M.rp, M2.rp⟩ p2
end
section
variable {K : PySem.W.Frag} {sc : List Int} {ρ : List Addr} {H : Hp}
theorem rep_puts : ∀ {kvs : List (List Nat × ME CV)} {xs : List CV} {vs : List V} {acc : List (CK × CV)} {accV : List (Key × V)}, RepKs K sc ρ H keyC acc accV → RepVs K sc ρ H xs vs →
    RepKs K sc ρ H keyC (putsD acc (kvs.map fun q => .inr q.1) xs) (mergeK accV (List.zipWith (fun q v => ((.inr (sT q.1) : Key), v)) kvs vs))
  | [], xs, vs, acc, accV, ra, rv => by cases xs <;> exact ra
  | q :: r, [], vs, acc, accV, ra, rv => by
    have rv : vs = [] := rv
    subst rv; exact ra
  | q :: r, x :: xs, vs, acc, accV, ra, rv => by
    obtain ⟨v, vs', rfl, r1, r2⟩ := rv
    exact rep_puts (kvs := r) (rep_putK (fun _ _ => keyC_inj) (.inr q.1) r1 ra) r2
end
section
variable {X : Cx} {B : Bs} {W : WX} {pos : Pos}
theorem pps_val {ks : List (Option Expr)} {vs : List Expr} {e : Expr} {z : Str} {j : Nat} {p : Pos} {trs : List (TE × TE)} {m : ME CV} (l : List Nat) (he : SE X B W e m) (hr : PPs X pos ks vs trs) (h : decide (z = sT l) = true := by decide +kernel) :
    PPs X pos (some (.Constant (.str z) j p) :: ks) (e :: vs) ((tC (.str (sT l)), tX X.K B (rV X.K B) W m) :: trs) := by
  have h1 := of_decide_eq_true h
  subst h1
  exact pps_cons pe_str he hr
theorem se_disp {keys : List (Option Expr)} {values : List Expr} (kvs : List (List Nat × ME CV)) (h : PPs X pos keys values (trM X.K B W kvs)) (ok : Nat.ble kvs.length 15 = true := by rfl)
    (hall : keys.all (·.isSome) = true := by rfl) (hl : keys.length = values.length := by rfl) (h0 : keys ≠ [] := by exact List.cons_ne_nil _ _) (h15 : keys.length ≤ 15 := by decide) :
    SE X B W (.Dict keys values pos) (eDisp kvs) := by
  have ok := Nat.le_of_ble_eq_true ok
  refine PE.imp (pe_disp h hall hl h0 h15) fun σ H Q hh => ?_
  obtain ⟨ρ, h0, s, R, S, q⟩ := hh
  intro p hp
  have R1 : Rel X.K B (ρ ++ [p]) (upd H p (.dK [])) (h0.new (.dK [])) := R.new hp ⟨[], rfl, rfl⟩
  have pe1 : Per X.K H (upd H p (.dK [])) := .new hp
  have S1 := S.per (List.prefix_append ρ [p]) pe1
  refine tPairs_M R1 S1 (Post.imp (fun vs H2 hh => ?_) (Post.bind (rVs X.K B) (Post.later (List.prefix_append ρ [p]) pe1 q)))
  obtain ⟨xs, h2, ρ2, M, p2⟩ := hh
  have hn : ρ2[h0.os.length]? = some p := by
    obtain ⟨t, et⟩ := M.pre
    rw [← et, List.getElem?_append_left (by rw [List.length_append, R.len]; simp), ← R.len, List.getElem?_append_right (Nat.le_refl _), Nat.sub_self]
    rfl
  cases e : h2.os[h0.os.length]? with
  | none => simp only [e] at p2; exact p2.elim
  | some u =>
    simp only [e] at p2
    split at p2
    next u' e' =>
      obtain ⟨a, z, e1, e2, ro⟩ := M.rel.obj _ _ e
      rw [hn] at e1
      cases e1
      have e' : u = .dK [] := Option.some.inj e'
      subst e'
      obtain ⟨vs0, rfl, rk⟩ := ro
      have rk : vs0 = [] := rk
      subst rk
      have mu : Mut (H2 p) := by rw [e2]; trivial
      refine ⟨e2, List.zipWith (fun q v => ((.inr (sT q.1) : Key), v)) kvs vs, ?_, by rw [List.length_zipWith]; omega, ?_⟩
      · rw [List.map_zipWith]; rfl
      · exact p2 ρ2 _ (.ref p) (List.prefix_refl _) (.write mu) (M.rel.set hn mu ⟨_, rfl, (rep_puts (acc := []) (accV := []) rfl M.rp).per (List.prefix_refl _) (.write mu)⟩) ⟨p, hn, rfl⟩
    next => exact p2.elim
end
end Cn
set_option Elab.async false
set_option maxRecDepth 100000
set_option linter.all false
set_option maxHeartbeats 4000000
namespace Cn
open PySem PySem.Spec PyProof.Rows L2 He
theorem RepVs.intsOf {K : PySem.W.Frag} {sc : List Int} {ρ : List Addr} {H : Hp} : ∀ {cs : List CV} {bs : List Int} {vs : List V}, RepVs K sc ρ H cs vs → Cn.intsOf cs = some bs → vs = bs.map V.int
  | [], bs, _, h, e => by
    have e1 : _ = [] := h
    have e2 : ([] : List Int) = bs := Option.some.inj e
    rw [e1, ← e2]; rfl
  | x :: xs, bs, _, h, e => by
    obtain ⟨v, r, rfl, h1, h2⟩ := h
    cases x with
    | int b =>
      obtain ⟨q, e1, rfl⟩ := Option.map_eq_some_iff.mp (show (Cn.intsOf xs).map (b :: ·) = some bs from e)
      have e3 : v = .int b := h1
      rw [e3, RepVs.intsOf h2 e1]; rfl
    | _ => cases e
theorem maxI_le : ∀ (r : List Int) (a : Int), a ≤ maxI a r ∧ ∀ y ∈ r, y ≤ maxI a r
  | [], a => ⟨Int.le_refl _, fun y m => by cases m⟩
  | x :: r, a => by
    have ih := maxI_le r (if a < x then x else a)
    unfold maxI
    refine ⟨Int.le_trans (by split <;> omega) ih.1, fun y m => ?_⟩
    rcases List.mem_cons.mp m with rfl | m
    · exact Int.le_trans (by split <;> omega) ih.1
    · exact ih.2 y m
theorem maxI_mem : ∀ (r : List Int) (a : Int), maxI a r ∈ a :: r
  | [], a => by simp [maxI]
  | x :: r, a => by
    have ih := maxI_mem r (if a < x then x else a)
    unfold maxI
    rcases List.mem_cons.mp ih with e | m
    · rw [e]; split <;> simp
    · exact List.mem_cons_of_mem _ (List.mem_cons_of_mem _ m)
theorem v_maxL {B : Bs} {K : PySem.W.Frag} : VCall K B maxLV (rMax K) := by
  intro ρ H h cs vs W Q R r p
  unfold maxLV at p
  split at p
  · rename_i x
    obtain ⟨v, e, r1⟩ := one_rep r
    subst e
    split at p
    · rename_i b bs hb
      obtain ⟨xs, q1, q2⟩ := Option.bind_eq_some_iff.mp hb
      obtain ⟨a, ws, e1, hs, hr⟩ := R.sq r1 q1
      subst e1
      have e2 := RepVs.intsOf hr q2
      subst e2
      refine ⟨a, b :: bs, rfl, hs, by simp, fun m m1 m2 => ?_⟩
      have : m = maxI b bs := by
        have h1 := m2 _ (maxI_mem bs b)
        have h2 : m ≤ maxI b bs := by
          rcases List.mem_cons.mp m1 with e | m1
          · rw [e]; exact (maxI_le bs b).1
          · exact (maxI_le bs b).2 m m1
        omega
      rw [this]
      exact p.ok R rfl
    · exact p.elim
  · exact p.elim
abbrev rSortD : List V → Hp → VK → Prop := fun xs H Q => ∃ (a : Addr) (kvs : List (Key × V)) (ks : List Int), xs = [.ref a] ∧ Rd H a (.dK kvs) ∧ kvs.map (·.1) = ks.map Sum.inl ∧ ks.length < 64 ∧
    ∀ (ys : List Int) (p : Addr), ys.Perm ks → ys.Pairwise (· ≤ ·) → H p = none → Q (.ref p) (upd H p (.lst (ys.map V.int)))
theorem rep_keysI {K : PySem.W.Frag} {sc : List Int} {ρ : List Addr} {H : Hp} : ∀ {kvs : List (CK × CV)} {vs : List (Key × V)} {ks : List Int}, RepKs K sc ρ H keyC kvs vs → keysI kvs = some ks → vs.map (·.1) = ks.map Sum.inl
  | [], vs, ks, r, e => by
    have r : vs = [] := r
    have e2 : ([] : List Int) = ks := Option.some.inj e
    subst r; rw [← e2]; rfl
  | (.inl i, c) :: r, vs, ks, h, e => by
    obtain ⟨v, vs', rfl, h1, h2⟩ := h
    obtain ⟨q, e1, rfl⟩ := Option.map_eq_some_iff.mp (show (keysI r).map (i :: ·) = some ks from e)
    rw [List.map_cons, List.map_cons, rep_keysI h2 e1]; rfl
  | (.inr t, c) :: r, vs, ks, h, e => by cases e
theorem sortI_pw (l : List Int) : (sortI l).Pairwise (· ≤ ·) := by
  have := List.pairwise_mergeSort (le := fun a b : Int => decide (a ≤ b)) (fun a b c h1 h2 => by simp at *; omega) (fun a b => by simp; omega) l
  exact this.imp fun h => of_decide_eq_true h
theorem v_sortD {B : Bs} {K : PySem.W.Frag} : VCall K B sortDV rSortD := by
  intro ρ H h cs vs W Q R r p
  unfold sortDV at p
  split at p
  · rename_i n
    obtain ⟨v, e, r1⟩ := one_rep r
    subst e
    split at p
    · rename_i kvs hb
      obtain ⟨a, z, e1, e2, ro⟩ := R.obj _ _ hb
      obtain ⟨b, eb, ex⟩ := r1
      rw [e1] at eb
      cases eb
      subst ex
      obtain ⟨ws, rfl, rk⟩ := ro
      split at p
      · rename_i ks hk
        by_cases hl : ks.length < 64
        · rw [if_pos hl] at p
          refine ⟨a, ws, ks, rfl, .inl e2, rep_keysI rk hk, hl, fun ys q perm pw hq => ?_⟩
          have : ys = sortI ks := List.Perm.eq_of_pairwise (fun a b _ _ h1 h2 => Int.le_antisymm h1 h2) pw (sortI_pw ks) (perm.trans (List.mergeSort_perm ks _).symm)
          subst this
          exact Post.alloc (o := .lst ((sortI ks).map CV.int)) R hq ⟨_, rfl, RepVs.ints⟩ p
        · rw [if_neg hl] at p; exact p.elim
      · exact p.elim
    · exact p.elim
  · exact p.elim
abbrev rListDK : List V → Hp → VK → Prop := fun xs H Q => ∃ (a : Addr) (kvs : List (Key × V)), xs = [.ref a] ∧ Rd H a (.dK kvs) ∧ ∀ p, H p = none → Q (.ref p) (upd H p (.lst (kvs.map fun q => kV q.1)))
theorem rep_keysV {K : PySem.W.Frag} {sc : List Int} {ρ ρ' : List Addr} {H H' : Hp} : ∀ {kvs : List (CK × CV)} {vs : List (Key × V)}, RepKs K sc ρ H keyC kvs vs → (kvs.all fun q => keyOkC q.1) = true → RepVs K sc ρ' H' (kvs.map fun q => keyV q.1) (vs.map fun q => kV q.1)
  | [], vs, r, _ => by
    have r : vs = [] := r
    subst r; rfl
  | (k, c) :: r, vs, h, e => by
    obtain ⟨v, vs', rfl, h1, h2⟩ := h
    obtain ⟨o1, o2⟩ := Bool.and_eq_true_iff.mp (show (keyOkC k && r.all fun q => keyOkC q.1) = true from e)
    refine ⟨_, _, rfl, ?_, rep_keysV h2 o2⟩
    cases k with
    | inl i => exact rfl
    | inr l => exact ⟨rfl, fun c hc => of_decide_eq_true (List.all_eq_true.mp o1 c hc)⟩
theorem v_listD {B : Bs} {K : PySem.W.Frag} : VCall K B listDV rListDK := by
  intro ρ H h cs vs W Q R r p
  unfold listDV at p
  split at p
  · rename_i n
    obtain ⟨v, e, r1⟩ := one_rep r
    subst e
    split at p
    · rename_i kvs hb
      obtain ⟨a, z, e1, e2, ro⟩ := R.obj _ _ hb
      obtain ⟨b, eb, ex⟩ := r1
      rw [e1] at eb
      cases eb
      subst ex
      obtain ⟨ws, rfl, rk⟩ := ro
      by_cases ok : (kvs.all fun q => keyOkC q.1) = true
      · rw [if_pos ok] at p
        exact ⟨a, ws, rfl, .inl e2, fun q hq => Post.alloc (o := .lst (kvs.map fun q => keyV q.1)) R hq ⟨_, rfl, rep_keysV rk ok⟩ p⟩
      · rw [if_neg ok] at p; exact p.elim
    · exact p.elim
  · exact p.elim
end Cn
set_option Elab.async false
set_option linter.all false
set_option maxRecDepth 100000
set_option maxHeartbeats 4000000
namespace Cn
open PySem PySem.Spec PyProof.Rows L2
structure Pew (K : PySem.W.Frag) (H H' : Hp) : Prop where
  frzs : ∀ a o xs, H a = some (.frz o (.lst xs)) → H' a = some (.frz o (.lst xs))
  tupl : ∀ a xs, H a = some (.tup xs) → H' a = some (.tup xs)
section
variable {K : PySem.W.Frag} {B : Bs} {sc : List Int} {ρ : List Addr} {H H' : Hp} {h : CH}
theorem ScrAt.pew {a : Addr} {xs : List V} (p : Pew K H H') (h : ScrAt K H a xs) : ScrAt K H' a xs := by
  rcases h with ⟨o, h⟩ | h
  · exact .inl ⟨o, p.frzs _ _ _ h⟩
  · exact .inr h
mutual
theorem RepV.pew (q : Pew K H H') : ∀ (c : CV) (v : V), RepV K sc ρ H c v → RepV K sc ρ H' c v
  | .non, _, h => h
  | .bl _, _, h => h
  | .int _, _, h => h
  | .str _, _, h => h
  | .ref n, _, h => h
  | .tup xs, _, h => by
    obtain ⟨a, vs, e, e2, r⟩ := h
    exact ⟨a, vs, e, q.tupl _ _ e2, RepVs.pew q xs vs r⟩
  | .scr, _, h => by
    obtain ⟨a, e, e2⟩ := h
    exact ⟨a, e, e2.pew q⟩
theorem RepVs.pew (q : Pew K H H') : ∀ (cs : List CV) (vs : List V), RepVs K sc ρ H cs vs → RepVs K sc ρ H' cs vs
  | [], _, h => h
  | x :: xs, _, h => by
    obtain ⟨v, r, e, h1, h2⟩ := h
    exact ⟨v, r, e, RepV.pew q x v h1, RepVs.pew q xs r h2⟩
end
theorem RepKs.pew (q : Pew K H H') {κ κ' : Type} {f : κ → κ'} : ∀ {cs : List (κ × CV)} {vs : List (κ' × V)}, RepKs K sc ρ H f cs vs → RepKs K sc ρ H' f cs vs
  | [], _, h => h
  | (k, c) :: r, _, h => by
    obtain ⟨v, r', e, h1, h2⟩ := h
    exact ⟨v, r', e, RepV.pew q c v h1, RepKs.pew q h2⟩
theorem RepFs.pew (q : Pew K H H') : ∀ {cs : List (Nat × CV)} {vs : List (Str × V)}, RepFs K B sc ρ H cs vs → RepFs K B sc ρ H' cs vs
  | [], _, h => h
  | (k, c) :: r, _, h => by
    obtain ⟨f, v, r', e, h0, h1, h2⟩ := h
    exact ⟨f, v, r', e, h0, RepV.pew q c v h1, RepFs.pew q h2⟩
theorem RepO.pew (q : Pew K H H') {o : CO} {u : HO} (h : RepO K B sc ρ H o u) : RepO K B sc ρ H' o u := by
  cases o with
  | lst xs => obtain ⟨vs, e, r⟩ := h; exact ⟨vs, e, RepVs.pew q _ _ r⟩
  | dK kvs => obtain ⟨vs, e, r⟩ := h; exact ⟨vs, e, r.pew q⟩
  | dT kvs => obtain ⟨vs, e, r⟩ := h; exact ⟨vs, e, r.pew q⟩
  | ins c fs => obtain ⟨dx, vs, e, r, l⟩ := h; exact ⟨dx, vs, e, r.pew q, l⟩
  | fz kvs => obtain ⟨od, vs, e, r⟩ := h; exact ⟨od, vs, e, r.pew q⟩
theorem RepS.pew {s : CS} {σ : L2.St} (q : Pew K H H') (S : RepS K B ρ H s σ) : RepS K B ρ H' s σ :=
  ⟨S.1, fun i c e => let ⟨v, e2, r⟩ := S.2 i c e; ⟨v, e2, r.pew q⟩⟩
variable {d : Addr} {od : Obj} {vs : List (Key × V)} {n : Nat}
theorem pew_unl (hd : H d = some (.frz od (.dK vs))) : Pew K H (upd H d (.dK vs)) := by
  have ne : ∀ {a : Addr} {u : HO}, H a = some u → (∀ o w, u ≠ .frz o (.dK w)) → a ≠ d := fun {a u} e nu z => by
    rw [z, hd] at e
    exact nu _ _ (Option.some.inj e).symm
  exact ⟨fun a o xs e => by rw [upd_ne (ne e fun o w z => by cases z)]; exact e, fun a xs e => by rw [upd_ne (ne e fun o w z => by cases z)]; exact e⟩
theorem per_unl (hd : H d = some (.dK vs)) (p : Per K (upd H d (.frz od (.dK vs))) H') : Per K H (upd H' d (.dK vs)) := by
  have ne : ∀ {a : Addr} {u : HO}, H a = some u → (∀ w, u ≠ .dK w) → a ≠ d := fun {a u} e nu z => by
    rw [z, hd] at e
    exact nu _ (Option.some.inj e).symm
  refine ⟨fun a xs e => ?_, fun a o xs e => ?_, fun a xs e => ?_, fun a fs e => ?_, fun a o ws e => ?_⟩
  · rcases e with (e | ⟨o, e⟩) | e
    · have na := ne e fun w z => by cases z
      have := p.tups a xs (.inl (.inl (by rw [upd_ne na]; exact e)))
      rcases this with (z | ⟨o, z⟩) | z
      · exact .inl (.inl (by rw [upd_ne na]; exact z))
      · exact .inl (.inr ⟨o, by rw [upd_ne na]; exact z⟩)
      · exact .inr z
    · have na := ne e fun w z => by cases z
      have := p.tups a xs (.inl (.inr ⟨o, by rw [upd_ne na]; exact e⟩))
      rcases this with (z | ⟨o, z⟩) | z
      · exact .inl (.inl (by rw [upd_ne na]; exact z))
      · exact .inl (.inr ⟨o, by rw [upd_ne na]; exact z⟩)
      · exact .inr z
    · exact .inr e
  · have na := ne e fun w z => by cases z
    rw [upd_ne na]; exact p.frzs a o xs (by rw [upd_ne na]; exact e)
  · have na := ne e fun w z => by cases z
    rw [upd_ne na]; exact p.tupl a xs (by rw [upd_ne na]; exact e)
  · have na := ne e fun w z => by cases z
    rw [upd_ne na]; exact p.xds a fs (by rw [upd_ne na]; exact e)
  · have na := ne e fun w z => by cases z
    rw [upd_ne na]; exact p.frzd a o ws (by rw [upd_ne na]; exact e)
theorem Rel.lock (R : Rel K B ρ H h) {kvs : List (CK × CV)} (e : h.os[n]? = some (.dK kvs)) : ∃ d vs, ρ[n]? = some d ∧ H d = some (.dK vs) ∧ ∀ od, Rel K B ρ (upd H d (.frz od (.dK vs))) (lockC n kvs h) := by
  obtain ⟨a, u, e1, e2, vs, rfl, rk⟩ := R.obj _ _ e
  have mu : Mut (H a) := by rw [e2]; trivial
  exact ⟨a, vs, e1, e2, fun od => R.set e1 mu ⟨od, vs, rfl, rk.per (List.prefix_refl _) (.write mu)⟩⟩
theorem Rel.unlock (R : Rel K B ρ H h) {h' : CH} (e : unlC n h = some h') (ed : ρ[n]? = some d) (hd : H d = some (.frz od (.dK vs))) : Rel K B ρ (upd H d (.dK vs)) h' := by
  unfold unlC at e
  split at e
  · rename_i kvs q
    have e' : h.set n (.dK kvs) = h' := Option.some.inj e
    subst e'
    have pw : Pew K H (upd H d (.dK vs)) := pew_unl hd
    refine ⟨R.scq, ?_, R.nd, fun i x hx => ?_⟩
    · show ρ.length = (h.os.set n _).length
      rw [List.length_set]; exact R.len
    · have hx' : (h.os.set n (.dK kvs))[i]? = some x := hx
      by_cases hi : n = i
      · subst hi
        have hn : n < h.os.length := by rw [← R.len]; exact (List.getElem?_eq_some_iff.mp ed).1
        rw [List.getElem?_set_self hn] at hx'
        have ex : CO.dK kvs = x := Option.some.inj hx'
        subst ex
        obtain ⟨a, u, e1, e2, od', vs', rfl, rk⟩ := R.obj _ _ q
        rw [ed] at e1
        cases e1
        rw [hd] at e2
        cases e2
        exact ⟨d, _, ed, upd_same, vs, rfl, rk.pew pw⟩
      · rw [List.getElem?_set_ne hi] at hx'
        obtain ⟨b, w, e1, e2, e3⟩ := R.obj i x hx'
        have nb : b ≠ d := fun z => hi (by
          subst z
          exact Rel.set.nodup_ix_any R.nd ed e1)
        exact ⟨b, w, e1, by rw [upd_ne nb]; exact e2, e3.pew pw⟩
  · cases e
abbrev lockE (d : Addr) (od : Obj) (u : HO) (D : Ends) : Ends := ⟨fun σ' H' => H' d = some (.frz od u) ∧ D.nx σ' (upd H' d u), fun v H' => H' d = some (.frz od u) ∧ D.rt v (upd H' d u), fun σ' H' => H' d = some (.frz od u) ∧ D.bk σ' (upd H' d u), fun σ' H' => H' d = some (.frz od u) ∧ D.ct σ' (upd H' d u)⟩
theorem SOk.unl {W : WX} {r : SR} {D : Ends} {ρ1 : List Addr} {H1 : Hp} (p : SOk K B W (unlS n r) ρ H D) (ed : ρ[n]? = some d) (hd : H d = some (.dK vs)) (a : ρ <+: ρ1) (b : Per K (upd H d (.frz od (.dK vs))) H1) :
    SOk K B W r ρ1 H1 (lockE d od (.dK vs) D) := by
  have fz : ∀ {H' : Hp}, Per K H1 H' → H' d = some (.frz od (.dK vs)) := fun b' => (b.trans b').frzd d od vs upd_same
  cases r with
  | nx s h =>
    have p : SOk K B W (match unlC n h with
      | some h' => .nx s h'
      | none => .bad) ρ H D := p
    cases e : unlC n h with
    | none => rw [e] at p; exact p.elim
    | some h' =>
      rw [e] at p
      exact fun ρ' H' σ' a' b' R' S' => ⟨fz b', p ρ' _ σ' (a.trans a') (per_unl hd (b.trans b')) (R'.unlock e (pre_get (a.trans a') ed) (fz b')) (S'.pew (pew_unl (fz b')))⟩
  | rt v h =>
    have p : SOk K B W (match unlC n h with
      | some h' => .rt v h'
      | none => .bad) ρ H D := p
    cases e : unlC n h with
    | none => rw [e] at p; exact p.elim
    | some h' =>
      rw [e] at p
      exact fun ρ' H' σ' a' b' R' S' => ⟨fz b', p ρ' _ σ' (a.trans a') (per_unl hd (b.trans b')) (R'.unlock e (pre_get (a.trans a') ed) (fz b')) (RepV.pew (pew_unl (fz b')) _ _ S')⟩
  | bk s h =>
    have p : SOk K B W (match unlC n h with
      | some h' => .bk s h'
      | none => .bad) ρ H D := p
    cases e : unlC n h with
    | none => rw [e] at p; exact p.elim
    | some h' =>
      rw [e] at p
      exact fun ρ' H' σ' a' b' R' S' => ⟨fz b', p ρ' _ σ' (a.trans a') (per_unl hd (b.trans b')) (R'.unlock e (pre_get (a.trans a') ed) (fz b')) (S'.pew (pew_unl (fz b')))⟩
  | ct s h =>
    have p : SOk K B W (match unlC n h with
      | some h' => .ct s h'
      | none => .bad) ρ H D := p
    cases e : unlC n h with
    | none => rw [e] at p; exact p.elim
    | some h' =>
      rw [e] at p
      exact fun ρ' H' σ' a' b' R' S' => ⟨fz b', p ρ' _ σ' (a.trans a') (per_unl hd (b.trans b')) (R'.unlock e (pre_get (a.trans a') ed) (fz b')) (S'.pew (pew_unl (fz b')))⟩
  | ex c x s h => exact p.elim
  | bad => exact p.elim
theorem rep_keyAt {f : CK → Key} : ∀ {kvs : List (CK × CV)} {vs : List (Key × V)}, RepKs K sc ρ H f kvs vs → vs.length = kvs.length ∧ vs.map (·.1) = kvs.map fun q => f q.1
  | [], vs, r => by
    have r : vs = [] := r
    subst r; exact ⟨rfl, rfl⟩
  | (k, c) :: r, vs, h => by
    obtain ⟨v, vs', rfl, h1, h2⟩ := h
    obtain ⟨q1, q2⟩ := rep_keyAt h2
    exact ⟨by rw [List.length_cons, List.length_cons, q1], by rw [List.map_cons, List.map_cons, q2]⟩
theorem rep_key1 {k : CK} (e : keyOkC k = true) : RepV K sc ρ H (keyV k) (kV (keyC k)) := by
  cases k with
  | inl i => exact rfl
  | inr l => exact ⟨rfl, fun c hc => of_decide_eq_true (List.all_eq_true.mp e c hc)⟩
end
section
variable {X : Cx} {B : Bs} {W : WX} {a tg : Expr} {sts : List Stmt} {ma : ME CV} {m : MS} {g : MG} {pos : Pos} {K : PySem.W.Frag} {ρ : List Addr} {H : Hp} {D : Ends}
theorem dictA_ok {s : CS} {h : CH} {n : Nat} {kvs : List (CK × CV)} (e : dictA ma s h = some (n, kvs)) : h.os[n]? = some (.dK kvs) := by
  unfold dictA at e
  split at e
  · split at e
    · rename_i q
      cases e
      exact q
    · cases e
  · cases e
theorem keys_run {n : Nat} {kvs kvs1 : List (CK × CV)} {s : CS} {h h1 : CH} {σ : L2.St} {d : Addr} {od : Obj} {vs : List (Key × V)} {R : It → Hp → Prop} (e : keysL ma n kvs s h = some (kvs1, h1)) (ed : ρ[n]? = some d) (R0 : Rel K B ρ (upd H d (.frz od (.dK vs))) (lockC n kvs h))
    (S : RepS K B ρ (upd H d (.frz od (.dK vs))) s σ)
    (k : ∀ ρ1 H1, ρ <+: ρ1 → Per K (upd H d (.frz od (.dK vs))) H1 → Rel K B ρ1 H1 h1 → H1 d = some (.frz od (.dK vs)) → vs.length = kvs1.length → vs.map (·.1) = kvs1.map (fun q => keyC q.1) → (∀ q ∈ kvs1, keyOkC q.1 = true) → R (Itk d od vs) H1) :
    iKeys (tX K B (rV K B) W ma) σ (upd H d (.frz od (.dK vs))) R := by
  refine ⟨ρ, lockC n kvs h, s, R0, S, ?_⟩
  unfold keysL at e
  split at e
  · rename_i k' h' q
    rw [q]
    intro ρ1 H1 v a1 b1 R1 rv
    by_cases hk : k' = n
    · rw [if_pos hk] at e
      subst hk
      split at e
      · rename_i kvs' q2
        by_cases ok : (kvs'.all fun q => keyOkC q.1) = true
        · rw [if_pos ok] at e
          cases e
          obtain ⟨c, ec, ev⟩ := rv
          rw [pre_get a1 ed] at ec
          cases ec
          have hd : H1 d = some (.frz od (.dK vs)) := b1.frzd d od vs upd_same
          obtain ⟨c', u, e1, e2, od', vs', rfl, rk⟩ := R1.obj _ _ q2
          rw [pre_get a1 ed] at e1
          cases e1
          rw [hd] at e2
          cases e2
          obtain ⟨l1, l2⟩ := rep_keyAt rk
          exact ⟨d, od, ev, .inl ⟨vs, hd, k ρ1 H1 a1 b1 R1 hd l1 l2 fun q hq => List.all_eq_true.mp ok q hq⟩⟩
        · rw [if_neg ok] at e; cases e
      · cases e
    · rw [if_neg hk] at e; cases e
  · cases e
theorem ss_forD (hp : PassesOwn (model X.prog X.w) X.A X.env X.xe) (hc : X.calm = true) (ha : SE X B W a ma) (own : List Nat) (hg : SG X B own tg g) (hb : SSs X B W sts m) (hs : ∀ x, foldedSetIterable a X.env x = pure x := by intro _; rfl) : SS X B W (.For tg a sts [] pos) (sForD ma g m) :=
  PS.imp (ps_lock (ps_for hp hc (pi_keys ha) hg hb hs)) fun D σ H h => by
  obtain ⟨ρ, h0, s, R, S, p⟩ := h
  unfold sForD at p
  split at p
  · rename_i n kvs ea
    split at p
    · rename_i kvs1 h1 ek
      obtain ⟨d, vs, ed, hd, RL⟩ := R.lock (dictA_ok ea)
      refine ⟨d, .dK vs, hd, trivial, fun od => ?_⟩
      have mu : Mut (H d) := by rw [hd]; trivial
      refine keys_run ek ed (RL od) (S.per (List.prefix_refl _) (.write mu)) fun ρ1 H1 a1 b1 R1 hf hl hm hok => ?_
      have p1 := SOk.unl (od := od) p ed hd a1 b1
      have S1 : RepS X.K B ρ1 H1 s σ := (S.per (List.prefix_refl _) (.write mu)).per a1 b1
      refine ⟨fun i k σ H' => i + k = kvs1.length ∧ ∃ ρ h s, Per X.K H1 H' ∧ Rel X.K B ρ H' h ∧ RepS X.K B ρ H' s σ ∧ SOk X.K B W (keyLoop g m (kvs1.drop i) s h) ρ H' (lockE d od (.dK vs) D), ⟨kvs1.length, Nat.zero_add _, ρ1, h1, s, .refl, R1, S1, p1⟩, ?_⟩
      rintro i k σ H' ⟨hk, ρ', h', s', b', R', S', p⟩
      have hf' : H' d = some (.frz od (.dK vs)) := b'.frzd _ _ _ hf
      cases k with
      | zero =>
        have hi : kvs1.length ≤ i := by omega
        rw [List.drop_eq_nil_of_le hi] at p
        refine .inl ⟨⟨hf', by omega⟩, ?_⟩
        exact p.nx R' S'
      | succ k =>
        have hi : i < kvs1.length := by omega
        rw [List.drop_eq_getElem_cons hi] at p
        refine .inr ⟨⟨hf', by omega⟩, fun σ H' => ∃ ρ h s, Per X.K H1 H' ∧ Rel X.K B ρ H' h ∧ RepS X.K B ρ H' s σ ∧ SOk X.K B W (keyLoop g m (kvs1.drop (i + 1)) s h) ρ H' (lockE d od (.dK vs) D), fun σ' H'' w => ⟨k, Nat.lt_succ_self _, by omega, w⟩, fun y H'' yy => ?_⟩
        obtain ⟨eH, kk, v, ev, ey⟩ := yy
        subst eH ey
        have ek : keyC (kvs1[i]'hi).1 = kk := by
          have z : (vs.map (·.1))[i]? = some kk := by rw [List.getElem?_map, ev]; rfl
          rw [hm, List.getElem?_map, List.getElem?_eq_getElem hi] at z
          exact Option.some.inj z
        subst ek
        have ry : RepV X.K B.sc ρ' H'' (keyV (kvs1[i]'hi).1) (kV (keyC (kvs1[i]'hi).1)) := rep_key1 (hok _ (List.getElem_mem hi))
        unfold keyLoop at p
        cases q2 : g (keyV (kvs1[i]'hi).1) s' h' with
        | none => rw [q2] at p; exact p.elim
        | some pp =>
          obtain ⟨s1, h1'⟩ := pp
          rw [q2] at p
          simp only at p
          refine ⟨ρ', h', s', _, R', S', ry, s1, h1', q2, fun ρ2 H2 σ2 a2 c2 R2 S2 _ => ⟨ρ2, h1', s1, R2, S2, ?_⟩⟩
          cases q3 : m s1 h1' with
          | nx s2 h2 => rw [q3] at p; exact fun ρ'' H'' σ'' a' c' R'' S'' => ⟨ρ'', h2, s2, b'.trans (c2.trans c'), R'', S'', SOk.later (a2.trans a') (c2.trans c') p⟩
          | ct s2 h2 => rw [q3] at p; exact fun ρ'' H'' σ'' a' c' R'' S'' => ⟨ρ'', h2, s2, b'.trans (c2.trans c'), R'', S'', SOk.later (a2.trans a') (c2.trans c') p⟩
          | bk s2 h2 => rw [q3] at p; exact SOk.later (r := .nx s2 h2) a2 c2 p
          | rt x h2 => rw [q3] at p; exact SOk.later (r := .rt x h2) a2 c2 p
          | ex c d s2 h2 => rw [q3] at p; exact SOk.later (r := .ex c d s2 h2) a2 c2 p
          | bad => rw [q3] at p; exact p
    · exact p.elim
  · exact p.elim
theorem PS.either {X : Cx} {st : Stmt} {t1 t2 t : TS} (p : PS X st t1) (q : PS X st t2) (h : ∀ D σ H, t D σ H → t1 D σ H ∨ t2 D σ H) : PS X st t :=
  ⟨fun pins s σ H D I hw => (h D σ H hw).elim (fun x => p.run pins s σ H D I x) fun x => q.run pins s σ H D I x⟩
theorem ss_forA (hp : PassesOwn (model X.prog X.w) X.A X.env X.xe) (hc : X.calm = true) (ha : SE X B W a ma) (own : List Nat) (hg : SG X B own tg g) (hb : SSs X B W sts m) (hs : ∀ x, foldedSetIterable a X.env x = pure x := by intro _; rfl) : SS X B W (.For tg a sts [] pos) (sForA ma g m) :=
  PS.either (ss_forD hp hc ha own hg hb hs) (ss_for hp hc ha own hg hb hs) fun D σ H h => by
  obtain ⟨ρ, h0, s, R, S, p⟩ := h
  unfold sForA at p
  split at p
  · exact .inl ⟨ρ, h0, s, R, S, p⟩
  · exact .inr ⟨ρ, h0, s, R, S, p⟩
end
section
variable {X : Cx} {B : Bs} {W : WX} {a tg : Expr} {ma mk mv : ME CV} {ta : ME Bool} {g : MG} {pos : Pos} {K : PySem.W.Frag} {ρ : List Addr} {H : Hp}
theorem dturn_core {own : List Nat} {D : Nat} {Da : Addr} {x : CV} {y : V} {h h' : CH} {s : CS} {σ : L2.St} {Nx : Hp → Prop} (R : Rel K B ρ H h) (S : RepS K B ρ H s (wipe σ own)) (hD : ρ[D]? = some Da) (ry : RepV K B.sc ρ H x y)
    (e : dcTurn D g ta mk mv x s h = some h') (nx : ∀ ρ' H', ρ <+: ρ' → Per K H H' → Rel K B ρ' H' h' → Nx H') :
    tG K B own g y (wipe σ own) H fun σ2 H2 => wipe σ2 own = wipe σ own ∧ tX K B (rEqual Bool) W0 ta σ2 H2 fun b H3 =>
      if b = true then tX K B (rV K B) W0 mk σ2 H3 fun y H4 => tX K B (rV K B) W0 mv σ2 H4 fun z H5 => ∃ kvs k, y = kV k ∧ H5 Da = some (.dK kvs) ∧ kvs.length < sizeLine ∧ Nx (upd H5 Da (.dK (putK kvs k z))) else Nx H3 := by
  unfold dcTurn at e
  cases q1 : g x s h with
  | none => rw [q1] at e; cases e
  | some p1 =>
    obtain ⟨s1, h1⟩ := p1
    rw [q1] at e
    simp only at e
    refine ⟨ρ, h, s, x, R, S, ry, s1, h1, q1, fun ρ2 H2 σ2 a2 b2 R2 S2 ew => ⟨?_, ρ2, h1, s1, R2, S2, ?_⟩⟩
    · rw [ew]
      refine List.ext_getElem? fun j => ?_
      rw [wipe_get, wipe_get, wipe_length]
      by_cases hj : j ∈ own ∧ j < σ.length
      · rw [if_pos hj, if_pos hj]
      · rw [if_neg hj, if_neg hj]
    cases q2 : ta s1 h1 with
    | bad => rw [q2] at e; cases e
    | ex c d h2 => rw [q2] at e; cases e
    | ok k h2 =>
      rw [q2] at e
      intro ρ3 H3 v a3 b3 R3 ev
      have ev' : k = v := ev
      subst ev'
      cases k with
      | false =>
        simp only at e
        cases e
        rw [if_neg Bool.false_ne_true]
        exact nx ρ3 H3 (a2.trans a3) (b2.trans b3) R3
      | true =>
        simp only at e
        rw [if_pos rfl]
        refine ⟨ρ3, h2, s1, R3, S2.per a3 b3, ?_⟩
        cases q3 : mk s1 h2 with
        | bad => rw [q3] at e; cases e
        | ex c d h3 => rw [q3] at e; cases e
        | ok ky h3 =>
          rw [q3] at e
          simp only at e
          intro ρ4 H4 wk a4 b4 R4 rwk
          refine ⟨ρ4, h3, s1, R4, (S2.per a3 b3).per a4 b4, ?_⟩
          cases q5 : mv s1 h3 with
          | bad => rw [q5] at e; cases e
          | ex c d h4 => rw [q5] at e; cases e
          | ok z h4 =>
            rw [q5] at e
            simp only at e
            intro ρ5 H5 w a5 b5 R5 rw'
            cases q4 : h4.os[D]? with
            | none => rw [q4] at e; cases e
            | some ob =>
              rw [q4] at e
              cases ob with
              | dK kvs =>
                simp only at e
                cases q6 : keyOf ky with
                | none => rw [q6] at e; cases e
                | some kq =>
                  rw [q6] at e
                  simp only at e
                  by_cases hl : kvs.length < LINE
                  · rw [if_pos hl] at e
                    cases e
                    have hD5 : ρ5[D]? = some Da := pre_get (a2.trans (a3.trans (a4.trans a5))) hD
                    obtain ⟨a', u, f1, f2, vs, rfl, rk⟩ := R5.obj _ _ q4
                    rw [hD5] at f1
                    cases f1
                    have mu : Mut (H5 Da) := by rw [f2]; trivial
                    have ek := key_rep rwk q6
                    refine ⟨vs, keyC kq, ek, f2, by rw [(rep_keyAt rk).1, ← line_eq]; exact hl, nx ρ5 _ (a2.trans (a3.trans (a4.trans a5))) ((b2.trans (b3.trans (b4.trans b5))).trans (.write mu)) (R5.set hD5 mu ⟨_, rfl, ?_⟩)⟩
                    exact (rep_putK (fun _ _ => keyC_inj) kq rw' rk).per (List.prefix_refl _) (.write mu)
                  · rw [if_neg hl] at e; cases e
              | _ => cases e
theorem tX_dcomp {σ : L2.St} {H : Hp} {Q : VK} {own : List Nat} (h : tX K B (rV K B) W (eDComp own ma g ta mk mv) σ H Q) :
    tLockE (tDc (iKeys (tX K B (rV K B) W ma)) (tG K B own g) (tX K B (rEqual Bool) W0 ta) (tX K B (rV K B) W0 mk) (tX K B (rV K B) W0 mv) own) σ H Q := by
  obtain ⟨ρ, h0, s, R, S, p⟩ := h
  unfold eDComp at p
  split at p
  · rename_i n kvs ea
    split at p
    · rename_i kvs1 h1 ek
      obtain ⟨d, vs, ed, hd, RL⟩ := R.lock (dictA_ok ea)
      refine ⟨d, .dK vs, hd, trivial, fun od => ?_⟩
      have mu : Mut (H d) := by rw [hd]; trivial
      refine keys_run ek ed (RL od) (S.per (List.prefix_refl _) (.write mu)) fun ρ1 H1 a1 b1 R1 hf hl hm hok D hD => ?_
      have S1 : RepS K B ρ1 H1 s σ := (S.per (List.prefix_refl _) (.write mu)).per a1 b1
      cases qL : dcLoop h1.os.length g ta mk mv (wipeC s own) kvs1 (h1.new (.dK [])) with
      | none => rw [qL] at p; exact p.elim
      | some hfin =>
        rw [qL] at p
        simp only at p
        cases qU : unlC n hfin with
        | none => rw [qU] at p; exact p.elim
        | some h3 =>
          rw [qU] at p
          have R2 : Rel K B (ρ1 ++ [D]) (upd H1 D (.dK [])) (h1.new (.dK [])) := R1.new hD ⟨[], rfl, rfl⟩
          have hDr : (ρ1 ++ [D])[h1.os.length]? = some D := by
            rw [← R1.len, List.getElem?_append_right (Nat.le_refl _), Nat.sub_self] <;> rfl
          refine ⟨fun i k H' => i + k = kvs1.length ∧ ∃ ρ' h', (ρ1 ++ [D]) <+: ρ' ∧ Per K H1 H' ∧ Rel K B ρ' H' h' ∧ dcLoop h1.os.length g ta mk mv (wipeC s own) (kvs1.drop i) h' = some hfin, ⟨kvs1.length, Nat.zero_add _, ρ1 ++ [D], h1.new (.dK []), List.prefix_refl _, .new hD, R2, qL⟩, ?_⟩
          rintro i k H' ⟨hk, ρ', h', a', b', R', q⟩
          have pr : ρ1 <+: ρ' := (List.prefix_append _ _).trans a'
          have hf' : H' d = some (.frz od (.dK vs)) := b'.frzd _ _ _ hf
          cases k with
          | zero =>
            have hi : kvs1.length ≤ i := by omega
            rw [List.drop_eq_nil_of_le hi] at q
            have e' : h' = hfin := Option.some.inj q
            subst e'
            refine .inl ⟨⟨hf', by omega⟩, hf', ?_⟩
            exact p ρ' _ (.ref D) (a1.trans pr) (per_unl hd (b1.trans b')) (R'.unlock qU (pre_get (a1.trans pr) ed) hf') ⟨D, pre_get a' hDr, rfl⟩
          | succ k =>
            have hi : i < kvs1.length := by omega
            rw [List.drop_eq_getElem_cons hi] at q
            unfold dcLoop at q
            split at q
            · rename_i h2 q2
              refine .inr ⟨⟨hf', by omega⟩, fun H' => ∃ ρ' h', (ρ1 ++ [D]) <+: ρ' ∧ Per K H1 H' ∧ Rel K B ρ' H' h' ∧ dcLoop h1.os.length g ta mk mv (wipeC s own) (kvs1.drop (i + 1)) h' = some hfin, fun H' w => ⟨k, Nat.lt_succ_self _, by omega, w⟩, fun y H'' yy => ?_⟩
              obtain ⟨eH, kk, v, ev, ey⟩ := yy
              subst eH ey
              have ek : keyC (kvs1[i]'hi).1 = kk := by
                have z : (vs.map (·.1))[i]? = some kk := by rw [List.getElem?_map, ev]; rfl
                rw [hm, List.getElem?_map, List.getElem?_eq_getElem hi] at z
                exact Option.some.inj z
              subst ek
              have ry : RepV K B.sc ρ' H'' (keyV (kvs1[i]'hi).1) (kV (keyC (kvs1[i]'hi).1)) := rep_key1 (hok _ (List.getElem_mem hi))
              exact dturn_core (D := h1.os.length) R' ((wipe_rep S1 own).per pr b') (pre_get a' hDr) ry q2 fun ρ'' H'' a'' b'' R'' => ⟨ρ'', h2, a'.trans a'', b'.trans b'', R'', q⟩
            · cases q
    · exact p.elim
  · exact p.elim
theorem se_dcomp {kx vx it : Expr} {ifs : List Expr} {scope : Scope} {own : List (Str × Nat)} (hc : X.calm = true) (hN : X.N.Nodup) (ha : SE X B W it ma) (ok : BlkOk X.N X.env.scope scope own) (hg : ∀ (s : Shared) (H : Hp) (C : Addr) (cl : List (Str × Addr)) (fp : List Addr), SG (Blk X scope s H C cl fp) B (own.map (·.2)) tg g)
    (ht : ∀ (s : Shared) (H : Hp) (C : Addr) (cl : List (Str × Addr)) (fp : List Addr), STs (Blk X scope s H C cl fp) B W0 ifs ta) (hk : ∀ (s : Shared) (H : Hp) (C : Addr) (cl : List (Str × Addr)) (fp : List Addr), SE (Blk X scope s H C cl fp) B W0 kx mk)
    (he : ∀ (s : Shared) (H : Hp) (C : Addr) (cl : List (Str × Addr)) (fp : List Addr), SE (Blk X scope s H C cl fp) B W0 vx mv)
    (hs : ∀ x, foldedSetIterable it X.env x = pure x := by intro _; rfl) : SE X B W (.DictComp kx vx [⟨tg, it, ifs, 0⟩] scope pos) (eDComp (own.map (·.2)) ma g ta mk mv) :=
  PE.imp (pe_lock (pe_dc hc hN (pi_keys ha) ok hg ht hk he hs)) fun σ H Q h => tX_dcomp h
end
end Cn
set_option Elab.async false
set_option linter.all false
set_option maxRecDepth 100000
set_option maxHeartbeats 4000000
namespace Cn
open PySem PySem.Spec PyProof.Rows L2
def rMaxDef (K : PySem.W.Frag) (d : Int) : List V → List V → Hp → VK → Prop := fun vs zs H Q => ∃ (a : Addr) (ns : List Int), vs = [V.ref a] ∧ zs = [.int d] ∧ SqL K H a (ns.map V.int) ∧ (ns = [] → Q (.int d) H) ∧
  ∀ m, m ∈ ns → (∀ y, y ∈ ns → y ≤ m) → Q (.int m) H
theorem holds_int {h : Heap} {v : Value} {x : Int} (H : PySem.W.Holds h v x) : ∃ t, v = .int x t := by
  obtain ⟨as, r⟩ := H
  have r : Reads h v (.int x) as := r
  cases r with
  | int => exact ⟨_, rfl⟩
theorem hold_ints {h : Heap} : ∀ {its : List Value} {ns : List Int}, Vals (ns.map V.int) its → PySem.W.HoldAll h its ns
  | its, [], r => by
    cases r
    exact PySem.W.HoldAll.nil
  | its, n :: ns, r => by
    cases r with
    | cons a b =>
      obtain ⟨t, rfl⟩ := a
      exact PySem.W.HoldAll.cons ⟨_, .int _ _⟩ (hold_ints b)
theorem maxOf_max : ∀ (ys : List Int) (y : Int), PySem.W.maxOf y ys ∈ y :: ys ∧ ∀ x ∈ y :: ys, x ≤ PySem.W.maxOf y ys
  | [], y => ⟨by simp [PySem.W.maxOf], fun x m => by simp at m; subst m; exact Int.le_refl _⟩
  | z :: ys, y => by
    have ih := maxOf_max ys (if y < z then z else y)
    have e : PySem.W.maxOf y (z :: ys) = PySem.W.maxOf (if y < z then z else y) ys := by
      unfold PySem.W.maxOf
      rw [List.foldl_cons]
      congr 1
      show (if decide (y < z) = true then z else y) = _
      by_cases c : y < z <;> simp [c]
    rw [e]
    refine ⟨?_, fun x m => ?_⟩
    · rcases List.mem_cons.mp ih.1 with e2 | m
      · rw [e2]; split <;> simp
      · exact List.mem_cons_of_mem _ (List.mem_cons_of_mem _ m)
    · have h0 := ih.2 _ (List.mem_cons_self ..)
      rcases List.mem_cons.mp m with rfl | m
      · refine Int.le_trans ?_ h0
        split <;> omega
      · rcases List.mem_cons.mp m with rfl | m
        · refine Int.le_trans ?_ h0
          split <;> omega
        · exact ih.2 x (List.mem_cons_of_mem _ m)
theorem cr_maxDef {X : Cx} {d : Int} (hc : X.calm = true) (hu : X.A.units + 1 < cLine) : CallRK X (.builtin "max") [Str.ofString "default"] (rMaxDef X.K d) := by
  intro pins s σ H vs zs us ws Q I r rz h
  obtain ⟨a, ns, rfl, rfl, hs, q0, q⟩ := h
  obtain ⟨its, rv, hl, _⟩ := I.list hs
  rw [Vals.ref1 r]
  cases rz with
  | cons r1 rr =>
    cases rr
    obtain ⟨t, rfl⟩ := r1
    refine PySem.W.max_list_datum_default (α := Int) (I.ok.hd hc) hl.isList (hold_ints rv) (by show X.A.units + 1 + 0 < cLine; omega) (fun e h' tk hk => ⟨.int _, H, I.kept hk, ⟨_, rfl⟩, q0 e⟩) fun y ys i v h' tk e hv hh hk => ?_
    obtain ⟨t', rfl⟩ := holds_int hh
    have mm := maxOf_max ys y
    rw [← e] at mm
    exact ⟨.int _, H, I.kept hk, ⟨_, rfl⟩, q _ mm.1 mm.2⟩
section
variable {X : Cx} {B : Bs} {W : WX} {e : Expr} {ma : ME CV} {p pos p1 p2 kp : Pos} {k : Nat}
theorem se_maxDef {d : Int} {de : Expr} (hr : Room k X.A) (hc : X.calm = true) (hg : Gl X "max") (hm : X.mg "max" = none) (ha : SE X B W e ma) (hd : PE X de (tC (.int d))) (hse : starEach [e] X.env = (false, eval e X.env) :: starEach [] X.env := by rfl)
    (he : backTo pos (starEach [e] X.env) = (false, eval e X.env) :: backTo pos (starEach [] X.env) := by rfl) (hpl : (backTo pos (starEach [e] X.env)).any (·.1) = false := by rfl)
    (hall : (backToKw pos (keywordEach [⟨some "default", de, kp⟩] X.env)).all (·.1.isSome) = true := by rfl) (hnone : (backToKw pos (keywordEach [⟨some "default", de, kp⟩] X.env)).any (·.1.isNone) = false := by rfl) (hks : (backToKw pos (keywordEach [⟨some "default", de, kp⟩] X.env)).filterMap (·.1) = [Str.ofString "default"] := by rfl) :
    SE X B W (.Call (.Name "max" p) [e] [⟨some "default", de, kp⟩] pos) (eMaxD d ma) :=
  PE.imp (pe_callBK (cr_maxDef hc (un1 hr)) hg hm rfl (pa_cons ha pa_nil hse) (pk_cons hd pk_nil) (by decide +kernel) (by decide +kernel) he hpl hall hnone hks) fun σ H Q h => by
  refine tX_bind (rep := rV X.K B) (f := fun s x h1 => match (lstOf h1 x).bind intsOf with
    | some [] => (.ok (CV.int d) h1 : Res CV)
    | some (b :: bs) => .ok (.int (maxI b bs)) h1
    | none => .bad) h fun ρ1 h1 s x v H1 R S r p => ?_
  show rMaxDef X.K d [v] [.int d] H1 Q
  cases hb : (lstOf h1 x).bind intsOf with
  | none => rw [hb] at p; exact p.elim
  | some bs =>
    rw [hb] at p
    obtain ⟨xs, q1, q2⟩ := Option.bind_eq_some_iff.mp hb
    obtain ⟨a, ws, e1, hs, hr'⟩ := R.sq r q1
    subst e1
    have e2 := RepVs.intsOf hr' q2
    subst e2
    refine ⟨a, bs, rfl, rfl, hs, fun e0 => ?_, fun m m1 m2 => ?_⟩
    · subst e0
      exact p.ok R rfl
    · cases bs with
      | nil => cases m1
      | cons b bs =>
        have : m = maxI b bs := by
          have h1 := m2 _ (maxI_mem bs b)
          have h2 : m ≤ maxI b bs := by
            rcases List.mem_cons.mp m1 with e | m1
            · rw [e]; exact (maxI_le bs b).1
            · exact (maxI_le bs b).2 m m1
          omega
        rw [this]
        exact p.ok R rfl
end
end Cn
set_option Elab.async false
set_option linter.all false
set_option maxRecDepth 100000
set_option maxHeartbeats 4000000
namespace Cn
open PySem PySem.Spec PyProof.Rows L2
theorem v_lenD {B : Bs} {K : PySem.W.Frag} : VCall K B lenDV (fun xs H Q => ∃ (a : Addr) (kvs : List (Key × V)), xs = [V.ref a] ∧ H a = some (.dK kvs) ∧ Q (.int kvs.length) H) := by
  intro ρ H h cs vs W Q R r p
  unfold lenDV at p
  split at p
  · rename_i n
    obtain ⟨v, e, r1⟩ := one_rep r
    subst e
    split at p
    · rename_i kvs hb
      obtain ⟨a, z, e1, e2, ro⟩ := R.obj _ _ hb
      obtain ⟨b, eb, ex⟩ := r1
      rw [e1] at eb
      cases eb
      subst ex
      obtain ⟨ws, rfl, rk⟩ := ro
      refine ⟨a, ws, rfl, e2, ?_⟩
      rw [repKs_len rk]
      exact p.ok R rfl
    · exact p.elim
  · exact p.elim
end Cn
set_option Elab.async false
set_option linter.all false
set_option maxRecDepth 100000
set_option maxHeartbeats 4000000
namespace Cn
open PySem PySem.Spec PyProof.Rows L2
theorem replL_one (c : Nat) (z : List Nat) : ∀ l, StrLaws.replL [c] z l = replC c z l
  | [] => StrLaws.replL_nil
  | x :: r => by
    have ih := replL_one c z r
    unfold StrLaws.replL at ih ⊢
    unfold replC
    rw [StrLaws.replS]
    by_cases h : x = c
    · rw [if_pos h, if_pos (by simp [h])]
      exact congrArg (z ++ ·) ih
    · rw [if_neg h, if_neg (by simp [h]), ih]
theorem PET.imp {X : Cx} {e : Expr} {t t' : TE} (p : PET X e t) (h : ∀ σ H Q, t' σ H Q → t σ H Q) : PET X e t' := fun pins s σ H Q h0 I hw => p pins s σ H Q h0 I (h σ H Q hw)
section
variable {X : Cx} {B : Bs} {W : WX} {a x y o : Expr} {ta tx ty : TE} {ma mx my mo : ME CV} {i : Int} {j k : Nat} {cp p1 pos apos c0 c1 : Pos} {r : R2}
theorem pe_ifT (ho : OpR X (compareOp .Eq) r) (ha : PE X a ta) (hx : PET X x tx) (hy : PET X y ty) : PE X (.IfExp (.Compare a [.Eq] [.Constant (.int i) j cp] p1) x y pos) (tIf (tTest (tOp r ta (tC (.int i)))) tx ty) := by
  refine ⟨fun pins s σ H Q I h => ?_⟩
  refine wpAny_IfExp ?_
  refine wpAny_isTrue_Compare1 (thn (ha.run pins s σ H _ I h) fun v s1 ⟨x1, H1, I1, r1, q1⟩ => wpAny_Constant_int (wpAny_mono (PySem.wpAny_toks (ho pins _ σ H1 x1 (.int i) v _ _ (I1.tok (s1.toks + 1)) r1 ⟨_, rfl⟩ q1)) (fun c s3 q => ?_) fun _ _ z => z.2)) (nobehind _ (by decide) (by decide))
  obtain ⟨hk, z, H3, I3, r3, kk, e, q3⟩ := q
  have hk : s1.toks + 1 ≤ s3.toks := hk
  subst e
  cases r3
  refine wpAny_truthy_bool ?_
  cases kk with
  | true => exact hx pins s3 σ H3 Q (by omega) I3 q3
  | false => exact hy pins s3 σ H3 Q (by omega) I3 q3
theorem se_ifT (hu : X.A.units + 64 < cLine) (ha : SE X B W a ma) (hx : PET X x (tX X.K B (rV X.K B) W mx)) (hy : PET X y (tX X.K B (rV X.K B) W my)) : SE X B W (.IfExp (.Compare a [.Eq] [.Constant (.int i) j cp] p1) x y pos) (eIf (tV (e2 Cn.eqV ma (eC (.int i)))) mx my) := by
  refine PE.imp (pe_ifT (op_eqD hu) ha hx hy) fun σ H Q h => ?_
  show tTest (tOp _ (tX X.K B (rV X.K B) W ma) (tC (.int i))) σ H _
  have h2 := tX_bool (f := fun s k h1 => if k then mx s h1 else my s h1) (R := fun c H1 => if c = true then tX X.K B (rV X.K B) W mx σ H1 Q else tX X.K B (rV X.K B) W my σ H1 Q) h fun k H1 h1 => by
    cases k with
    | true => exact h1
    | false => exact h1
  have h3 := tX_op2 (Q := fun x H' => ∃ k, x = .bl k ∧ (if k = true then tX X.K B (rV X.K B) W mx σ H' Q else tX X.K B (rV X.K B) W my σ H' Q)) v_eq (tX_tV h2)
  refine tX_mono h3 fun v H1 h4 => ?_
  exact tX_ok (rep := rV X.K B) (c := .int i) (v := V.int i) h4 fun _ => rfl
theorem set_replC (c : Nat) (z : List Nat) {y zs : Str} (ho : SE X B W o mo)
    (h : (decide (y = ⟨[c].toArray⟩) && decide (zs = ⟨z.toArray⟩) && decide (z.length ≤ 10) && z.all fun c => decide (c < 1114112)) = true := by decide +kernel) (hyz : (y == zs) = false := by decide +kernel)
    (hst : starEach [.Constant (.str y) j c0, .Constant (.str zs) k c1] X.env = [(false, eval (.Constant (.str y) j c0) X.env), (false, eval (.Constant (.str zs) k c1) X.env)] := by rfl)
    (hbase : attributeBase o "replace" X.env (eval o X.env) = eval o X.env := by rfl) (hline : (apos.endLine == pos.line) = true := by rfl) :
    PET X (.Call (.Attribute o "replace" apos) [.Constant (.str y) j c0, .Constant (.str zs) k c1] [] pos) (tX X.K B (rV X.K B) W (eReplC c z mo)) := by
  obtain ⟨h, h4⟩ := Bool.and_eq_true_iff.mp h
  obtain ⟨h, h3⟩ := Bool.and_eq_true_iff.mp h
  obtain ⟨h1, h2⟩ := Bool.and_eq_true_iff.mp h
  have h1 := of_decide_eq_true h1
  have h2 := of_decide_eq_true h2
  have h3 := of_decide_eq_true h3
  subst h1 h2
  refine PET.imp (CwR.pet_replC ho hyz hst hbase hline) fun σ H Q q => ?_
  refine tX_bind (rep := rV X.K B) (f := fun _ (x : CV) (h1 : CH) => match x with
    | CV.str l => if l.length ≤ 4000 then Res.ok (CV.str (replC c z l)) h1 else Res.bad
    | _ => Res.bad) q fun ρ1 h1 s a v H1 R1 S1 r1 p1 => ?_
  cases a with
  | str l =>
    obtain ⟨e, pt⟩ := r1
    subst e
    have p1 : Post X.K B (rV X.K B) (fun c d H' => W c d σ H') (if l.length ≤ 4000 then .ok (.str (replC c z l)) h1 else .bad) ρ1 H1 Q := p1
    by_cases hl : l.length ≤ 4000
    · rw [if_pos hl] at p1
      refine ⟨_, rfl, ?_, ?_⟩
      · have e1 : (⟨l.toArray⟩ : Str).length = l.length := rfl
        have e2 : (⟨z.toArray⟩ : Str).length = z.length := rfl
        rw [e1, e2]
        have : (l.length + 1) * z.length ≤ 4001 * 10 := Nat.mul_le_mul (by omega) h3
        omega
      · have e3 : (Txt.replace ⟨l.toArray⟩ ⟨[c].toArray⟩ ⟨z.toArray⟩ : Str) = ⟨(replC c z l).toArray⟩ := by
          have := StrLaws.replace_list (x := ⟨l.toArray⟩) (y := ⟨[c].toArray⟩) (z := ⟨z.toArray⟩) (Nat.le_refl 1)
          have e4 : (Txt.replace ⟨l.toArray⟩ ⟨[c].toArray⟩ ⟨z.toArray⟩ : Str).cps.toList = replC c z l := by rw [this]; exact replL_one c z l
          rw [← e4]
        rw [e3]
        refine p1.ok R1 ⟨rfl, ?_⟩
        have mem : ∀ (l : List Nat), Pts l → Pts (replC c z l) := by
          intro l
          induction l with
          | nil => exact fun h => h
          | cons x r ih =>
            intro h y hy
            have hr : Pts r := fun y hy => h y (List.mem_cons_of_mem _ hy)
            unfold replC at hy
            split at hy
            · rcases List.mem_append.mp hy with hy | hy
              · exact of_decide_eq_true (List.all_eq_true.mp h4 y hy)
              · exact ih hr y hy
            · rcases List.mem_cons.mp hy with e | hy
              · rw [e]; exact h x (List.mem_cons_self ..)
              · exact ih hr y hy
        exact mem l pt
    · rw [if_neg hl] at p1; exact p1.elim
  | _ => exact p1.elim
end
structure RowV where
  a : Addr
  n : Int
  s1 : Str
  s2 : Str
  t : Int
  e : Option (Int × Int)
def RowV.vals (r : RowV) : List V := [.int r.n, .str r.s1, .str r.s2, .int r.t] ++ match r.e with
  | none => [.non, .non]
  | some (x, y) => [.int x, .int y]
def dat : V → PyData
  | .int i => .int i
  | .str s => .str s
  | _ => .none
def FlatR : V → Prop
  | .int _ => True
  | .str _ => True
  | .non => True
  | _ => False
def RowV.enc (r : RowV) : PyData := .list (r.vals.map dat)
def sortRV (rows : List RowV) : List RowV := rows.mergeSort fun a b => decide (a.n ≤ b.n)
abbrev rSortR (K : PySem.W.Frag) : List V → Hp → VK → Prop := fun xs H Q => ∃ (a : Addr) (rows : List RowV), xs = [.ref a] ∧ SqL K H a (rows.map fun r => V.ref r.a) ∧ (∀ r ∈ rows, H r.a = some (.lst r.vals)) ∧ (∀ r ∈ rows, ∀ r' ∈ rows, r.e.isSome = r'.e.isSome) ∧
  (rows.map (·.n)).Nodup ∧ rows.length < 1000 ∧ ∀ p, H p = none → Q (.ref p) (upd H p (.lst ((sortRV rows).map fun r => V.ref r.a)))
theorem reads_flat {h : Heap} : ∀ {vs : List V} {us : List Value}, Vals vs us → (∀ v ∈ vs, FlatR v) → ∃ as, ReadsAll h us (vs.map dat) as
  | _, _, .nil, _ => ⟨[], .nil⟩
  | v :: vs, u :: us, .cons r t, f => by
    obtain ⟨bs, h2⟩ := reads_flat t fun v hv => f v (List.mem_cons_of_mem _ hv)
    have fv := f v (List.mem_cons_self ..)
    have : ∃ as, Reads h u (dat v) as := by
      cases v with
      | int i => obtain ⟨tk, rfl⟩ := r; exact ⟨[], .int i tk⟩
      | str s => obtain ⟨tk, rfl⟩ := r; exact ⟨[], .str s tk⟩
      | non => cases r; exact ⟨[], .none⟩
      | _ => exact fv.elim
    obtain ⟨as, h1⟩ := this
    exact ⟨as ++ bs, .cons h1 h2⟩
theorem RowV.flat (r : RowV) : ∀ v ∈ r.vals, FlatR v := by
  obtain ⟨a, n, s1, s2, t, e⟩ := r
  cases e with
  | none => intro v hv; simp [RowV.vals] at hv; rcases hv with rfl | rfl | rfl | rfl | rfl <;> trivial
  | some q => intro v hv; simp [RowV.vals] at hv; rcases hv with rfl | rfl | rfl | rfl | rfl | rfl <;> trivial
theorem RowV.alike {r r' : RowV} (h : r.e.isSome = r'.e.isSome) : PySem.W.alike r.enc r'.enc = true := by
  obtain ⟨a, n, s1, s2, t, e⟩ := r
  obtain ⟨a', n', s1', s2', t', e'⟩ := r'
  cases e <;> cases e' <;> simp [RowV.enc, RowV.vals, dat, PySem.W.alike, PySem.W.alikeAll] at h ⊢
theorem RowV.depth (r : RowV) : r.enc.depth = 1 := by
  obtain ⟨a, n, s1, s2, t, e⟩ := r
  cases e <;> simp [RowV.enc, RowV.vals, dat, PyData.depth, PyData.depthAll]
theorem RowV.le {r r' : RowV} (h : r.n ≠ r'.n) : PySem.W.dataLe false RowV.enc r r' = decide (r.n ≤ r'.n) := by
  rw [PySem.W.dataLe_eq]
  show (!PySem.W.dataLt r'.enc r.enc) = _
  have e1 : r.enc = .list (.int r.n :: (r.vals.tail.map dat)) := rfl
  have e2 : r'.enc = .list (.int r'.n :: (r'.vals.tail.map dat)) := rfl
  rw [e1, e2, PySem.W.dataLt_list, PySem.W.dataLt_cons (by simp [PySem.W.alike]), if_neg (by simp [PyData.eqv]; omega), PySem.W.dataLt_int]
  by_cases q : r'.n < r.n
  · rw [decide_eq_true q, decide_eq_false (by omega)]; rfl
  · rw [decide_eq_false q, decide_eq_true (by omega)]; rfl
theorem RowV.le_self (r : RowV) : PySem.W.dataLe false RowV.enc r r = true := by
  rcases (PySem.W.sortLe_total (listOrd itemOrd) false fun b : RowV => PySem.W.keyToks b.enc).total r r with h | h <;> exact h
theorem sortRV_eq {rows : List RowV} (nd : (rows.map (·.n)).Nodup) : rows.mergeSort (PySem.W.dataLe false RowV.enc) = sortRV rows := by
  refine PySem.W.sort_congr fun a ha b hb => ?_
  by_cases h : a.n = b.n
  · have : a = b := by
      obtain ⟨i, hi, ei⟩ := List.mem_iff_getElem.mp ha
      obtain ⟨j, hj, ej⟩ := List.mem_iff_getElem.mp hb
      have : i = j := by
        have h1 : (rows.map (·.n))[i]'(by simpa using hi) = (rows.map (·.n))[j]'(by simpa using hj) := by simp [ei, ej, h]
        exact (List.getElem_inj nd).mp h1
      subst this
      rw [← ei, ← ej]
    subst this
    rw [RowV.le_self, decide_eq_true (Int.le_refl _)]
  · exact RowV.le h
theorem call_sortedRows {X : Cx} (hu : X.A.units + 64 < cLine) : CallR X (.builtin "sorted") (rSortR X.K) := by
  intro pins s σ H xs us Q I r q
  obtain ⟨a, rows, ex, hd, hr, hk, nd, hl, q⟩ := q
  subst ex
  obtain ⟨u, eu, rx⟩ := vals1 r
  subst eu
  cases rx
  obtain ⟨its, rv, ⟨o, n, p1, p2, p3, p4⟩, hz⟩ := I.list hd
  have each : ∀ {rows : List RowV} {its : List Value}, Vals (rows.map fun r => V.ref r.a) its → PySem.W.EachIs (fun (v : Value) (b : RowV) => v = .ref b.a ∧ b ∈ rows) its rows := by
    intro rows
    induction rows with
    | nil => intro its h; cases h; exact .nil
    | cons b bs ih =>
      intro its h
      cases h with
      | cons h1 h2 =>
        cases h1
        refine .cons ⟨rfl, List.mem_cons_self ..⟩ ((ih h2).mono fun v b q => ⟨q.1, List.mem_cons_of_mem _ q.2⟩)
  have ea := each rv
  have sz : rows.length ≤ sizeLine := by rw [sizeLine_eq]; omega
  refine PySem.W.sorted_data (R := fun v b => v = .ref b.a ∧ b ∈ rows) (bs := rows) (enc := RowV.enc) (vs := its) ⟨o, p1, p2, n, p4⟩ ea (ea.mono fun v b hb => ?_) ?_ ?_ sz ?_ fun out ho eo => ?_
  · obtain ⟨rfl, hb⟩ := hb
    obtain ⟨w, ut, m, rv2, g⟩ := I.hok _ _ (hr b hb)
    obtain ⟨as, ra⟩ := reads_flat (h := s.heap) rv2 b.flat
    exact ⟨b.a :: as, .list g rfl rfl ra⟩
  · intro d hd d' hd'
    obtain ⟨b, hb, rfl⟩ := List.mem_map.mp hd
    obtain ⟨b', hb', rfl⟩ := List.mem_map.mp hd'
    exact RowV.alike (hk b hb b' hb')
  · exact PySem.W.Sortable.others (enc := RowV.enc) fun b => ⟨fun e => (by cases e), fun xs e => (by cases e)⟩
  · intro b _
    rw [RowV.depth]; omega
  · rw [sortRV_eq nd] at eo
    obtain ⟨c, hc⟩ := sortedAll_at s.heap its out.toArray
    have eo2 : ∀ {out : List Value} {l : List RowV}, PySem.W.EachIs (fun (v : Value) (b : RowV) => v = .ref b.a ∧ b ∈ rows) out l → Vals (l.map fun r => V.ref r.a) out := by
      intro out l h
      induction h with
      | nil => exact .nil
      | cons h1 _ ih => rw [h1.1]; exact .cons rfl ih
    have hlen : ((sortRV rows).map fun r => V.ref r.a).length ≤ sizeLine := by
      rw [List.length_map]
      unfold sortRV
      rw [List.length_mergeSort]; exact sz
    refine ⟨.ref (s.heap.objs.size + 1), upd H (s.heap.objs.size + 1) (.lst ((sortRV rows).map fun r => V.ref r.a)), I.laid (t' := s.toks) (fun b u e => sortedAll_old e) (Nat.le_succ _)
      (show ObjOk X.prog X.w _ _ _ (.lst ((sortRV rows).map fun r => V.ref r.a)) from ⟨hlen, out, c, eo2 eo, hc⟩), rfl, q _ (I.hok.fresh (Nat.le_succ _))⟩
section
variable {K : PySem.W.Frag} {B : Bs} {ρ : List Addr} {H : Hp} {h : CH}
abbrev RowRel (K : PySem.W.Frag) (B : Bs) (ρ : List Addr) (H : Hp) (p : ((Int × Bool) × CV) × RowV) : Prop := p.1.1 = (p.2.n, p.2.e.isSome) ∧ RepV K B.sc ρ H p.1.2 (.ref p.2.a) ∧ H p.2.a = some (.lst p.2.vals)
theorem row_rel (R : Rel K B ρ H h) {x : CV} {k : Int × Bool} {v : V} (e : rowOf h x = some k) (r : RepV K B.sc ρ H x v) : ∃ row, v = .ref row.a ∧ RowRel K B ρ H ((k, x), row) := by
  unfold rowOf at e
  split at e
  · rename_i m
    split at e
    · rename_i n s1 s2 t hm
      cases e
      obtain ⟨a, vs, e1, e2, e3, rv⟩ := R.lst r hm
      obtain ⟨v0, q0, f0, r0, v1, q1, f1, r1, v2, q2, f2, r2, v3, q3, f3, r3, v4, q4, f4, r4, v5, q5, f5, r5, f6⟩ := rv
      subst f0 f1 f2 f3 f4 f5 f6
      obtain ⟨r1, _⟩ := r1
      obtain ⟨r2, _⟩ := r2
      subst r0 r1 r2 r3 r4 r5
      subst e2
      exact ⟨⟨a, n, _, _, t, none⟩, rfl, rfl, ⟨a, e1, rfl⟩, e3⟩
    · rename_i n s1 s2 t x y hm
      cases e
      obtain ⟨a, vs, e1, e2, e3, rv⟩ := R.lst r hm
      obtain ⟨v0, q0, f0, r0, v1, q1, f1, r1, v2, q2, f2, r2, v3, q3, f3, r3, v4, q4, f4, r4, v5, q5, f5, r5, f6⟩ := rv
      subst f0 f1 f2 f3 f4 f5 f6
      obtain ⟨r1, _⟩ := r1
      obtain ⟨r2, _⟩ := r2
      subst r0 r1 r2 r3 r4 r5
      subst e2
      exact ⟨⟨a, n, _, _, t, some (x, y)⟩, rfl, rfl, ⟨a, e1, rfl⟩, e3⟩
    · cases e
  · cases e
theorem rows_rel (R : Rel K B ρ H h) : ∀ {xs : List CV} {ks : List ((Int × Bool) × CV)} {vs : List V}, rowsOf h xs = some ks → RepVs K B.sc ρ H xs vs → ∃ ps : List (((Int × Bool) × CV) × RowV), ks = ps.map (·.1) ∧ vs = (ps.map (·.2)).map (fun r => V.ref r.a) ∧ ∀ p ∈ ps, RowRel K B ρ H p
  | [], ks, vs, e, r => by
    cases e
    have r : vs = [] := r
    exact ⟨[], rfl, r, fun p hp => by cases hp⟩
  | x :: xs, ks, vs, e, r => by
    obtain ⟨v, vs', rfl, r1, r2⟩ := r
    have e : (match rowOf h x, rowsOf h xs with
      | some k, some ks => some ((k, x) :: ks)
      | _, _ => none) = some ks := e
    cases q1 : rowOf h x with
    | none => rw [q1] at e; cases e
    | some k =>
      cases q2 : rowsOf h xs with
      | none => rw [q1, q2] at e; cases e
      | some ks' =>
        rw [q1, q2] at e
        cases e
        obtain ⟨ps, e1, e2, e3⟩ := rows_rel R q2 r2
        obtain ⟨row, ev, rr⟩ := row_rel R q1 r1
        refine ⟨((k, x), row) :: ps, by rw [e1]; rfl, by rw [e2, ev]; rfl, fun p hp => ?_⟩
        rcases List.mem_cons.mp hp with rfl | hp
        · exact rr
        · exact e3 p hp
theorem rep_refs {ρ' : List Addr} {H' : Hp} {sc : List Int} : ∀ {ps : List (((Int × Bool) × CV) × RowV)}, (∀ p ∈ ps, RepV K sc ρ' H' p.1.2 (.ref p.2.a)) → RepVs K sc ρ' H' ((ps.map (·.1)).map (·.2)) ((ps.map (·.2)).map fun r => V.ref r.a)
  | [], _ => rfl
  | p :: ps, h => ⟨_, _, rfl, h p (List.mem_cons_self ..), rep_refs fun q hq => h q (List.mem_cons_of_mem _ hq)⟩
theorem v_sortL : VCall K B sortLV (rSortR K) := by
  intro ρ H h cs vs W Q R r p
  unfold sortLV at p
  split at p
  · rename_i x
    obtain ⟨v, e, r1⟩ := one_rep r
    subst e
    split at p
    · rename_i ks hb
      obtain ⟨xs, q1, q2⟩ := Option.bind_eq_some_iff.mp hb
      obtain ⟨a, ws, e1, hs, hr⟩ := R.sq r1 q1
      subst e1
      obtain ⟨ps, e1, e2, e3⟩ := rows_rel R q2 hr
      subst e1 e2
      split at p
      · rename_i hc
        obtain ⟨hl, nd, al⟩ := hc
        have en : (ps.map (·.1)).map (fun k => k.1.1) = (ps.map (·.2)).map (·.n) := by
          rw [List.map_map, List.map_map]
          exact List.map_congr_left fun p hp => by
            show p.1.1.1 = p.2.n
            rw [(e3 p hp).1]
        have eb : ∀ p ∈ ps, p.1.1.2 = p.2.e.isSome := fun p hp => by rw [(e3 p hp).1]
        refine ⟨a, ps.map (·.2), rfl, hs, ?_, ?_, by rw [← en]; exact nd, by rw [List.length_map] at hl ⊢; exact hl, fun q hq => ?_⟩
        · intro r hr
          obtain ⟨p, hp, rfl⟩ := List.mem_map.mp hr
          exact (e3 p hp).2.2
        · intro r hr r' hr'
          obtain ⟨p, hp, rfl⟩ := List.mem_map.mp hr
          obtain ⟨p', hp', rfl⟩ := List.mem_map.mp hr'
          rw [← eb p hp, ← eb p' hp']
          exact al _ (List.mem_map_of_mem hp) _ (List.mem_map_of_mem hp')
        · obtain ⟨qs, eqs⟩ : ∃ qs, qs = ps.mergeSort fun a b => decide (a.1.1.1 ≤ b.1.1.1) := ⟨_, rfl⟩
          have m : ∀ p ∈ qs, p ∈ ps := fun p hp => by rw [eqs] at hp; exact List.mem_mergeSort.mp hp
          have s1 : sortR (ps.map (·.1)) = qs.map (·.1) := by
            rw [eqs]
            exact (List.map_mergeSort (f := fun p : ((Int × Bool) × CV) × RowV => p.1) (r := fun (a b : ((Int × Bool) × CV) × RowV) => decide (a.1.1.1 ≤ b.1.1.1)) (s := fun (a b : (Int × Bool) × CV) => decide (a.1.1 ≤ b.1.1)) (l := ps) fun a _ b _ => rfl).symm
          have s2 : sortRV (ps.map (·.2)) = qs.map (·.2) := by
            rw [eqs]
            refine (List.map_mergeSort fun a ha b hb => ?_).symm
            rw [(e3 a ha).1, (e3 b hb).1]
          rw [s1] at p
          rw [s2]
          have pr : ρ <+: ρ ++ [q] := List.prefix_append _ _
          have pe : Per K H (upd H q (.lst ((qs.map (·.2)).map fun r => V.ref r.a))) := .new hq
          exact Post.alloc (o := .lst ((qs.map (·.1)).map (·.2))) R hq ⟨_, rfl, rep_refs fun p hp => RepV.per pr pe _ _ (e3 p (m p hp)).2.1⟩ p
      · exact p.elim
    · exact p.elim
  · exact p.elim
end
end Cn
set_option Elab.async false
set_option linter.all false
set_option maxRecDepth 100000
set_option maxHeartbeats 4000000
namespace Cn
open PySem PySem.Spec PyProof.Rows L2
theorem repr_plain {q c : Nat} (hq : q = 39) (h : plainC c = true) : Builtin.Str.reprChar q c = [c] := by
  have h := of_decide_eq_true h
  subst hq
  have k : ∀ c : Fin 127, 32 ≤ c.val → c.val ≠ 39 → c.val ≠ 92 → Builtin.Str.reprChar 39 c.val = [c.val] := by decide +kernel
  exact k ⟨c, h.2.1⟩ h.1 h.2.2.1 h.2.2.2
theorem fold_plain : ∀ (l : List Nat) (acc : Array Nat), (l.all plainC) = true → (l.foldl (fun out c => out ++ (Builtin.Str.reprChar 39 c).toArray) acc).toList = acc.toList ++ l
  | [], acc, _ => by simp
  | c :: r, acc, h => by
    rw [List.all_cons, Bool.and_eq_true] at h
    rw [List.foldl_cons, fold_plain r _ h.2, repr_plain rfl h.1]
    simp
theorem text_plain {s : List Nat} (h : s.all plainC = true) : TL.tl (reprText ⟨s.toArray⟩) = 39 :: s ++ [39] := by
  have hq : reprQuote ⟨s.toArray⟩ = 39 := by
    unfold reprQuote
    rw [if_neg]
    rw [Bool.and_eq_true]
    rintro ⟨h1, _⟩
    have h1 : s.toArray.contains 39 = true := h1
    rw [List.contains_toArray, List.contains_iff_mem] at h1
    have := of_decide_eq_true (List.all_eq_true.mp h 39 h1)
    omega
  unfold reprText
  rw [hq]
  show Array.toList (Array.push (Array.foldl (fun out c => out ++ (Builtin.Str.reprChar 39 c).toArray) #[39] s.toArray) 39) = _
  rw [Array.toList_push, ← Array.foldl_toList, fold_plain s _ h]
  rfl
theorem joinL_C : ∀ xs : List (List Nat), TL.joinL [44, 32] xs = joinR xs
  | [] => rfl
  | [x] => rfl
  | x :: y :: r => by
    show x ++ ([44, 32] ++ TL.joinL [44, 32] (y :: r)) = x ++ [44, 32] ++ joinR (y :: r)
    rw [joinL_C (y :: r), List.append_assoc]
theorem tl_from : ∀ (ts : List Str) (k : Nat) (acc : Str), TL.tl (textFrom k acc ts) = TL.tl acc ++ (if k = 0 then joinR (ts.map TL.tl) else ts.flatMap fun t => [44, 32] ++ TL.tl t)
  | [], k, acc => by
    show TL.tl acc = _
    split <;> simp [joinR]
  | t :: r, k, acc => by
    show TL.tl (textFrom (k + 1) (acc ++ (if k > 0 then ", " else "" : String) ++ t) r) = _
    rw [tl_from r (k + 1), if_neg (Nat.succ_ne_zero k), TL.tl_append, TL.tl_append]
    by_cases hk : k = 0
    · subst hk
      rw [if_pos rfl, if_neg (by omega)]
      have e0 : TL.tl (Str.ofString "") = [] := rfl
      rw [e0, List.append_nil, List.append_assoc]
      congr 1
      have j : ∀ (x : List Nat) (r : List Str), x ++ (r.flatMap fun t => [44, 32] ++ TL.tl t) = joinR (x :: r.map TL.tl) := by
        intro x r
        induction r generalizing x with
        | nil => simp [joinR]
        | cons y r ih =>
          rw [List.flatMap_cons, List.map_cons]
          show _ = x ++ [44, 32] ++ joinR (TL.tl y :: r.map TL.tl)
          rw [← ih]
          simp
      rw [List.map_cons]
      exact j _ _
    · rw [if_neg hk, if_pos (by omega)]
      have e0 : TL.tl (Str.ofString ", ") = [44, 32] := by decide
      rw [e0, List.flatMap_cons]
      simp
theorem map_toPys : ∀ xs : List CD, (toPys xs).length = xs.length
  | [] => rfl
  | x :: r => by show (toPys r).length + 1 = _; rw [map_toPys r]; rfl
theorem shownAll_len : ∀ xs : List PyData, (PyData.shownAll xs).length = xs.length
  | [] => by simp only [PyData.shownAll]; rfl
  | x :: r => by simp only [PyData.shownAll, List.length_cons, shownAll_len r]
mutual
theorem shown_eq : ∀ d : CD, okR d = true → TL.tl (PyData.shown (toPy d)) = reprC d ∧ PyData.showable (toPy d) = true ∧ PyData.hasDict (toPy d) = false ∧ Pts (reprC d)
  | .non, _ => ⟨by decide, rfl, rfl, fun c hc => by simp [reprC] at hc; omega⟩
  | .bl _, h => by cases h
  | .int i, h => by
    have h : 0 ≤ i ∧ i < 1000000000000000000000000000000 := of_decide_eq_true h
    obtain ⟨n, rfl⟩ := Int.eq_ofNat_of_zero_le h.1
    refine ⟨?_, ?_, rfl, numC_pts _⟩
    · show TL.tl (Str.ofString (toString ((n : Nat) : Int))) = _
      rw [TL.tl_num] <;> rfl
    · show decide (((n : Nat) : Int).natAbs.log2 < 1920) = true
      exact decide_eq_true (log2_le (by omega))
  | .str s, h => by
    have h : s.all plainC = true := h
    refine ⟨text_plain h, rfl, rfl, fun c hc => ?_⟩
    have hc : c ∈ 39 :: s ++ [39] := hc
    rw [List.cons_append, List.mem_cons, List.mem_append, List.mem_singleton] at hc
    rcases hc with rfl | hc | rfl
    · decide
    · have := of_decide_eq_true (List.all_eq_true.mp h c hc); omega
    · decide
  | .lst xs, h => by
    obtain ⟨h1, h2, h3, h4⟩ := shownAll_eq xs h
    refine ⟨?_, ?_, ?_, fun c hc => ?_⟩
    · show TL.tl (textFrom 0 "[" (PyData.shownAll (toPys xs)) ++ "]") = 91 :: joinR (reprCs xs) ++ [93]
      rw [TL.tl_append, tl_from, if_pos rfl, h1]
      have e1 : TL.tl (Str.ofString "[") = [91] := by decide
      have e2 : TL.tl (Str.ofString "]") = [93] := by decide
      rw [e1, e2]; simp
    · show PyData.showable (.list (toPys xs)) = true
      simpa [PyData.showable] using h2
    · show PyData.hasDict (.list (toPys xs)) = false
      simpa [PyData.hasDict] using h3
    · have hc : c ∈ 91 :: joinR (reprCs xs) ++ [93] := hc
      rw [List.cons_append, List.mem_cons, List.mem_append, List.mem_singleton] at hc
      rcases hc with rfl | hc | rfl
      · decide
      · exact h4 c hc
      · decide
  | .tup xs, h => by
    obtain ⟨h1, h2, h3, h4⟩ := shownAll_eq xs h
    refine ⟨?_, ?_, ?_, fun c hc => ?_⟩
    · show TL.tl (("(" : Str) ++ Str.join ", " (PyData.shownAll (toPys xs)) ++ (if (PyData.shownAll (toPys xs)).length == 1 then ",)" else ")" : String)) = 40 :: joinR (reprCs xs) ++ (if xs.length = 1 then [44, 41] else [41])
      rw [TL.tl_append, TL.tl_append, TL.tl_join, shownAll_len, map_toPys, h1]
      have e0 : TL.tl (Str.ofString ", ") = [44, 32] := by decide
      have e1 : TL.tl (Str.ofString "(") = [40] := by decide
      rw [show TL.tl (", " : Str) = [44, 32] from e0, joinL_C, show TL.tl ("(" : Str) = [40] from e1]
      by_cases hl : xs.length = 1
      · rw [if_pos hl, if_pos (by simpa using hl)]
        have e2 : TL.tl (Str.ofString ",)") = [44, 41] := by decide
        rw [e2]; simp
      · rw [if_neg hl, if_neg (by simpa using hl)]
        have e2 : TL.tl (Str.ofString ")") = [41] := by decide
        rw [e2]; simp
    · show PyData.showable (.tuple (toPys xs)) = true
      simpa [PyData.showable] using h2
    · show PyData.hasDict (.tuple (toPys xs)) = false
      simpa [PyData.hasDict] using h3
    · have hc : c ∈ 40 :: joinR (reprCs xs) ++ (if xs.length = 1 then [44, 41] else [41]) := hc
      rw [List.cons_append, List.mem_cons, List.mem_append] at hc
      rcases hc with rfl | hc | hc
      · decide
      · exact h4 c hc
      · split at hc <;> simp at hc <;> omega
theorem shownAll_eq : ∀ xs : List CD, okRs xs = true → (PyData.shownAll (toPys xs)).map TL.tl = reprCs xs ∧ PyData.showableAll (toPys xs) = true ∧ PyData.hasDictAll (toPys xs) = false ∧ Pts (joinR (reprCs xs))
  | [], _ => ⟨by simp only [toPys, PyData.shownAll]; rfl, by simp only [toPys, PyData.showableAll], by simp only [toPys, PyData.hasDictAll], fun c hc => by cases hc⟩
  | x :: r, h => by
    have h : (okR x && okRs r) = true := h
    rw [Bool.and_eq_true] at h
    obtain ⟨a1, a2, a3, a4⟩ := shown_eq x h.1
    obtain ⟨b1, b2, b3, b4⟩ := shownAll_eq r h.2
    refine ⟨?_, ?_, ?_, fun c hc => ?_⟩
    · show (PyData.shownAll (toPy x :: toPys r)).map TL.tl = reprC x :: reprCs r
      simp only [PyData.shownAll, List.map_cons, a1, b1]
    · show PyData.showableAll (toPy x :: toPys r) = true
      simp only [PyData.showableAll, a2, b2, Bool.and_self]
    · show PyData.hasDictAll (toPy x :: toPys r) = false
      simp only [PyData.hasDictAll, a3, b3, Bool.or_self]
    · have hc : c ∈ joinR (reprC x :: reprCs r) := hc
      cases e : reprCs r with
      | nil => rw [e] at hc; exact a4 c hc
      | cons y q =>
        rw [e] at hc b4
        have hc : c ∈ reprC x ++ [44, 32] ++ joinR (y :: q) := hc
        rw [List.mem_append, List.mem_append] at hc
        rcases hc with (hc | hc) | hc
        · exact a4 c hc
        · simp at hc; omega
        · exact b4 c hc
end
def rRepr (K : PySem.W.Frag) : List V → Hp → VK → Prop := fun vs H Q => ∃ a d, vs = [.ref a] ∧ Dp K H (.ref a) d ∧ PyData.showable d = true ∧ PyData.hasDict d = false ∧ PyData.depth d ≤ 60 ∧ d.shown.length ≤ sizeLine ∧ Q (.str d.shown) H
theorem call_reprD {X : Cx} (hg : X.A.guards = some []) (hu : X.A.units + 64 < cLine) : CallR X (.builtin "repr") (rRepr X.K) := by
  intro pins s σ H vs us Q I r h
  obtain ⟨a, d, rfl, dp, h1, h2, h3, h4, q⟩ := h
  obtain ⟨u, rfl, ru⟩ := vals1 r
  obtain ⟨as, rd⟩ := Dp.reads I d (.ref a) u dp ru
  cases (show u = Value.ref a from ru)
  exact repr_of_reads' rd h1 (fun z => by rw [h2] at z; cases z) hg (by omega) (fun _ _ e => e) (fun h' t tk hk => ⟨.str _, H, I.kept hk, ⟨_, rfl⟩, q⟩) h4
theorem v_repr {K : PySem.W.Frag} {B : Bs} : VCall K B reprV (rRepr K) := by
  intro ρ H h cs vs W Q R r p
  unfold reprV at p
  split at p
  · rename_i n
    split at p
    · rename_i d e
      split at p
      · rename_i hh
        obtain ⟨v, rfl, r1⟩ := one_rep r
        have o := data_ok R 50 _ v d e r1
        obtain ⟨a, _, rfl⟩ := id r1
        obtain ⟨h1, h2, h3, h4⟩ := shown_eq d hh.1
        have es : PyData.shown (toPy d) = ⟨(reprC d).toArray⟩ := TL.ext_tl (by rw [h1, TL.tl_mk])
        refine ⟨a, toPy d, rfl, o.dp, h2, h3, Nat.le_trans o.dep (by decide), ?_, ?_⟩
        · rw [es]
          show (reprC d).toArray.size ≤ _
          rw [List.size_toArray, ← line_eq]
          exact hh.2
        · rw [es]
          exact p.ok R ⟨rfl, h4⟩
      · exact p.elim
    · exact p.elim
  · exact p.elim
section
variable {X : Cx} {B : Bs} {W : WX} {a : Expr} {sts : List Stmt} {ma : ME CV} {g : MG} {m : MS} {p1 p2 tpos pos : Pos} {elts : List Expr} {kk : Nat}
theorem ss_forE (hp : PassesOwn (model X.prog X.w) X.A X.env X.xe) (hc : X.calm = true) (hgE : Gl X "enumerate") (hm : X.mg "enumerate" = none) (ha : SE X B W a ma) (own : List Nat) (hg : SG X B own (.Tuple elts kk tpos) g) (hb : SSs X B W sts m)
    (hs0 : starEach [a] X.env = (false, eval a X.env) :: starEach [] X.env := by rfl) (hs1 : starEach [a] X.env = [(false, eval a X.env)] := by rfl) (hs : ∀ x, foldedSetIterable (.Call (.Name "enumerate" p1) [a] [] p2) X.env x = pure x := by intro _; rfl) :
    SS X B W (.For (.Tuple elts kk tpos) (.Call (.Name "enumerate" p1) [a] [] p2) sts [] pos) (sForE ma g m) :=
  PS.imp (ps_for hp hc (pi_enum hgE hm (pa_cons ha pa_nil hs0) hs1) hg hb hs) fun D σ H h => by
  refine tS_bind (rep := rV X.K B) (f := fun s x h1 => forLoopE x g m (lenAt x h1 + 1) 0 s h1) h fun ρ1 h1 s x v H1 R S r p => ?_
  have ne : lstOf h1 x ≠ none := fun z => by
    unfold forLoopE itemE at p
    rw [z] at p
    exact p.elim
  cases q0 : lstOf h1 x with
  | none => exact absurd q0 ne
  | some xs0 =>
    obtain ⟨b, vs, e1, e2, e3⟩ := R.sq r q0
    subst e1
    show ∃ a xs, [V.ref b] = [V.ref a] ∧ SqL X.K H1 a xs ∧ _
    refine ⟨b, vs, rfl, e2, fun i n σ H => ∃ ρ h s, Rel X.K B ρ H h ∧ RepS X.K B ρ H s σ ∧ RepV X.K B.sc ρ H x (.ref b) ∧ SOk X.K B W (forLoopE x g m n i s h) ρ H D, ⟨_, ρ1, h1, s, R, S, r, p⟩, ?_⟩
    rintro i n σ H ⟨ρ, h, s, R, S, r, p⟩
    cases n with
    | zero => exact p.elim
    | succ n =>
      unfold forLoopE itemE at p
      cases q : lstOf h x with
      | none => rw [q] at p; exact p.elim
      | some xs =>
        rw [q] at p
        dsimp only at p
        obtain ⟨b2, ws, f1, f2, f3⟩ := R.sq r q
        cases f1
        cases ei : xs[i]? with
        | none =>
          rw [ei] at p
          exact .inl ⟨⟨ws, f2, by rw [f3.len]; exact List.getElem?_eq_none_iff.mp ei⟩, p.nx R S⟩
        | some c =>
          rw [ei] at p
          obtain ⟨w, hw, rw'⟩ := f3.get ei
          refine .inr ⟨⟨ws, w, f2, hw⟩, fun σ H => ∃ ρ h s, Rel X.K B ρ H h ∧ RepS X.K B ρ H s σ ∧ RepV X.K B.sc ρ H x (.ref b) ∧ SOk X.K B W (forLoopE x g m n (i + 1) s h) ρ H D, fun σ' H' w => ⟨n, Nat.lt_succ_self _, w⟩, fun y H' yy => ?_⟩
          obtain ⟨T, x1, rfl, hT, rfl, hx⟩ := yy
          have hx1 := hx ws f2
          rw [hw] at hx1
          cases hx1
          have pe : Per X.K H (upd H T (.tup [.int (i : Nat), w])) := .new hT
          have ry : RepV X.K B.sc ρ (upd H T (.tup [.int (i : Nat), w])) (.tup [.int (i : Nat), c]) (.ref T) :=
            ⟨T, _, rfl, upd_same, .int (i : Nat), [w], rfl, rfl, w, [], rfl, RepV.per (List.prefix_refl _) pe _ _ rw', rfl⟩
          simp only [Option.map_some] at p
          cases q2 : g (.tup [.int (i : Nat), c]) s h with
          | none => rw [q2] at p; exact p.elim
          | some p1 =>
            obtain ⟨s1, h1'⟩ := p1
            rw [q2] at p
            simp only at p
            have r2 : RepV X.K B.sc ρ (upd H T (.tup [.int (i : Nat), w])) x (.ref b) := RepV.per (List.prefix_refl _) pe _ _ r
            have p := SOk.later (List.prefix_refl ρ) pe p
            refine ⟨ρ, h, s, .tup [.int (i : Nat), c], R.fresh hT, S.per (List.prefix_refl _) pe, ry, s1, h1', q2, fun ρ' H' σ' a b R' S' _ => ⟨ρ', h1', s1, R', S', ?_⟩⟩
            cases q3 : m s1 h1' with
            | nx s2 h2 => rw [q3] at p; exact fun ρ'' H'' σ'' a' b' R'' S'' => ⟨ρ'', h2, s2, R'', S'', RepV.per (a.trans a') (b.trans b') _ _ r2, SOk.later (a.trans a') (b.trans b') p⟩
            | ct s2 h2 => rw [q3] at p; exact fun ρ'' H'' σ'' a' b' R'' S'' => ⟨ρ'', h2, s2, R'', S'', RepV.per (a.trans a') (b.trans b') _ _ r2, SOk.later (a.trans a') (b.trans b') p⟩
            | bk s2 h2 => rw [q3] at p; exact SOk.later (r := .nx s2 h2) a b p
            | rt x h2 => rw [q3] at p; exact SOk.later (r := .rt x h2) a b p
            | ex c d s2 h2 => rw [q3] at p; exact SOk.later (r := .ex c d s2 h2) a b p
            | bad => rw [q3] at p; exact p.elim
end
section
variable {X : Cx} {B : Bs} {W : WX} {i j l : Nat} {x y z : Str} {a b c : Expr} {ms : ME (List CV)} {px py pz pt pos : Pos} {kt k2 : Nat} {pt2 : Pos}
theorem ss_par3 (hN : X.N.Nodup) (hc : X.calm = true) (ha : SA X B W [a, b, c] ms) (hi : X.N[i]? = some x := by rfl) (hj : X.N[j]? = some y := by rfl) (hl : X.N[l]? = some z := by rfl) (hij : i ≠ j := by decide) (hil : i ≠ l := by decide) (hjl : j ≠ l := by decide)
    (hx : X.env.scope.names.lookup x = some .local := by rfl) (hy : X.env.scope.names.lookup y = some .local := by rfl) (hz : X.env.scope.names.lookup z = some .local := by rfl)
    (hw : swappedStores [.Tuple [.Name x px, .Name y py, .Name z pz] kt pt] (.Tuple [a, b, c] k2 pt2) X.env = pure (some [x, y, z]) := by rfl)
    (hs : swapsWithSole [.Tuple [.Name x px, .Name y py, .Name z pz] kt pt] (.Tuple [a, b, c] k2 pt2) pos.line X.env = pure false := by rfl) :
    SS X B W (.Assign [.Tuple [.Name x px, .Name y py, .Name z pz] kt pt] (.Tuple [a, b, c] k2 pt2) pos) (sPar3 i j l ms) := PS.imp (ps_par3 hc hN hi hj hl hij hil hjl hx hy hz ha hw hs) fun D σ H h => by
  show tX X.K B (rVs X.K B) W ms σ H fun vs H1 => ∃ u v w, vs = [u, v, w] ∧ D.nx (((σ.set i (some u)).set j (some v)).set l (some w)) H1
  refine tS_bind (rep := rVs X.K B) (f := fun s xs h1 => match xs with
    | [a, b, c] => .nx (((s.set i (some a)).set j (some b)).set l (some c)) h1
    | _ => .bad) h fun ρ1 h1 s xs vs H1 R S r p => ?_
  match xs, r, p with
  | [c1, c2, c3], r, p =>
    obtain ⟨v1, t1, rfl, r1, v2, t2, rfl, r2, v3, t3, rfl, r3, e⟩ := r
    have e : t3 = [] := e
    subst e
    exact ⟨v1, v2, v3, rfl, p.nx R (((S.set r1).set r2).set r3)⟩
  | [], _, p => exact p.elim
  | [_], _, p => exact p.elim
  | [_, _], _, p => exact p.elim
  | _ :: _ :: _ :: _ :: _, _, p => exact p.elim
end
end Cn
set_option Elab.async false
set_option linter.all false
set_option maxRecDepth 100000
set_option maxHeartbeats 4000000
namespace Cn
open PySem PySem.Spec PyProof.Rows L2
structure FnG (P : Program) (w : World) (K : PySem.W.Frag) (mg : Str → Option Value) (bs : Heap) (CX : CXT) (f : Addr) (fd : FuncData) (ps : List Str) (sp : Sp) : Prop where
  len : ∀ vs H Q E, sp vs H Q E → vs.length = ps.length
  go : ∀ (s : Shared) (H : Hp) (ar : Args) (us : List Value) (vs : List V) (Q : VK) (E : XK), Env0 P w K mg bs callerA [] s H → BindsTo s fd ar (ps.zip us) → Vals vs us → sp vs H Q E →
    codeAny (model P w) callerA (.call (.ref f) ar) (CR CX [] P w H s Q E) s
section
variable {P : Program} {w : World} {K : PySem.W.Frag} {mg : Str → Option Value} {bs : Heap} {x qual : Str} {params : Arguments} {body : List Stmt} {scope : Scope} {dvs : List V} {kws : List (Str × V)} {f : Addr} {fd : FuncData} {N ps : List Str} {k : Nat} {CX : CXT} {sp : Sp}
theorem fnG (rm : Room (k + 1) callerA) (F : FunD K x qual params body scope dvs kws f fd) (S : FnScope N ps scope) (len : ∀ vs H Q E, sp vs H Q E → vs.length = ps.length)
    (hb : ∀ (cdv : Value) (s : Shared) (H : Hp) (vs : List V) (Q : VK) (E : XK), sp vs H Q E →
      ∃ t, PSs (cxOf CX P w K mg bs N qual scope f cdv callerA [] s H E) body t ∧ t { nx := fun _ H' => Q .non H', rt := Q } (start N vs) H) : FnG P w K mg bs CX f fd ps sp := by
  obtain ⟨oc, od, dV, kV, doc, pm, an, cdv, ct, osl, rfl, lk, hcd, _, _⟩ := F.ex
  constructor
  · exact len
  intro s H ar us vs Q E env bind rel wish
  have lv := len _ _ _ _ wish
  have kin : K.In s.heap := env.mod.kin.keeps fun b o z => (env.bs b o z).1
  have nolim : s.heap.NoLimit := env.mod.nolimit.keeps fun b o z => (env.bs b o z).1
  have kinds : ∀ y ∈ ps.zip us, scope.names.lookup y.1 = some .local ∨ (scope.names.lookup y.1 = some .cell ∧ ((cellsFrom (s.heap.objs.size + 1) scope.names []).lookup y.1).isSome = true) := by
    rintro ⟨n, v⟩ my
    cases S.par n (List.of_mem_zip my).1 with
    | inl z => exact Or.inl z
    | inr z => exact Or.inr ⟨z, PySem.W.cellsFrom_some _ _ _ (.inl z)⟩
  apply codeAny_call_function rm.depth (kin _ _ lk) rfl S.co S.gen rfl (PySem.W.codeRec_of kin hcd) (bind _ _ _ _ ?_)
  apply wpAny_newFunctionEnv_cells S.kind kinds
  rintro ev rfl s1 xx
  refine ⟨nolim.keeps xx.toInCall.keep, ?_⟩
  apply codeAny_func
  obtain ⟨t, pt, qt⟩ := hb cdv s H vs Q E wish
  have inv : Inv (cxOf CX P w K mg bs N qual scope f cdv callerA [] s H E) [] (start N vs) H s1 := inv_start S rm.hd env lv rel xx
  refine wpAny_mono (pt.run [] s1 (start N vs) H _ inv qt) ?_ (fun _ _ z => z)
  intro fl s' z
  match fl, z with
  | .ret u, ⟨v, _, H', J, rv, q⟩ => exact ⟨v, H', J.os, J.bare, J.base, J.hok, rv, q⟩
  | .next, ⟨_, H', J, q⟩ => exact ⟨V.non, H', J.os, J.bare, J.base, J.hok, rfl, q⟩
  | .brk, ⟨_, _, _, q⟩ => exact False.elim q
  | .cont, ⟨_, _, _, q⟩ => exact False.elim q
theorem def_okG (rm : Room (k + 1) callerA) (F : FunD K x qual params body scope dvs kws f fd) (S : FnScope N ps scope) (b : MS) {B : Bs} {nN nP : Nat} (eN : N.length = nN) (eP : ps.length = nP)
    (hb : ∀ (cdv : Value) (s : Shared) (H : Hp) (E : XK), SSs (cxOf (L2.CX P w) P w K mg bs N qual scope f cdv callerA [] s H E) B (WB E) body b) : FnG P w K mg bs (L2.CX P w) f fd ps (spM K B (runD nN nP b)) := by
  subst eN eP
  refine fnG rm F S (fun vs H Q E h => ?_) fun cdv s H vs Q E h => ⟨_, hb cdv s H E, ?_⟩
  · obtain ⟨ρ, h0, cs, R, r, p⟩ := h
    rw [r.len, runD_len p]
  · obtain ⟨ρ, h0, cs, R, r, p⟩ := h
    have hl := runD_len p
    refine ⟨ρ, h0, _, R, start_rep r, ?_⟩
    unfold runD at p
    rw [if_pos hl] at p
    cases q : b (cs.map some ++ List.replicate (N.length - cs.length) none) h0 with
    | nx s1 h1 => rw [q] at p; exact fun ρ' H' σ' a b R' S' => p ρ' H' .non a b R' rfl
    | rt v h1 => rw [q] at p; exact fun ρ' H' u a b R' r' => p ρ' H' u a b R' r'
    | ex c d s1 h1 => rw [q] at p; exact fun ρ' H' σ' dx a b R' S' x => p ρ' H' dx a b R' x
    | bk s1 h1 => rw [q] at p; exact p.elim
    | ct s1 h1 => rw [q] at p; exact p.elim
    | bad => rw [q] at p; exact p.elim
theorem law_okG {m : Def} {ca : Nat → Addr} {an : List Str} {y : Str} (F : ∀ ns, FnG P w K mg bs (L2.CX P w) f fd [y] (spM K ⟨ca, an, ns⟩ m)) : FnG P w K mg bs CX0 f fd [y] (spLaw K ca an m) := by
  constructor
  · rintro vs H Q E ⟨ns, h⟩
    exact (F ns).len _ _ _ _ h
  · rintro s H ar us vs Q E env bind rel ⟨ns, h⟩
    refine codeAny_mono ((F ns).go s H ar us vs Q _ env bind rel h) fun r s' z => ?_
    cases r with
    | ok fl => cases fl <;> exact z
    | error u =>
      obtain ⟨a, G, H', cls, d, _, _, _, _, _, _, _, z⟩ := z
      exact z.elim
end
theorem law_callG {P : Program} {w : World} {K : PySem.W.Frag} {mg mb : Str → Option Value} {CX : CXT} {fa a : Addr} {fd : FuncData} {y : Str} {sp : Sp} {s1 : Shared} {vs : List Value} {ns : List Int}
    (kin : K.In s1.heap) (gl : s1.heap.Ns mainGlobals mg) (bn : s1.heap.Ns builtinsNs mb) (bb : ∀ z : Str, z ≠ "__name__" → mb z = bootBuiltins z) (lim : s1.heap.NoLimit) (gens : s1.gens = #[])
    (at_ : s1.heap.get? a = some { cls := .type "list", data := .seq vs.toArray }) (intsA : IntsAre vs ns) (ln : ns.length ≤ sizeLine)
    (F : ∀ bs : Heap, K.In bs → bs.Ns mainGlobals mg → FnG P w K mg bs CX fa fd [y] sp) (bind : ∀ (s : Shared) (u : Value), BindsTo s fd ⟨[u], []⟩ [(y, u)])
    (wish : ∀ H : Hp, Only H → SqL K H a (ns.map V.int) → sp [.ref a] H (fun v _ => v = .bl true) fun _ _ _ => False)
    (noX : ∀ H e s', CX [] H s1 (fun _ _ _ => False) e s' → False) :
    codeAny (model P w) callerA (.call (.ref fa) ⟨[.ref a], []⟩) (fun r s' => r = .ok (.ret (.bool true)) ∧ (OldK s1.heap s'.heap ∧ (s'.os = s1.os ∧ AllBare s'.gens))) s1 := by
  have run : ∀ H : Hp, Only H → SqL K H a (ns.map V.int) → HOk P w H s1.heap → (∀ b, H b ≠ none → b = a) → (H a ≠ none → K.lookup a = none) →
      codeAny (model P w) callerA (.call (.ref fa) ⟨[.ref a], []⟩) (fun r s' => r = .ok (.ret (.bool true)) ∧ (OldK s1.heap s'.heap ∧ (s'.os = s1.os ∧ AllBare s'.gens))) s1 := by
    intro H only sq hok one un
    have back : ∀ {b : Addr} {o : Obj}, s1.heap.get? b = some o → H b = none → (hidT s1.heap H).get? b = some o := fun g n => hidT_get g n
    have hidN : ∀ {b : Addr} {m : Str → Option Value}, s1.heap.Ns b m → (hidT s1.heap H).Ns b m := by
      rintro b m ⟨o, es, ep, g, d, r⟩
      refine ⟨o, es, ep, back g ?_, d, r⟩
      cases hb : H b with
      | none => rfl
      | some u =>
        have eb : b = a := one b (by rw [hb]; exact Option.some_ne_none u)
        rw [eb, at_] at g
        cases g
        cases (show Data.seq vs.toArray _ = Data.dict es ep from d)
    have kinB : K.In (hidT s1.heap H) := by
      intro b o lb
      refine back (kin b o lb) ?_
      cases hb : H b with
      | none => rfl
      | some u =>
        have eb : b = a := one b (by rw [hb]; exact Option.some_ne_none u)
        rw [eb, un (by rw [← eb, hb]; exact Option.some_ne_none u)] at lb
        cases lb
    obtain ⟨mc, c1, c2⟩ := lim
    have env : Env0 P w K mg (hidT s1.heap H) callerA [] s1 H := {
      frames := rfl
      mod := ⟨kinB, hidN gl, ⟨mb, hidN bn, bb⟩, mc, hidN c1, c2⟩
      bs := fun b o g => of_hidT g
      bsz := Nat.le_of_eq (hidT_size _ _)
      funs := trivial
      frf := fun b hb => by cases hb
      hok := hok
      bare := .of_eq gens }
    have res := (F _ kinB (hidN gl)).go s1 H ⟨[.ref a], []⟩ [.ref a] [.ref a] _ _ env (bind s1 (.ref a)) (.cons rfl .nil) (wish H only sq)
    refine codeAny_mono res ?_
    intro r s' z
    match r, z with
    | .error e, z => exact False.elim (noX H e s' z)
    | .ok .next, z => exact False.elim z
    | .ok .brk, z => exact False.elim z
    | .ok .cont, z => exact False.elim z
    | .ok (.ret u), ⟨v, H', os, bare, uu, hok', rv, q⟩ =>
      have ev : v = .bl true := q
      subst ev
      have eu : u = Value.bool true := rv
      subst eu
      refine ⟨rfl, OldK.of_keep ?_, os, bare⟩
      intro b o g
      cases hb : H b with
      | none => exact uu.keep b o g hb (fun y => by cases y) (fun y => by cases y)
      | some c =>
        cases only b with
        | inl n => rw [hb] at n; cases n
        | inr fz =>
          obtain ⟨ob, xs, fz⟩ := fz
          have k2 := uu.frzs b ob _ fz
          have g1 := (hok b _ fz).1
          have g2 := (hok' b _ k2).1
          rw [g] at g1
          cases g1
          exact g2
  have rv := vals_ints intsA
  have lenV : vs.length = ns.length := intsA.length
  by_cases hk : ∃ o, K.lookup a = some o
  · obtain ⟨o, hk⟩ := hk
    have g := kin a o hk
    rw [at_] at g
    cases g
    exact run (fun _ => none) (fun _ => Or.inl rfl) (Or.inr ⟨_, vs.toArray, _, hk, rfl, rfl, rfl, (by rw [List.size_toArray, lenV]; exact ln), (by simpa using rv)⟩) (fun b u z => by cases (show (none : Option HO) = some u from z)) (fun b z => absurd rfl z) (fun z => absurd rfl z)
  · have hk : K.lookup a = none := by
      cases e : K.lookup a with
      | none => rfl
      | some o => exact absurd ⟨o, e⟩ hk
    obtain ⟨T, eT⟩ : ∃ T : Hp, T = fun b => if b = a then some (.frz { cls := .type "list", data := .seq vs.toArray } (.lst (ns.map V.int))) else none := ⟨_, rfl⟩
    have Ta : T a = some (.frz { cls := .type "list", data := .seq vs.toArray } (.lst (ns.map V.int))) := by rw [eT]; exact if_pos rfl
    have Tn : ∀ b, b ≠ a → T b = none := fun b hb => by rw [eT]; exact if_neg hb
    refine run T (fun b => ?_) (Or.inl (Or.inr ⟨_, Ta⟩)) (fun b u z => ?_) (fun b z => ?_) fun _ => hk
    · by_cases hb : b = a
      · rw [hb]; exact Or.inr ⟨_, _, Ta⟩
      · exact Or.inl (Tn b hb)
    · by_cases hb : b = a
      · rw [hb, Ta] at z
        cases z
        rw [hb]
        exact ⟨at_, (by rw [List.length_map]; exact ln), vs, _, rv, at_⟩
      · rw [Tn b hb] at z; cases z
    · by_cases hb : b = a
      · exact hb
      · exact absurd (Tn b hb) z
theorem walk_ofG {l : PySem.W.OpenLaw} {n : Nat} {q : Program} {loose : List Str} {XP : (Str → Option Value) → Heap → Prop} {YP : World → Heap → Prop} {d : DefRec} {CX : CXT} {y : Str} (hn : l.most = some n) (hn2 : n ≤ sizeLine) (hdf : d.params.defaults = [])
    (F : ∀ (w : World) (mg : Str → Option Value) (fa : Addr) (h : Heap), YP w h → h.Ns mainGlobals mg → mg d.name = some (.ref fa) →
      ∃ (K : PySem.W.Frag) (fd : FuncData) (sp : Sp), K.In h ∧ (∀ (s : Shared) (u : Value), BindsTo s fd ⟨[u], []⟩ [(y, u)]) ∧ (∀ (H : Hp) (a : Addr) (ns : List Int), ns.length ≤ n → Only H → SqL K H a (ns.map V.int) → sp [.ref a] H (fun v _ => v = .bl true) fun _ _ _ => False) ∧
        ∀ bs : Heap, K.In bs → bs.Ns mainGlobals mg → FnG l.prog w K mg bs CX fa fd [y] sp)
    (noX : ∀ (H : Hp) (s : Shared) (e : Value) (s' : Shared), CX [] H s (fun _ _ _ => False) e s' → False) : PySem.W.WalkO q loose XP YP l.row.toRowW d [] (fun f vs => PySem.call f vs) := by
  apply Att.attach_call hn hdf
  intro w s₀ s₁ mg mb fa o pm cd doc a vs ns G Y _ _ _ hmg hobj hints hlen hg
  obtain ⟨K, fd, sp, kin, hb, hsp, hF⟩ := F w mg fa _ Y G.T.g hmg
  exact law_callG kin G.T.g G.T.b G.T.builtins G.T.nolimit hg hobj hints (Nat.le_trans hlen hn2) hF hb (fun H hO hS => hsp H a ns hlen hO hS) fun H e s' => noX H s₁ e s'
end Cn
set_option Elab.async false
set_option maxRecDepth 100000
namespace Cn
abbrev EX : Type := Nat → List (Nat × CV) → CH → Prop
abbrev NoX : EX := fun _ _ _ => False
@[irreducible] def OkE {α : Type} (E : EX) (r : Res α) (Q : α → CH → Prop) : Prop := match r with
  | .ok a h => Q a h
  | .ex c d h => E c d h
  | .bad => False
@[irreducible] def SkE (ES : CS → EX) (r : SR) (N C : CS → CH → Prop) (R : CV → CH → Prop) : Prop := match r with
  | .nx s h => N s h
  | .ct s h => C s h
  | .rt v h => R v h
  | .ex c d s h => ES s c d h
  | .bk _ _ => False
  | .bad => False
section
variable {E : EX} {ES : CS → EX} {α β : Type} {r : Res α} {Q Q' : α → CH → Prop} {N N' C C' : CS → CH → Prop} {R R' : CV → CH → Prop} {s : CS} {h : CH}
@[simp] theorem Ok_ok (a : α) (h : CH) : OkE E (.ok a h) Q = Q a h := by with_unfolding_all rfl
@[simp] theorem Ok_bad : OkE E (.bad : Res α) Q = False := by with_unfolding_all rfl
@[simp] theorem Ok_ex (c d h) : OkE E (.ex c d h : Res α) Q = E c d h := by with_unfolding_all rfl
@[simp] theorem Ok_bind (f : α → CH → Res β) (Q : β → CH → Prop) : OkE E (r.bind f) Q = OkE E r fun a h => OkE E (f a h) Q := by with_unfolding_all cases r <;> with_unfolding_all rfl
theorem OkE.of (o : OkE NoX r Q) : OkE E r Q := by with_unfolding_all cases r with
  | ok a h => exact o
  | ex => exact o.elim
  | bad => exact o.elim
theorem OkE.mono (o : OkE E r Q) (k : ∀ a h, Q a h → Q' a h) : OkE E r Q' := by with_unfolding_all cases r with
  | ok a h => exact k _ _ o
  | _ => exact o
theorem Ok_iff : OkE NoX r Q ↔ ∃ a h, r = .ok a h ∧ Q a h := by
  with_unfolding_all
  cases r with
  | ok a h => exact ⟨fun z => ⟨a, h, rfl, z⟩, fun ⟨a', h', e, z⟩ => by cases e; exact z⟩
  | _ => exact ⟨fun z => z.elim, fun ⟨a', h', e, z⟩ => by cases e⟩
theorem Ok.eq {a : α} {h : CH} (e : r = .ok a h) (z : Q a h) : OkE E r Q := by rw [e, Ok_ok]; exact z
theorem SkE.mono {x : SR} (o : SkE ES x N C R) (n : ∀ s h, N s h → N' s h) (c : ∀ s h, C s h → C' s h) (k : ∀ v h, R v h → R' v h) : SkE ES x N' C' R' := by with_unfolding_all cases x with
  | nx => exact n _ _ o
  | ct => exact c _ _ o
  | rt => exact k _ _ o
  | _ => exact o
@[simp] theorem Sk_rBind (f : α → CH → SR) : SkE ES (rBind r s f) N C R = OkE (ES s) r fun a h => SkE ES (f a h) N C R := by with_unfolding_all cases r <;> with_unfolding_all rfl
@[simp] theorem Sk_nx (s h) : SkE ES (.nx s h) N C R = N s h := by with_unfolding_all rfl
@[simp] theorem Sk_ct (s h) : SkE ES (.ct s h) N C R = C s h := by with_unfolding_all rfl
@[simp] theorem Sk_rt (v h) : SkE ES (.rt v h) N C R = R v h := by with_unfolding_all rfl
@[simp] theorem Sk_bk (s h) : SkE ES (.bk s h) N C R = False := by with_unfolding_all rfl
@[simp] theorem Sk_ex (c d s h) : SkE ES (.ex c d s h) N C R = ES s c d h := by with_unfolding_all rfl
@[simp] theorem Sk_bad : SkE ES .bad N C R = False := by with_unfolding_all rfl
@[simp] theorem Ok_eC (c : CV) {Q} : OkE E (eC c s h) Q = Q c h := by with_unfolding_all rfl
theorem Ok_eVar (i : Nat) {Q} : OkE E (eVar i s h) Q = (∃ c, s[i]? = some (some c) ∧ Q c h) := by
  with_unfolding_all
  unfold eVar
  split
  · next c e => rw [e]; exact propext ⟨fun z => ⟨c, rfl, z⟩, fun ⟨c', e, z⟩ => by cases e; exact z⟩
  · next e => exact propext ⟨fun z => z.elim, fun ⟨c', e', z⟩ => absurd e' (e c')⟩
@[simp] theorem Ok_e1 (f a) {Q} : OkE E (e1 f a s h) Q = OkE E (a s h) fun x h1 => OkE E (f x h1) Q := by with_unfolding_all exact Ok_bind ..
@[simp] theorem Ok_e2 (f a b) {Q} : OkE E (e2 f a b s h) Q = OkE E (a s h) fun x h1 => OkE E (b s h1) fun y h2 => OkE E (f x y h2) Q := by simp [e2]
@[simp] theorem Ok_aNil {Q} : OkE E (aNil s h) Q = Q [] h := by with_unfolding_all rfl
@[simp] theorem Ok_aCons (a r) {Q} : OkE E (aCons a r s h) Q = OkE E (a s h) fun x h1 => OkE E (r s h1) fun xs h2 => Q (x :: xs) h2 := by simp [aCons]
@[simp] theorem Ok_eCall (f as) {Q} : OkE E (eCall f as s h) Q = OkE E (as s h) fun xs h1 => OkE E (f xs h1) Q := by with_unfolding_all exact Ok_bind ..
@[simp] theorem Ok_eBM (k f o as) {Q} : OkE E (eBM k f o as s h) Q = OkE E (o s h) fun x h1 => kindC x h1 = k ∧ OkE E (as s h1) fun xs h2 => OkE E (f (x :: xs) h2) Q := by
  with_unfolding_all
  simp only [eBM, Ok_bind]
  congr 1; funext x h1
  by_cases e : kindC x h1 = k <;> simp [e]
@[simp] theorem Ok_eTup (as) {Q} : OkE E (eTup as s h) Q = OkE E (as s h) fun xs h1 => xs.length ≤ LINE ∧ Q (.tup xs) h1 := by
  with_unfolding_all
  simp only [eTup, Ok_bind]
  congr 1; funext x h1
  by_cases e : x.length ≤ LINE <;> simp [e]
@[simp] theorem Ok_alloc (o : CO) {Q} : OkE E (alloc o h) Q = Q (.ref h.os.length) (h.new o) := by with_unfolding_all rfl
@[simp] theorem Ok_eLst (as) {Q} : OkE E (eLst as s h) Q = OkE E (as s h) fun xs h1 => xs.length ≤ LINE ∧ Q (.ref h1.os.length) (h1.new (.lst xs)) := by
  with_unfolding_all
  simp only [eLst, Ok_bind]
  congr 1; funext x h1
  by_cases e : x.length ≤ LINE <;> simp [e]
@[simp] theorem Ok_oNone {Q} : OkE E (oNone s h) Q = Q none h := by with_unfolding_all rfl
theorem Ok_oSome (a) {Q} : OkE E (oSome a s h) Q = OkE E (a s h) fun x h1 => ∃ i, x = .int i ∧ Q (some i) h1 := by
  with_unfolding_all
  simp only [oSome, Ok_bind]
  congr 1; funext x h1
  cases x <;> simp
@[simp] theorem Ok_eSlice (a lo hi) {Q} : OkE E (eSlice a lo hi s h) Q = OkE E (a s h) fun x h1 => OkE E (lo s h1) fun l h2 => OkE E (hi s h2) fun u h3 => OkE E (sliceV x l u h3) Q := by simp [eSlice]
theorem Ok_tV (a) {Q} : OkE E (tV a s h) Q = OkE E (a s h) fun x h1 => ∃ b, x = .bl b ∧ Q b h1 := by
  with_unfolding_all
  simp only [tV, Ok_bind]
  congr 1; funext x h1
  cases x <;> simp
theorem Ok_tAnd (a b) {Q} : OkE E (tAnd a b s h) Q = OkE E (a s h) fun k h1 => if k then OkE E (b s h1) Q else Q false h1 := by
  with_unfolding_all
  simp only [tAnd, Ok_bind]
  congr 1; funext x h1
  cases x <;> simp
theorem Ok_tOr (a b) {Q} : OkE E (tOr a b s h) Q = OkE E (a s h) fun k h1 => if k then Q true h1 else OkE E (b s h1) Q := by
  with_unfolding_all
  simp only [tOr, Ok_bind]
  congr 1; funext x h1
  cases x <;> simp
@[simp] theorem Ok_tNot (a) {Q} : OkE E (tNot a s h) Q = OkE E (a s h) fun k h1 => Q (!k) h1 := by simp [tNot]
@[simp] theorem Ok_tYes {Q} : OkE E (tYes s h) Q = Q true h := by with_unfolding_all rfl
theorem Ok_eIf (t a b) {Q} : OkE E (eIf t a b s h) Q = OkE E (t s h) fun k h1 => if k then OkE E (a s h1) Q else OkE E (b s h1) Q := by
  with_unfolding_all
  simp only [eIf, Ok_bind]
  congr 1; funext x h1
  cases x <;> simp
theorem Ok_eAnd (a b) {Q} : OkE E (eAnd a b s h) Q = OkE E (a s h) fun x h1 => ∃ k, x = .bl k ∧ if k then OkE E (b s h1) Q else Q (.bl false) h1 := by
  with_unfolding_all
  simp only [eAnd, Ok_bind]
  congr 1; funext x h1
  cases x with
  | bl k => cases k <;> simp
  | _ => simp
theorem Ok_eOr (a b) {Q} : OkE E (eOr a b s h) Q = OkE E (a s h) fun x h1 => ∃ k, x = .bl k ∧ if k then Q (.bl true) h1 else OkE E (b s h1) Q := by
  with_unfolding_all
  simp only [eOr, Ok_bind]
  congr 1; funext x h1
  cases x with
  | bl k => cases k <;> simp
  | _ => simp
theorem Ok_eNot (a) {Q} : OkE E (eNot a s h) Q = OkE E (a s h) fun x h1 => ∃ k, x = .bl k ∧ Q (.bl !k) h1 := by
  with_unfolding_all
  simp only [eNot, Ok_bind]
  congr 1; funext x h1
  cases x <;> simp
theorem Ok_eChain (f g a b c) {Q} : OkE E (eChain f g a b c s h) Q = OkE E (a s h) fun x h1 => OkE E (b s h1) fun y h2 => OkE E (f x y h2) fun z h3 => ∃ k, z = .bl k ∧ if k then OkE E (c s h3) fun w h4 => OkE E (g y w h4) Q else Q (.bl false) h3 := by
  with_unfolding_all
  simp only [eChain, Ok_bind]
  congr 1; funext x h1; congr 1; funext y h2; congr 1; funext z h3
  cases z with
  | bl k => cases k <;> simp
  | _ => simp
@[simp] theorem Sk_sNil : SkE ES (sNil s h) N C R = N s h := by with_unfolding_all rfl
@[simp] theorem Sk_sSeq (a b) : SkE ES (sSeq a b s h) N C R = SkE ES (a s h) (fun s1 h1 => SkE ES (b s1 h1) N C R) C R := by
  with_unfolding_all
  unfold sSeq
  cases a s h <;> with_unfolding_all rfl
@[simp] theorem Sk_sE (a) : SkE ES (sE a s h) N C R = OkE (ES s) (a s h) fun _ h1 => N s h1 := by with_unfolding_all exact Sk_rBind ..
@[simp] theorem Sk_sRet (a) : SkE ES (sRet a s h) N C R = OkE (ES s) (a s h) R := by with_unfolding_all exact Sk_rBind ..
@[simp] theorem Sk_sRetN : SkE ES (sRetN s h) N C R = R .non h := by with_unfolding_all rfl
@[simp] theorem Sk_sCont : SkE ES (sCont s h) N C R = C s h := by with_unfolding_all rfl
@[simp] theorem Sk_sSet (i a) : SkE ES (sSet i a s h) N C R = OkE (ES s) (a s h) fun x h1 => N (s.set i (some x)) h1 := by with_unfolding_all exact Sk_rBind ..
@[simp] theorem Sk_sIf (t a b) : SkE ES (sIf t a b s h) N C R = OkE (ES s) (t s h) fun k h1 => if k then SkE ES (a s h1) N C R else SkE ES (b s h1) N C R := by
  with_unfolding_all
  simp only [sIf, Sk_rBind]
  congr 1; funext k h1
  cases k <;> with_unfolding_all rfl
@[simp] theorem Sk_sSetIx (v o i) : SkE ES (sSetIx v o i s h) N C R = OkE (ES s) (v s h) fun x h1 => OkE (ES s) (o s h1) fun y h2 => OkE (ES s) (i s h2) fun z h3 => ∃ h4, setIxV y z x h3 = some h4 ∧ N s h4 := by
  with_unfolding_all
  simp only [sSetIx, Sk_rBind]
  congr 1; funext x h1; congr 1; funext y h2; congr 1; funext z h3
  cases e : setIxV y z x h3 <;> simp
theorem Ok_runD (n k : Nat) (b : MS) (vs : List CV) {Q} (hl : vs.length = k) (o : SkE (fun _ => E) (b (vs.map some ++ List.replicate (n - vs.length) none) h) (fun _ h1 => Q .non h1) (fun _ _ => False) Q) : OkE E (runD n k b vs h) Q := by
  with_unfolding_all
  unfold runD
  rw [if_pos hl]
  cases e : b (vs.map some ++ List.replicate (n - vs.length) none) h <;> rw [e] at o <;> exact o
theorem Sk_for {x : CV} {g : MG} {b : MS} {xs : List CV} (I : Nat → CS → CH → Prop) (hx : ∀ i s h, I i s h → itemAt x i h = some xs[i]?)
    (hb : ∀ i v s h, xs[i]? = some v → I i s h → ∃ s1 h1, g v s h = some (s1, h1) ∧ SkE ES (b s1 h1) (I (i + 1)) (I (i + 1)) R) (hN : ∀ s h, I xs.length s h → N s h) :
    ∀ (n i : Nat) (s : CS) (h : CH), i + n = xs.length + 1 → i ≤ xs.length → I i s h → SkE ES (forLoop x g b n i s h) N C R
  | 0, i, s, h, e, l, _ => by omega
  | n + 1, i, s, h, e, l, q => by
    with_unfolding_all
    unfold forLoop
    rw [hx i s h q]
    by_cases c : i < xs.length
    · have e1 : xs[i]? = some xs[i] := List.getElem?_eq_getElem c
      rw [e1]
      obtain ⟨s1, h1, eg, k⟩ := hb i _ s h e1 q
      dsimp only
      rw [eg]
      dsimp only
      cases eb : b s1 h1 <;> rw [eb] at k
      · exact Sk_for I hx hb hN n (i + 1) _ _ (by omega) (by omega) k
      · exact k
      · first | exact k | exact k.elim
      · exact Sk_for I hx hb hN n (i + 1) _ _ (by omega) (by omega) k
      · first | exact k | exact k.elim
      · first | exact k | exact k.elim
    · have e1 : xs[i]? = none := List.getElem?_eq_none (by omega)
      rw [e1]
      have : i = xs.length := by omega
      subst this
      exact hN s h q
theorem Sk_rng {lo : Int} {g : MG} {b : MS} (m : Nat) (I : Nat → CS → CH → Prop)
    (hb : ∀ i s h, i < m → I i s h → ∃ s1 h1, g (.int (lo + i)) s h = some (s1, h1) ∧ SkE ES (b s1 h1) (I (i + 1)) (I (i + 1)) R) (hN : ∀ s h, I m s h → N s h) :
    ∀ (n i : Nat) (s : CS) (h : CH), i + n = m → I i s h → SkE ES (rngLoop lo g b n i s h) N C R
  | 0, i, s, h, e, q => by
    with_unfolding_all
    unfold rngLoop
    have : i = m := by omega
    subst this
    exact hN s h q
  | n + 1, i, s, h, e, q => by
    with_unfolding_all
    unfold rngLoop
    obtain ⟨s1, h1, eg, k⟩ := hb i s h (by omega) q
    rw [eg]
    dsimp only
    cases eb : b s1 h1 <;> rw [eb] at k
    · exact Sk_rng m I hb hN n (i + 1) _ _ (by omega) k
    · exact k
    · first | exact k | exact k.elim
    · exact Sk_rng m I hb hN n (i + 1) _ _ (by omega) k
    · first | exact k | exact k.elim
    · first | exact k | exact k.elim
theorem Sk_sFor {a : ME CV} {g : MG} {b : MS} (o : OkE (ES s) (a s h) fun x h1 => ∃ (xs : List CV) (I : Nat → CS → CH → Prop), (∀ i s h, I i s h → itemAt x i h = some xs[i]?) ∧ lenAt x h1 = xs.length ∧ I 0 s h1 ∧
    (∀ i v s h, xs[i]? = some v → I i s h → ∃ s1 h1, g v s h = some (s1, h1) ∧ SkE ES (b s1 h1) (I (i + 1)) (I (i + 1)) R) ∧ ∀ s h, I xs.length s h → N s h) : SkE ES (sFor a g b s h) N C R := by
  with_unfolding_all
  unfold sFor
  rw [Sk_rBind]
  refine o.mono fun x h1 ⟨xs, I, hx, hl, h0, hb, hN⟩ => ?_
  rw [hl]
  exact Sk_for I hx hb hN _ 0 s h1 (by omega) (by omega) h0
theorem Sk_sForR1 {a : ME CV} {g : MG} {b : MS} (o : OkE (ES s) (a s h) fun x h1 => ∃ (m : Nat) (I : Nat → CS → CH → Prop), x = .int m ∧ m < 4611686018427387904 ∧ I 0 s h1 ∧
    (∀ i s h, i < m → I i s h → ∃ s1 h1, g (.int i) s h = some (s1, h1) ∧ SkE ES (b s1 h1) (I (i + 1)) (I (i + 1)) R) ∧ ∀ s h, I m s h → N s h) : SkE ES (sForR1 a g b s h) N C R := by
  with_unfolding_all
  unfold sForR1
  rw [Sk_rBind]
  refine o.mono fun x h1 ⟨m, I, hx, hl, h0, hb, hN⟩ => ?_
  subst hx
  dsimp only
  rw [if_pos (by unfold B62; omega)]
  refine Sk_rng m I (fun i s h hi q => ?_) hN _ 0 s h1 (by omega) h0
  rw [Int.zero_add]
  exact hb i s h hi q
theorem lc_loop {x : CV} {D : Nat} {g : MG} {t : ME Bool} {e : ME CV} {s : CS} {xs : List CV} (I : Nat → CH → Prop) (hx : ∀ i h, I i h → itemAt x i h = some xs[i]?)
    (hb : ∀ i v h, xs[i]? = some v → I i h → ∃ h1, lcTurn D g t e v s h = some h1 ∧ I (i + 1) h1) :
    ∀ (n i : Nat) (h : CH), i + n = xs.length + 1 → i ≤ xs.length → I i h → ∃ h2, lcLoop x D g t e s n i h = some h2 ∧ I xs.length h2
  | 0, i, h, e, l, _ => by omega
  | n + 1, i, h, e, l, q => by
    with_unfolding_all
    unfold lcLoop
    rw [hx i h q]
    by_cases c : i < xs.length
    · have e1 : xs[i]? = some xs[i] := List.getElem?_eq_getElem c
      rw [e1]
      obtain ⟨h1, eg, k⟩ := hb i _ h e1 q
      dsimp only
      rw [eg]
      exact lc_loop I hx hb n (i + 1) h1 (by omega) (by omega) k
    · have e1 : xs[i]? = none := List.getElem?_eq_none (by omega)
      rw [e1]
      have : i = xs.length := by omega
      subst this
      exact ⟨h, rfl, q⟩
theorem lc_turn {D : Nat} {g : MG} {t : ME Bool} {e : ME CV} {v : CV} {Z : CH → Prop} {s1 : CS} {h1 : CH} (eg : g v s h = some (s1, h1))
    (o : OkE NoX (t s1 h1) fun k h2 => if k then OkE NoX (e s1 h2) (fun x h3 => ∃ xs, h3.os[D]? = some (.lst xs) ∧ xs.length < LINE ∧ Z (h3.set D (.lst (xs ++ [x])))) else Z h2) : ∃ h4, lcTurn D g t e v s h = some h4 ∧ Z h4 := by
  with_unfolding_all
  unfold lcTurn
  rw [eg]
  dsimp only
  cases et : t s1 h1 with
  | ok k h2 =>
    rw [et] at o
    cases k with
    | false => exact ⟨h2, rfl, o⟩
    | true =>
      have o : OkE NoX (e s1 h2) (fun x h3 => ∃ xs, h3.os[D]? = some (.lst xs) ∧ xs.length < LINE ∧ Z (h3.set D (.lst (xs ++ [x])))) := o
      dsimp only
      cases ee : e s1 h2 with
      | ok x h3 =>
        rw [ee] at o
        rw [Ok_ok] at o
        obtain ⟨xs, e1, e2, e3⟩ := o
        dsimp only
        rw [e1]
        dsimp only
        rw [if_pos e2]
        exact ⟨_, rfl, e3⟩
      | ex => rw [ee] at o; exact o.elim
      | bad => rw [ee] at o; exact o.elim
  | ex => rw [et] at o; exact o.elim
  | bad => rw [et] at o; exact o.elim
theorem Ok_eComp {own : List Nat} {a : ME CV} {g : MG} {t : ME Bool} {e : ME CV} {Q : CV → CH → Prop} (o : OkE E (a s h) fun x h1 => ∃ (xs : List CV) (I : Nat → CH → Prop), (∀ i h, I i h → itemAt x i h = some xs[i]?) ∧ lenAt x h1 = xs.length ∧ I 0 (h1.new (.lst [])) ∧
    (∀ i v h, xs[i]? = some v → I i h → ∃ h2, lcTurn h1.os.length g t e v (wipeC s own) h = some h2 ∧ I (i + 1) h2) ∧ ∀ h2, I xs.length h2 → Q (.ref h1.os.length) h2) : OkE E (eComp own a g t e s h) Q := by
  with_unfolding_all
  unfold eComp
  rw [Ok_bind]
  refine o.mono fun x h1 ⟨xs, I, hx, hl, h0, hb, hN⟩ => ?_
  rw [hl]
  obtain ⟨h2, e2, q⟩ := lc_loop I hx hb (xs.length + 1) 0 _ (by omega) (by omega) h0
  rw [e2]
  exact hN h2 q
theorem Sk_while {t : ME Bool} {b : MS} (I : Nat → CS → CH → Prop) (hb : ∀ i s h, I i s h → OkE (ES s) (t s h) fun k h1 => if k then ∃ j, i = j + 1 ∧ SkE ES (b s h1) (I j) (I j) R else N s h1) :
    ∀ (n i : Nat) (s : CS) (h : CH), i < n → I i s h → SkE ES (sWhile t b n s h) N C R
  | 0, i, s, h, e, _ => by omega
  | n + 1, i, s, h, e, q => by
    with_unfolding_all
    unfold sWhile
    rw [Sk_rBind]
    refine (hb i s h q).mono fun k h1 z => ?_
    cases k with
    | false => exact z
    | true =>
      obtain ⟨j, ej, z⟩ := z
      simp only [if_true]
      cases eb : b s h1 <;> rw [eb] at z
      · exact Sk_while I hb n j _ _ (by omega) z
      · exact z
      · first | exact z | exact z.elim
      · exact Sk_while I hb n j _ _ (by omega) z
      · first | exact z | exact z.elim
      · first | exact z | exact z.elim
end
end Cn
set_option Elab.async false
set_option maxRecDepth 100000
set_option linter.all false
namespace Dw
open Cn
def m_law_state : Def := runD 3 1 (
    sSeq (sSet 1 (eC (.int 7)))
    (sSeq (sFor (eVar 0) (gSet 2)
    (sSet 1 (e2 modV (eCall intV (aCons (e2 addV (e2 mulV (eVar 1) (eC (.int 31))) (eVar 2)) (aNil))) (eC (.int 1000003)))))
    (sRet (eLst (aCons (eComp [2] (eVar 0) (gSet 2) (Cn.tYes) (eCall absV (aCons (eVar 2) (aNil)))) (aCons (e2 addV (eVar 1) (eC (.int 1))) (aNil)))))))
def m_law_draw : Def := runD 5 2 (
    sSeq (sSet 2 (e2 ixV (eVar 0) (eC (.int 0))))
    (sSeq (sWhile (Cn.tAnd (tV (e2 gtV (eCall lenV (aCons (eVar 2) (aNil))) (eC (.int 0)))) (tV (e2 Cn.eqV (e2 ixV (eVar 2) (eC (.int 0))) (eC (.int 0))))) (sE (eBM 5 popAtV (eVar 2) (aCons (eC (.int 0)) (aNil)))) 1000)
    (sSeq (sIf (tV (e2 gtV (eCall lenV (aCons (eVar 2) (aNil))) (eC (.int 0)))) (sSeq (sSet 3 (e2 ixV (eVar 2) (eC (.int 0))))
    (sSeq (sSetIx (e2 fdivV (eVar 3) (eVar 1)) (eVar 2) (eC (.int 0)))
    (sRet (e2 modV (eCall intV (aCons (eVar 3) (aNil))) (eVar 1)))))
    (sNil))
    (sSeq (sSet 4 (e2 modV (eCall intV (aCons (e2 addV (e2 mulV (e2 ixV (eVar 0) (eC (.int 1))) (eC (.int 48271))) (eC (.int 12345))) (aNil))) (eC (.int 2147483647))))
    (sSeq (sSetIx (eVar 4) (eVar 0) (eC (.int 1)))
    (sRet (e2 modV (eCall intV (aCons (e2 fdivV (eVar 4) (eC (.int 64))) (aNil))) (eVar 1))))))))
def m_law_pick : Def := runD 2 2 (
    sRet (e2 ixV (eVar 1) (eCall m_law_draw (aCons (eVar 0) (aCons (eCall lenV (aCons (eVar 1) (aNil))) (aNil))))))

structure Dr (n c : Nat) (h : CH) : Prop where
  ne : n ≠ c
  st : ∃ x : Int, h.os[n]? = some (.lst [.ref c, .int x])
  cs : ∃ xs : List Int, h.os[c]? = some (.lst (xs.map CV.int)) ∧ xs.length ≤ 63
structure Fr (n c : Nat) (h h' : CH) : Prop where
  sc : h'.sc = h.sc
  len : h.os.length ≤ h'.os.length
  fr : ∀ m, m ≠ n → m ≠ c → m < h.os.length → h'.os[m]? = h.os[m]?
theorem Fr.rfl {n c : Nat} {h : CH} : Fr n c h h := ⟨Eq.refl _, Nat.le_refl _, fun _ _ _ _ => Eq.refl _⟩
theorem Fr.trans {n c : Nat} {h h1 h2 : CH} (a : Fr n c h h1) (b : Fr n c h1 h2) : Fr n c h h2 :=
  ⟨b.sc.trans a.sc, Nat.le_trans a.len b.len, fun m x y z => (b.fr m x y (Nat.lt_of_lt_of_le z a.len)).trans (a.fr m x y z)⟩
theorem get_lt {α : Type} {l : List α} {m : Nat} {o : α} (e : l[m]? = some o) : m < l.length := (List.getElem?_eq_some_iff.mp e).1
theorem Fr.get {n c : Nat} {h h1 : CH} (a : Fr n c h h1) {m : Nat} {o : CO} (e : h.os[m]? = some o) (x : m ≠ n) (y : m ≠ c) : h1.os[m]? = some o := (a.fr m x y (get_lt e)).trans e
theorem get_new {h : CH} {o o' : CO} {m : Nat} (e : h.os[m]? = some o) : (h.new o').os[m]? = some o := by
  show (h.os ++ [o'])[m]? = some o
  rw [List.getElem?_append_left (get_lt e)]; exact e
theorem get_self {h : CH} {o' : CO} : (h.new o').os[h.os.length]? = some o' := by
  show (h.os ++ [o'])[h.os.length]? = some o'
  rw [List.getElem?_append_right (Nat.le_refl _), Nat.sub_self]; exact Eq.refl _
theorem get_set {h : CH} {o o' : CO} {m : Nat} (e : h.os[m]? = some o) : (h.set m o').os[m]? = some o' := by
  show (h.os.set m o')[m]? = some o'
  rw [List.getElem?_set_self (get_lt e)]
theorem get_ne {h : CH} {o' : CO} {m k : Nat} (e : k ≠ m) : (h.set m o').os[k]? = h.os[k]? := by
  show (h.os.set m o')[k]? = h.os[k]?
  rw [List.getElem?_set_ne (fun z => e z.symm)]
theorem len_set {h : CH} {o' : CO} {m : Nat} : (h.set m o').os.length = h.os.length := List.length_set
theorem len_new {h : CH} {o' : CO} : (h.new o').os.length = h.os.length + 1 := by show (h.os ++ [o']).length = _; simp
theorem Dr.lt {n c : Nat} {h : CH} (d : Dr n c h) : n < h.os.length ∧ c < h.os.length := let ⟨_, e⟩ := d.st; let ⟨_, e2, _⟩ := d.cs; ⟨get_lt e, get_lt e2⟩
theorem Dr.new {n c : Nat} {h : CH} (d : Dr n c h) (o : CO) : Dr n c (h.new o) := ⟨d.ne, let ⟨x, e⟩ := d.st; ⟨x, get_new e⟩, let ⟨x, e, l⟩ := d.cs; ⟨x, get_new e, l⟩⟩
theorem Dr.set {n c : Nat} {h : CH} (d : Dr n c h) {m : Nat} (o : CO) (a : m ≠ n) (b : m ≠ c) : Dr n c (h.set m o) :=
  ⟨d.ne, let ⟨x, e⟩ := d.st; ⟨x, (get_ne (Ne.symm a)).trans e⟩, let ⟨x, e, l⟩ := d.cs; ⟨x, (get_ne (Ne.symm b)).trans e, l⟩⟩
theorem Fr.new {n c : Nat} {h : CH} (o : CO) : Fr n c h (h.new o) := ⟨Eq.refl _, by rw [len_new]; omega, fun m _ _ l => by
  show (h.os ++ [o])[m]? = _
  rw [List.getElem?_append_left l]⟩
theorem Fr.setN {n c : Nat} {h : CH} (o : CO) : Fr n c h (h.set n o) := ⟨Eq.refl _, by rw [len_set]; omega, fun m a _ _ => get_ne a⟩
theorem Fr.setC {n c : Nat} {h : CH} (o : CO) : Fr n c h (h.set c o) := ⟨Eq.refl _, by rw [len_set]; omega, fun m _ a _ => get_ne a⟩
theorem lstOf_ref {h : CH} {m : Nat} {xs : List CV} (e : h.os[m]? = some (.lst xs)) : lstOf h (.ref m) = some xs := by simp [lstOf, e]
theorem ix_lst {h : CH} {m : Nat} {xs : List CV} {i : Nat} {v : CV} (e : h.os[m]? = some (.lst xs)) (g : xs[i]? = some v) : ixV (.ref m) (.int i) h = .ok v h := by
  have l : i < xs.length := get_lt g
  simp only [ixV, lstOf_ref e, atC, ixC]
  rw [if_pos (by omega), if_pos (by omega)]
  simp [g]
theorem len_lst {h : CH} {m : Nat} {xs : List CV} (e : h.os[m]? = some (.lst xs)) : lenV [.ref m] h = .ok (.int xs.length) h := by simp [lenV, lstOf_ref e]
theorem eq_int {h : CH} (i j : Int) : eqV (.int i) (.int j) h = .ok (.bl (i == j)) h := by simp [eqV, dataC, eqD]
theorem kind_lst {h : CH} {m : Nat} {xs : List CV} (e : h.os[m]? = some (.lst xs)) : kindC (.ref m) h = 5 := by simp [kindC, kindO, e]
theorem popAt0 {h : CH} {m : Nat} {x : CV} {xs : List CV} (e : h.os[m]? = some (.lst (x :: xs))) : popAtV [.ref m, .int 0] h = .ok x (h.set m (.lst xs)) := by
  simp only [popAtV, e]
  rw [if_pos ⟨by omega, by simp, by unfold B62; omega⟩]
  rfl
theorem setIx_lst {h : CH} {m : Nat} {xs : List CV} {i : Nat} {v : CV} (e : h.os[m]? = some (.lst xs)) (g : i < xs.length) : setIxV (.ref m) (.int i) v h = some (h.set m (.lst (xs.set i v))) := by
  simp only [setIxV, e, ixC]
  rw [if_pos (by omega), if_pos (by omega)]
  simp
theorem add_int {h : CH} (i j : Int) : addV (.int i) (.int j) h = .ok (.int (i + j)) h := rfl
theorem mod_int {h : CH} (i : Int) {j : Int} (p : 0 < j) : modV (.int i) (.int j) h = .ok (.int (i % j)) h := if_pos p
theorem div_int {h : CH} (i : Int) {j : Int} (p : 0 < j) (p2 : j < 1073741824) : fdivV (.int i) (.int j) h = .ok (.int (i / j)) h := if_pos ⟨p, p2⟩
theorem mul_int {h : CH} (i j : Int) (p : -18446744073709551616 < j ∧ j < 18446744073709551616) : mulV (.int i) (.int j) h = .ok (.int (i * j)) h := if_pos (.inr p)
theorem draw {n c : Nat} {h : CH} {k : Nat} {Q : CV → CH → Prop} (d : Dr n c h) (k0 : 0 < k) (k1 : k < 1073741824)
    (q : ∀ (v : Nat) h', v < k → Dr n c h' → Fr n c h h' → h'.os.length = h.os.length → Q (.int v) h') : OkE NoX (m_law_draw [.ref n, .int k] h) Q := by
  obtain ⟨x, en⟩ := d.st
  obtain ⟨xs, ec, lx⟩ := d.cs
  have modq : ∀ (i : Int) h', Dr n c h' → Fr n c h h' → h'.os.length = h.os.length → Q (.int (i % (k : Int))) h' := fun i h' a b e => by
    have e1 : i % (k : Int) = ((i % (k : Int)).toNat : Int) := by
      have := Int.emod_nonneg i (show (k : Int) ≠ 0 by omega)
      omega
    rw [e1]
    refine q _ h' ?_ a b e
    have := Int.emod_lt_of_pos i (show (0 : Int) < k by omega)
    omega
  refine Ok_runD _ _ _ _ rfl ?_
  simp only [Sk_sSeq, Sk_sSet, Ok_e2, Ok_eVar, Ok_eC]
  refine ⟨.ref n, rfl, ?_⟩
  refine Ok.eq (ix_lst (i := 0) en rfl) ?_
  refine Sk_while (fun i s h1 => s = [some (.ref n), some (.int k), some (.ref c), none, none] ∧ Dr n c h1 ∧ Fr n c h h1 ∧ h1.os.length = h.os.length ∧ ∃ ys : List Int, h1.os[c]? = some (.lst (ys.map CV.int)) ∧ ys.length = i) ?_ 1000 xs.length _ _ (by omega) ⟨rfl, d, .rfl, rfl, xs, ec, rfl⟩
  rintro i s h1 ⟨rfl, d1, f1, l1, ys, e1, ly⟩
  simp only [Ok_tAnd, Ok_tV, Ok_e2, Ok_eCall, Ok_aCons, Ok_aNil, Ok_eVar, Ok_eC, Sk_sE, Ok_eBM]
  refine ⟨.ref c, rfl, Ok.eq (len_lst e1) (Ok.eq rfl ⟨_, rfl, ?_⟩)⟩
  have rest : ∀ h2, Dr n c h2 → Fr n c h h2 → h2.os.length = h.os.length → ∀ ys : List Int, h2.os[c]? = some (.lst (ys.map CV.int)) →
    SkE (fun _ => NoX) ((sSeq (sIf (tV (e2 gtV (eCall lenV (aCons (eVar 2) (aNil))) (eC (.int 0)))) (sSeq (sSet 3 (e2 ixV (eVar 2) (eC (.int 0))))
    (sSeq (sSetIx (e2 fdivV (eVar 3) (eVar 1)) (eVar 2) (eC (.int 0)))
    (sRet (e2 modV (eCall intV (aCons (eVar 3) (aNil))) (eVar 1)))))
    (sNil))
    (sSeq (sSet 4 (e2 modV (eCall intV (aCons (e2 addV (e2 mulV (e2 ixV (eVar 0) (eC (.int 1))) (eC (.int 48271))) (eC (.int 12345))) (aNil))) (eC (.int 2147483647))))
    (sSeq (sSetIx (eVar 4) (eVar 0) (eC (.int 1)))
    (sRet (e2 modV (eCall intV (aCons (e2 fdivV (eVar 4) (eC (.int 64))) (aNil))) (eVar 1)))))) [some (.ref n), some (.int k), some (.ref c), none, none] h2) (fun _ h1 => Q .non h1) (fun _ _ => False) Q := by
    intro h2 d2 f2 l2 ys e2
    simp only [Sk_sSeq, Sk_sIf, Ok_tV, Ok_e2, Ok_eCall, Ok_aCons, Ok_aNil, Ok_eVar, Ok_eC]
    refine ⟨.ref c, rfl, Ok.eq (len_lst e2) (Ok.eq rfl ⟨_, rfl, ?_⟩)⟩
    cases ys with
    | cons y ys =>
      rw [if_pos (by simp)]
      simp only [Sk_sSeq, Sk_sSet, Sk_sSetIx, Sk_sRet, Ok_tV, Ok_e2, Ok_eCall, Ok_aCons, Ok_aNil, Ok_eVar, Ok_eC]
      refine ⟨.ref c, rfl, Ok.eq (ix_lst (i := 0) e2 rfl) ⟨.int y, rfl, .int k, rfl, Ok.eq (div_int _ (by omega) (by omega)) ⟨.ref c, rfl, _, setIx_lst (i := 0) e2 (by simp), .int y, rfl, Ok.eq rfl ⟨.int k, rfl, ?_⟩⟩⟩⟩
      refine Ok.eq (mod_int _ (by omega)) (modq y _ ?_ (f2.trans (.setC _)) (by rw [len_set]; exact l2))
      obtain ⟨x2, en2⟩ := d2.st
      obtain ⟨xs2, ec2, lx2⟩ := d2.cs
      refine ⟨d2.ne, ⟨x2, (get_ne d2.ne).trans en2⟩, (y / (k : Int)) :: ys, ?_, ?_⟩
      · rw [get_set e2]; rfl
      · rw [e2] at ec2
        have : (y :: ys).map CV.int = xs2.map CV.int := by injection ec2 with z; injection z
        have := congrArg List.length this
        simp at this ⊢
        omega
    | nil =>
      rw [if_neg (by simp)]
      obtain ⟨x2, en2⟩ := d2.st
      simp only [Sk_sNil, Sk_sSeq, Sk_sSet, Sk_sSetIx, Sk_sRet, Ok_tV, Ok_e2, Ok_eCall, Ok_aCons, Ok_aNil, Ok_eVar, Ok_eC]
      refine ⟨.ref n, rfl, Ok.eq (ix_lst (i := 1) en2 rfl) ?_⟩
      refine Ok.eq (mul_int _ _ (by omega)) ?_
      refine Ok.eq (add_int _ _) (Ok.eq rfl (Ok.eq (mod_int _ (by omega)) ?_))
      refine ⟨_, rfl, .ref n, rfl, _, setIx_lst (i := 1) en2 (by simp), _, rfl, ?_⟩
      refine Ok.eq (div_int _ (by omega) (by omega)) (Ok.eq rfl ⟨.int k, rfl, Ok.eq (mod_int _ (by omega)) (modq _ _ ?_ (f2.trans (.setN _)) (by rw [len_set]; exact l2))⟩)
      obtain ⟨xs2, ec2, lx2⟩ := d2.cs
      exact ⟨d2.ne, ⟨_, get_set en2⟩, xs2, (get_ne d2.ne.symm).trans ec2, lx2⟩
  cases ys with
  | nil =>
    rw [if_neg (by simp)]
    have z := rest h1 d1 f1 l1 [] e1
    simp only [Sk_sSeq, Sk_sSet, Ok_tAnd, Ok_tV, Ok_e2, Ok_eCall, Ok_aCons, Ok_aNil, Ok_eVar, Ok_eC, Sk_sE, Ok_eBM] at z
    rw [if_neg (by simp)]
    exact z
  | cons y ys =>
    rw [if_pos (by simp)]
    refine ⟨.ref c, rfl, Ok.eq (ix_lst (i := 0) e1 rfl) (Ok.eq (eq_int _ _) ⟨_, rfl, ?_⟩)⟩
    by_cases y0 : y = 0
    · rw [if_pos (by simp [y0])]
      refine ⟨ys.length, by rw [← ly]; rfl, .ref c, rfl, kind_lst e1, Ok.eq (popAt0 e1) ⟨trivial, ?_, f1.trans (.setC _), by rw [len_set]; exact l1, ys, get_set e1, rfl⟩⟩
      obtain ⟨x2, en2⟩ := d1.st
      obtain ⟨xs2, ec2, lx2⟩ := d1.cs
      refine ⟨d1.ne, ⟨x2, (get_ne d1.ne).trans en2⟩, ys, get_set e1, ?_⟩
      rw [e1] at ec2
      have : (y :: ys).map CV.int = xs2.map CV.int := by injection ec2 with z; injection z
      have := congrArg List.length this
      simp at this
      omega
    · rw [if_neg (by simp [y0])]
      have z := rest h1 d1 f1 l1 (y :: ys) e1
      simp only [Sk_sSeq, Sk_sSet, Ok_tAnd, Ok_tV, Ok_e2, Ok_eCall, Ok_aCons, Ok_aNil, Ok_eVar, Ok_eC, Sk_sE, Ok_eBM] at z
      exact z
theorem pick_lst {n c m : Nat} {h : CH} {xs : List CV} {Q : CV → CH → Prop} (d : Dr n c h) (e : h.os[m]? = some (.lst xs)) (l : 0 < xs.length) (l2 : xs.length < 1073741824) (mn : m ≠ n) (mc : m ≠ c)
    (q : ∀ (i : Nat) v h', xs[i]? = some v → Dr n c h' → Fr n c h h' → h'.os.length = h.os.length → Q v h') : OkE NoX (m_law_pick [.ref n, .ref m] h) Q := by
  refine Ok_runD _ _ _ _ rfl ?_
  simp only [Sk_sRet, Ok_e2, Ok_eVar, Ok_eCall, Ok_aCons, Ok_aNil]
  refine ⟨.ref m, rfl, .ref n, rfl, .ref m, rfl, Ok.eq (len_lst e) (draw d l l2 fun v h' hv d' f' l' => ?_)⟩
  have e2 : xs[v]? = some xs[v] := List.getElem?_eq_getElem hv
  exact Ok.eq (ix_lst (f'.get e mn mc) e2) (q v _ h' e2 d' f' l')
theorem state {h : CH} {Q : CV → CH → Prop} (l : h.sc.length ≤ 63)
    (q : ∀ n c h', Dr n c h' → h.os.length ≤ n → h.os.length ≤ c → h'.sc = h.sc → h.os.length ≤ h'.os.length → (∀ m, m < h.os.length → h'.os[m]? = h.os[m]?) → Q (.ref n) h') : OkE NoX (m_law_state [.scr] h) Q := by
  refine Ok_runD _ _ _ _ rfl ?_
  simp only [Sk_sSeq, Sk_sSet, Ok_eC]
  refine Sk_sFor ?_
  rw [Ok_eVar]
  refine ⟨.scr, rfl, h.sc.map CV.int, fun i s h1 => h1 = h ∧ ∃ (x : Int) (o : Option CV), s = [some .scr, some (.int x), o], fun i s h1 ⟨e, _⟩ => by rw [e]; rfl, rfl, ⟨rfl, 7, none, rfl⟩, ?_, ?_⟩
  · rintro i v s h1 e ⟨rfl, x, o, rfl⟩
    rw [List.getElem?_map] at e
    obtain ⟨y, ey, rfl⟩ := Option.map_eq_some_iff.mp e
    refine ⟨_, _, rfl, ?_⟩
    simp only [Sk_sSet, Ok_e2, Ok_eCall, Ok_aCons, Ok_aNil, Ok_eVar, Ok_eC]
    refine ⟨.int x, rfl, Ok.eq (mul_int _ _ (by omega)) ⟨.int y, rfl, Ok.eq (add_int _ _) (Ok.eq rfl (Ok.eq (mod_int _ (by omega)) ⟨rfl, _, _, rfl⟩))⟩⟩
  · rintro s h1 ⟨rfl, x, o, rfl⟩
    simp only [Sk_sRet, Ok_eLst, Ok_aCons, Ok_aNil, Ok_e2, Ok_eVar, Ok_eC]
    refine Ok_eComp ?_
    rw [Ok_eVar]
    refine ⟨.scr, rfl, h1.sc.map CV.int, fun i h2 => h2.sc = h1.sc ∧ h2.os.length = h1.os.length + 1 ∧ (∀ m, m < h1.os.length → h2.os[m]? = h1.os[m]?) ∧ ∃ ys : List Int, h2.os[h1.os.length]? = some (.lst (ys.map CV.int)) ∧ ys.length = i,
      fun i h2 ⟨e, _⟩ => by unfold itemAt lstOf; rw [e], rfl, ⟨rfl, len_new, fun m lm => (Fr.new (n := m + 1) (c := m + 1) (h := h1) _).fr m (by omega) (by omega) lm, [], get_self, rfl⟩, ?_, ?_⟩
    · rintro i v h2 e ⟨es, el, ef, ys, ey, ly⟩
      rw [List.getElem?_map] at e
      obtain ⟨y, eyy, rfl⟩ := Option.map_eq_some_iff.mp e
      refine lc_turn rfl ?_
      rw [Ok_tYes]
      simp only [if_true, Ok_eCall, Ok_aCons, Ok_aNil, Ok_eVar]
      have li : i < h1.sc.length := get_lt eyy
      refine ⟨.int y, rfl, Ok.eq rfl ⟨_, ey, ?_, es, ?_, ?_, ys ++ [if y < 0 then -y else y], ?_, ?_⟩⟩
      · rw [List.length_map]; show ys.length < 16777216; omega
      · rw [len_set]; exact el
      · intro m lm
        rw [get_ne (by omega)]
        exact ef m lm
      · rw [get_set ey, List.map_append]; rfl
      · rw [List.length_append, ly]; rfl
    · rintro h2 ⟨es, el, ef, ys, ey, ly⟩
      rw [List.length_map] at ly
      refine ⟨_, rfl, Ok.eq (add_int _ _) ⟨by show 2 ≤ 16777216; omega, ?_⟩⟩
      refine q h2.os.length h1.os.length _ ⟨by omega, ⟨_, get_self⟩, ys, get_new ey, by omega⟩ (by omega) (Nat.le_refl _) es (by rw [len_new]; omega) fun m lm => ?_
      rw [← ef m lm]
      exact (Fr.new (n := m + 1) (c := m + 1) (h := h2) _).fr m (by omega) (by omega) (by omega)
end Dw
set_option Elab.async false
set_option maxRecDepth 100000
set_option linter.all false
namespace Cn
open Dw
mutual
theorem eqD_refl : ∀ d : CD, eqD d d = true
  | .non => rfl
  | .bl b => by simp [eqD]
  | .int i => by simp [eqD]
  | .str s => by simp [eqD]
  | .lst xs => by simp only [eqD]; exact eqDs_refl xs
  | .tup xs => by simp only [eqD]; exact eqDs_refl xs
theorem eqDs_refl : ∀ ds : List CD, eqDs ds ds = true
  | [] => rfl
  | d :: ds => by simp only [eqDs]; rw [eqD_refl d, eqDs_refl ds]; rfl
end
theorem ix_str {h : CH} {z : List Nat} {i c : Nat} (l : z.length ≤ 16777216) (e : z[i]? = some c) : ixV (.str z) (.int i) h = .ok (.str [c]) h := by
  have := get_lt e
  simp only [ixV, atC, ixC]
  rw [if_pos l, if_pos (by omega), if_pos (by omega)]
  simp [e]
theorem ix_str0 {h : CH} {z : List Nat} {c : Nat} {r : List Nat} (e : z = c :: r) (l : z.length ≤ 16777216) : ixV (.str z) (.int 0) h = .ok (.str [c]) h := ix_str (i := 0) l (by rw [e]; rfl)
section
variable {s : CS} {h : CH} {N C : CS → CH → Prop} {R : CV → CH → Prop}
end
theorem strsOf_map (zs : List (List Nat)) : strsOf (zs.map CV.str) = some zs := by
  induction zs with
  | nil => rfl
  | cons z zs ih => rw [List.map_cons]; simp [strsOf, ih]
theorem part_idx (c : Nat) : ∀ w : List Nat, partC c w = if c ∈ w then some (w.take (w.idxOf c), w.drop (w.idxOf c + 1)) else none
  | [] => rfl
  | x :: w => by
    unfold partC
    by_cases e : x = c
    · subst e; simp
    · rw [if_neg e, part_idx c w]
      have e' : ¬ c = x := fun z => e z.symm
      by_cases m : c ∈ w
      · have ei : (x :: w).idxOf c = w.idxOf c + 1 := by
          rw [List.idxOf_cons]
          have : (x == c) = false := by simpa using e
          rw [this]; rfl
        rw [if_pos m, if_pos (by simp [m]), ei]
        rfl
      · rw [if_neg m, if_neg (by simp [m, e'])]
theorem cut_to {α : Type} (w : List α) (n : Nat) (l : n ≤ w.length) : cutC w none (some (n : Int)) = w.take n := by
  simp only [cutC, sixC]
  rw [if_neg (by omega)]
  simp only [List.drop_zero]
  congr 1
  omega
theorem cut_from {α : Type} (w : List α) (n : Nat) : cutC w (some (n : Int)) none = w.drop n := by
  simp only [cutC, sixC]
  rw [if_neg (by omega)]
  have e : (min (n : Int) (w.length : Int)).toNat = min n w.length := by omega
  rw [e]
  by_cases l : n ≤ w.length
  · rw [Nat.min_eq_left l]
    apply List.take_of_length_le
    rw [List.length_drop]
    exact Nat.le_refl _
  · rw [Nat.min_eq_right (by omega), List.drop_length, List.drop_eq_nil_of_le (by omega)]
    simp
theorem slice_to {h : CH} {w : List Nat} {n : Nat} (l : w.length ≤ 16777216) (l2 : n ≤ w.length) : sliceV (.str w) none (some (n : Int)) h = .ok (.str (w.take n)) h := by
  simp only [sliceV]
  rw [if_pos l, cut_to w n l2]
theorem slice_from {h : CH} {w : List Nat} {n : Nat} (l : w.length ≤ 16777216) : sliceV (.str w) (some (n : Int)) none h = .ok (.str (w.drop n)) h := by
  simp only [sliceV]
  rw [if_pos l, cut_from w n]
theorem slice_scr {h : CH} (lo hi : Option Int) : sliceV .scr lo hi h = alloc (.lst (cutC (h.sc.map CV.int) lo hi)) h := rfl
end Cn
namespace Dw
open Cn
end Dw
set_option Elab.async false
set_option maxRecDepth 100000
namespace Mir
open Cn
/- classes: {'TrunklandError': 0, 'LetterError': 1, 'ConfigError': 2}; fields: {} -/
end Mir
set_option Elab.async false
set_option maxRecDepth 100000
namespace Mir
open Cn
/- classes: {'Tariff': 9}; fields: {'unit': 45, 'bands': 46, 'last': 47} -/
def m_Tariff_init : Def := runD 6 4 (
    sSeq (sIf (Cn.tNot (tV (eChain leV leV (eC (.int 1)) (eVar 1) (eC (.int 10000))))) (sRaiseX 2 1 (eC (.str [117, 110, 105, 116])))
    (sNil))
    (sSeq (sIf (tV (e2 gtV (eCall lenV (aCons (eVar 2) (aNil))) (eC (.int 8)))) (sRaiseX 2 1 (eC (.str [98, 97, 110, 100, 115])))
    (sNil))
    (sSeq (sFor (eVar 2) (Cn.gTup 2 (gsCons (gSet 4) (gsCons (gSet 5) (gsNil))))
    (sIf (Cn.tOr (Cn.tNot (tV (eChain leV leV (eC (.int 1)) (eVar 4) (eC (.int 10000))))) (Cn.tNot (tV (eChain leV leV (eC (.int 0)) (eVar 5) (eC (.int 10000)))))) (sRaiseX 2 1 (eC (.str [98, 97, 110, 100, 115])))
    (sNil)))
    (sSeq (sIf (Cn.tNot (tV (eChain leV leV (eC (.int 0)) (eVar 3) (eC (.int 10000))))) (sRaiseX 2 1 (eC (.str [108, 97, 115, 116])))
    (sNil))
    (sSeq (sFld [9] 45 (eVar 0) (eVar 1))
    (sSeq (sFld [9] 46 (eVar 0) (eCall listV (aCons (eVar 2) (aNil))))
    (sFld [9] 47 (eVar 0) (eVar 3))))))))
def m_Tariff_units : Def := runD 2 2 (
    sRet (e2 fdivV (e2 subV (e2 addV (eVar 1) (eFld [9] 45 (eVar 0))) (eC (.int 1))) (eFld [9] 45 (eVar 0))))
def m_Tariff_cost : Def := runD 7 2 (
    sSeq (sSet 2 (eMeth [(9, re id m_Tariff_units)] (none) (eVar 0) (aCons (eVar 1) (aNil))))
    (sSeq (sSet 3 (eC (.int 0)))
    (sSeq (sFor (eFld [9] 46 (eVar 0)) (Cn.gTup 2 (gsCons (gSet 4) (gsCons (gSet 5) (gsNil))))
    (sSeq (sSet 6 (eCall minV (aCons (eVar 4) (aCons (eVar 2) (aNil)))))
    (sSeq (sAug addI 3 (e2 mulV (eVar 6) (eVar 5)))
    (sAug subV 2 (eVar 6)))))
    (sRet (e2 addV (eVar 3) (e2 mulV (eVar 2) (eFld [9] 47 (eVar 0))))))))
end Mir
set_option Elab.async false
set_option maxRecDepth 100000
namespace Mir
open Cn
/- classes: {'Record': 14, 'Book': 15}; fields: {'number': 49, 'caller': 50, 'callee': 51, 'begun': 61, 'rang': 62, 'answered': 63, 'ended': 64, 'why': 65, 'modes': 66, 'moves': 67, 'records': 68, 'now': 69} -/
def m_Record_init : Def := runD 5 5 (
    sSeq (sFld [14] 49 (eVar 0) (eVar 1))
    (sSeq (sFld [14] 50 (eVar 0) (eVar 2))
    (sSeq (sFld [14] 51 (eVar 0) (eVar 3))
    (sSeq (sFld [14] 61 (eVar 0) (eVar 4))
    (sSeq (sFld [14] 62 (eVar 0) (eC .non))
    (sSeq (sFld [14] 63 (eVar 0) (eC .non))
    (sSeq (sFld [14] 64 (eVar 0) (eC .non))
    (sSeq (sFld [14] 65 (eVar 0) (eC .non))
    (sSeq (sFld [14] 66 (eVar 0) (eLst (aCons (eC (.str [98, 111, 116, 104])) (aCons (eC (.str [98, 111, 116, 104])) (aNil)))))
    (sFld [14] 67 (eVar 0) (eC (.int 0))))))))))))
def m_Record_row : Def := runD 2 1 (
    sSeq (sSet 1 (eTup (aCons (eFld [14] 49 (eVar 0)) (aCons (eFld [14] 50 (eVar 0)) (aCons (eFld [14] 51 (eVar 0)) (aCons (eFld [14] 61 (eVar 0)) (aCons (eFld [14] 62 (eVar 0)) (aCons (eFld [14] 63 (eVar 0)) (aCons (eFld [14] 64 (eVar 0)) (aCons (eFld [14] 65 (eVar 0)) (aNil)))))))))))
    (sRet (e2 addV (eVar 1) (eTup (aCons (e2 ixV (eFld [14] 66 (eVar 0)) (eC (.int 0))) (aCons (e2 ixV (eFld [14] 66 (eVar 0)) (eC (.int 1))) (aCons (eFld [14] 67 (eVar 0)) (aNil))))))))
def m_Book_init : Def := runD 1 1 (
    sSeq (sFld [15] 68 (eVar 0) (eLst (aNil)))
    (sFld [15] 69 (eVar 0) (eC (.int 0))))
def m_Book_begin : Def := runD 2 2 (
    sSeq (sIf (tV (e2 neV (e2 ixV (eVar 1) (eC (.int 2))) (e2 addV (eCall lenV (aCons (eFld [15] 68 (eVar 0)) (aNil))) (eC (.int 1))))) (sRet (eC (.bl false)))
    (sNil))
    (sSeq (sE (eBM 5 appendV (eFld [15] 68 (eVar 0)) (aCons (eMake 14 (re id m_Record_init) (aCons (e2 ixV (eVar 1) (eC (.int 2))) (aCons (e2 ixV (eVar 1) (eC (.int 3))) (aCons (e2 ixV (eVar 1) (eC (.int 4))) (aCons (e2 ixV (eVar 1) (eC (.int 1))) (aNil)))))) (aNil))))
    (sRet (eC (.bl true)))))
def m_Book_change : Def := runD 4 3 (
    sSeq (sSet 3 (e2 ixV (eVar 1) (eC (.int 0))))
    (sSeq (sIf (tV (e2 Cn.eqV (eVar 3) (eC (.str [101, 110, 100])))) (sSeq (sFld [14] 64 (eVar 2) (e2 ixV (eVar 1) (eC (.int 1))))
    (sFld [14] 65 (eVar 2) (e2 ixV (eVar 1) (eC (.int 3)))))
    (sIf (tV (e2 Cn.eqV (eVar 3) (eC (.str [114, 105, 110, 103])))) (sSeq (sIf (Cn.tOr (tV (e1 notNV (eFld [14] 62 (eVar 2)))) (tV (e1 notNV (eFld [14] 63 (eVar 2))))) (sRet (eC (.bl false)))
    (sNil))
    (sFld [14] 62 (eVar 2) (e2 ixV (eVar 1) (eC (.int 1)))))
    (sIf (tV (e2 Cn.eqV (eVar 3) (eC (.str [97, 110, 115, 119, 101, 114])))) (sSeq (sIf (tV (e1 notNV (eFld [14] 63 (eVar 2)))) (sRet (eC (.bl false)))
    (sNil))
    (sFld [14] 63 (eVar 2) (e2 ixV (eVar 1) (eC (.int 1)))))
    (sIf (Cn.tOr (tV (e1 isNV (eFld [14] 63 (eVar 2)))) (tV (e1 (ninC [.int 0, .int 1]) (e2 ixV (eVar 1) (eC (.int 3)))))) (sRet (eC (.bl false)))
    (sIf (tV (e2 Cn.eqV (eVar 3) (eC (.str [116, 117, 114, 110])))) (sSetIx (e2 ixV (eVar 1) (eC (.int 4))) (eFld [14] 66 (eVar 2)) (e2 ixV (eVar 1) (eC (.int 3))))
    (sIf (tV (e2 Cn.eqV (eVar 3) (eC (.str [109, 111, 118, 101, 100])))) (sSeq (sFldAug addI [14] 67 (eVar 2) (eC (.int 1)))
    (sFld [14] 66 (eVar 2) (eLst (aCons (eC (.str [98, 111, 116, 104])) (aCons (eC (.str [98, 111, 116, 104])) (aNil))))))
    (sNil)))))))
    (sRet (eC (.bl true)))))
def m_Book_take : Def := runD 3 2 (
    sSeq (sIf (tV (e2 ltV (e2 ixV (eVar 1) (eC (.int 1))) (eFld [15] 69 (eVar 0)))) (sRet (eC (.bl false)))
    (sNil))
    (sSeq (sIf (tV (e2 Cn.eqV (e2 ixV (eVar 1) (eC (.int 0))) (eC (.str [98, 101, 103, 105, 110])))) (sSet 2 (eMeth [(15, re id m_Book_begin)] (none) (eVar 0) (aCons (eVar 1) (aNil))))
    (sIf (Cn.tOr (Cn.tNot (tV (eChain leV leV (eC (.int 1)) (e2 ixV (eVar 1) (eC (.int 2))) (eCall lenV (aCons (eFld [15] 68 (eVar 0)) (aNil)))))) (tV (e1 notNV (eFld [14] 64 (e2 ixV (eFld [15] 68 (eVar 0)) (e2 subV (e2 ixV (eVar 1) (eC (.int 2))) (eC (.int 1)))))))) (sRet (eC (.bl false)))
    (sSet 2 (eMeth [(15, re id m_Book_change)] (none) (eVar 0) (aCons (eVar 1) (aCons (e2 ixV (eFld [15] 68 (eVar 0)) (e2 subV (e2 ixV (eVar 1) (eC (.int 2))) (eC (.int 1)))) (aNil)))))))
    (sSeq (sIf (tV (eVar 2)) (sFld [15] 69 (eVar 0) (e2 ixV (eVar 1) (eC (.int 1))))
    (sNil))
    (sRet (eVar 2)))))
def m_tell : Def := runD 6 1 (
    sSeq (sSet 1 (eMake 15 (re id m_Book_init) aNil))
    (sSeq (sSet 2 (eLst (aNil)))
    (sSeq (sForE (eVar 0) (Cn.gTup 2 (gsCons (gSet 3) (gsCons (gSet 4) (gsNil))))
    (sIf (Cn.tNot (tV (eMeth [(15, re id m_Book_take)] (none) (eVar 1) (aCons (eVar 4) (aNil))))) (sE (eBM 5 appendV (eVar 2) (aCons (eVar 3) (aNil))))
    (sNil)))
    (sRet (eTup (aCons (eComp [5] (eFld [15] 68 (eVar 1)) (gSet 5) (Cn.tYes) (eMeth [(14, re id m_Record_row)] (none) (eVar 5) aNil)) (aCons (eVar 2) (aNil))))))))
end Mir
set_option Elab.async false
set_option maxRecDepth 100000
namespace Mir
open Cn
def m_judge : Def := runD 14 4 (
    sSeq (sAsg (eCall m_tell (aCons (eVar 0) (aNil))) (Cn.gTup 2 (gsCons (gSet 4) (gsCons (gSet 5) (gsNil)))))
    (sSeq (sSet 6 (eComp [7] (eVar 5) (gSet 7) (Cn.tYes) (eTup (aCons (eC (.str [101, 118, 101, 110, 116])) (aCons (eVar 7) (aNil))))))
    (sSeq (sSet 8 (eNewD (.dK [])))
    (sSeq (sFor (eVar 2) (gSet 9)
    (sSeq (sIf (tV (e2 dinV (e2 ixV (eVar 9) (eC (.int 0))) (eVar 8))) (sE (eBM 5 appendV (eVar 6) (aCons (eTup (aCons (eC (.str [116, 119, 105, 99, 101])) (aCons (e2 ixV (eVar 9) (eC (.int 0))) (aNil)))) (aNil))))
    (sNil))
    (sDPut (eVar 9) (eVar 8) (e2 ixV (eVar 9) (eC (.int 0))))))
    (sSeq (sFor (eVar 4) (gSet 10)
    (sSeq (sPar3 11 12 13 (aCons (e2 ixV (eVar 10) (eC (.int 0))) (aCons (e2 ixV (eVar 10) (eC (.int 5))) (aCons (e2 ixV (eVar 10) (eC (.int 6))) (aNil)))))
    (sIf (Cn.tOr (tV (e1 isNV (eVar 12))) (tV (e1 isNV (eVar 13)))) (sSeq (sIf (tV (e2 dinV (eVar 11) (eVar 8))) (sE (eBM 5 appendV (eVar 6) (aCons (eTup (aCons (eC (.str [98, 105, 108, 108])) (aCons (eVar 11) (aNil)))) (aNil))))
    (sNil))
    (sIf (tV (e2 neV (e1 notNV (eVar 12)) (e2 Cn.inV (eVar 11) (eVar 3)))) (sE (eBM 5 appendV (eVar 6) (aCons (eTup (aCons (eC (.str [112, 101, 110, 100, 105, 110, 103])) (aCons (eVar 11) (aNil)))) (aNil))))
    (sNil)))
    (sIf (tV (e2 dninV (eVar 11) (eVar 8))) (sE (eBM 5 appendV (eVar 6) (aCons (eTup (aCons (eC (.str [110, 111, 110, 101])) (aCons (eVar 11) (aNil)))) (aNil))))
    (sIf (Cn.tOr (tV (e2 neV (eSlice (e2 dixV (eVar 8) (eVar 11)) (oSome (eC (.int 3))) oNone) (eTup (aCons (eVar 12) (aCons (eVar 13) (aCons (eMeth [(9, re id m_Tariff_cost)] (some 53) (eVar 1) (aCons (e2 subV (eVar 13) (eVar 12)) (aNil))) (aNil))))))) (tV (e2 neV (eSlice (e2 dixV (eVar 8) (eVar 11)) (oSome (eC (.int 1))) (oSome (eC (.int 3)))) (eSlice (eVar 10) (oSome (eC (.int 1))) (oSome (eC (.int 3))))))) (sE (eBM 5 appendV (eVar 6) (aCons (eTup (aCons (eC (.str [98, 105, 108, 108])) (aCons (eVar 11) (aNil)))) (aNil))))
    (sNil))))))
    (sRet (eVar 6)))))))
end Mir
set_option Elab.async false
set_option maxRecDepth 100000
namespace Mir
open Cn
abbrev m_law_state : Def := Dw.m_law_state
abbrev m_law_draw : Def := Dw.m_law_draw
abbrev m_law_pick : Def := Dw.m_law_pick
def m_law_event : Def := runD 7 3 (
    sSeq (sSet 3 (eCall m_law_pick (aCons (eVar 0) (aCons (eLst (aCons (e2 ixV (eVar 2) (eC (.int 0))) (aCons (e2 ixV (eVar 2) (eC (.int 0))) (aCons (eCall m_law_draw (aCons (eVar 0) (aCons (e2 addV (e2 ixV (eVar 2) (eC (.int 0))) (eC (.int 2))) (aNil)))) (aNil))))) (aNil)))))
    (sSeq (sSet 4 (eCall m_law_draw (aCons (eVar 0) (aCons (eC (.int 12)) (aNil)))))
    (sSeq (sIf (tV (e2 ltV (eVar 4) (eC (.int 3)))) (sSeq (sSet 5 (eCall m_law_pick (aCons (eVar 0) (aCons (eLst (aCons (e2 addV (e2 ixV (eVar 2) (eC (.int 0))) (eC (.int 1))) (aCons (e2 addV (e2 ixV (eVar 2) (eC (.int 0))) (eC (.int 1))) (aCons (e2 addV (e2 ixV (eVar 2) (eC (.int 0))) (eC (.int 1))) (aCons (eVar 3) (aNil)))))) (aNil)))))
    (sRet (eTup (aCons (eC (.str [98, 101, 103, 105, 110])) (aCons (eVar 1) (aCons (eVar 5) (aCons (eC (.str [97, 110, 110, 64, 120])) (aCons (eCall m_law_pick (aCons (eVar 0) (aCons (eLst (aCons (eC (.str [98, 111, 98, 64, 120])) (aCons (eC (.str [101, 118, 101, 64, 120])) (aNil)))) (aNil)))) (aNil)))))))))
    (sNil))
    (sSeq (sIf (tV (e2 ltV (eVar 4) (eC (.int 5)))) (sRet (eTup (aCons (eC (.str [114, 105, 110, 103])) (aCons (eVar 1) (aCons (eVar 3) (aNil))))))
    (sNil))
    (sSeq (sIf (tV (e2 ltV (eVar 4) (eC (.int 7)))) (sRet (eTup (aCons (eC (.str [97, 110, 115, 119, 101, 114])) (aCons (eVar 1) (aCons (eVar 3) (aCons (eCall m_law_pick (aCons (eVar 0) (aCons (eLst (aCons (eC (.str [112])) (aCons (eC (.str [113])) (aNil)))) (aNil)))) (aNil)))))))
    (sNil))
    (sSeq (sSet 6 (eCall m_law_pick (aCons (eVar 0) (aCons (eLst (aCons (eC (.int 0)) (aCons (eC (.int 1)) (aCons (eC (.int 0)) (aCons (eC (.int 1)) (aCons (eC (.int 2)) (aNil))))))) (aNil)))))
    (sSeq (sIf (tV (e2 Cn.eqV (eVar 4) (eC (.int 7)))) (sRet (eTup (aCons (eC (.str [116, 117, 114, 110])) (aCons (eVar 1) (aCons (eVar 3) (aCons (eVar 6) (aCons (eCall m_law_pick (aCons (eVar 0) (aCons (eLst (aCons (eC (.str [98, 111, 116, 104])) (aCons (eC (.str [115, 101, 110, 100])) (aCons (eC (.str [110, 111, 110, 101])) (aNil))))) (aNil)))) (aNil))))))))
    (sNil))
    (sSeq (sIf (tV (e2 Cn.eqV (eVar 4) (eC (.int 8)))) (sRet (eTup (aCons (eC (.str [109, 111, 118, 101])) (aCons (eVar 1) (aCons (eVar 3) (aCons (eVar 6) (aCons (eC (.str [106, 111, 101, 64, 120])) (aNil))))))))
    (sNil))
    (sSeq (sIf (tV (e2 Cn.eqV (eVar 4) (eC (.int 9)))) (sRet (eTup (aCons (eC (.str [109, 111, 118, 101, 100])) (aCons (eVar 1) (aCons (eVar 3) (aCons (eVar 6) (aNil)))))))
    (sNil))
    (sRet (eTup (aCons (eC (.str [101, 110, 100])) (aCons (eVar 1) (aCons (eVar 3) (aCons (eCall m_law_pick (aCons (eVar 0) (aCons (eLst (aCons (eC (.str [99, 97, 108, 108, 101, 114])) (aCons (eC (.str [108, 111, 115, 116])) (aCons (eC (.str [114, 101, 102, 117, 115, 101, 100])) (aNil))))) (aNil)))) (aNil))))))))))))))))
def m_law_stands : Def := runD 4 3 (
    sSeq (sIf (tV (e2 ltV (e2 ixV (eVar 0) (eC (.int 1))) (e2 ixV (eVar 2) (eC (.int 0))))) (sRet (eC (.bl false)))
    (sNil))
    (sSeq (sIf (tV (e2 Cn.eqV (e2 ixV (eVar 0) (eC (.int 0))) (eC (.str [98, 101, 103, 105, 110])))) (sRet (e2 Cn.eqV (e2 ixV (eVar 0) (eC (.int 2))) (e2 addV (eCall lenV (aCons (eVar 1) (aNil))) (eC (.int 1)))))
    (sNil))
    (sSeq (sIf (Cn.tNot (tV (eChain leV leV (eC (.int 1)) (e2 ixV (eVar 0) (eC (.int 2))) (eCall lenV (aCons (eVar 1) (aNil)))))) (sRet (eC (.bl false)))
    (sNil))
    (sSeq (sSet 3 (e2 ixV (eVar 1) (e2 subV (e2 ixV (eVar 0) (eC (.int 2))) (eC (.int 1)))))
    (sSeq (sIf (tV (e1 notNV (e2 ixV (eVar 3) (eC (.int 6))))) (sRet (eC (.bl false)))
    (sNil))
    (sSeq (sIf (tV (e2 Cn.eqV (e2 ixV (eVar 0) (eC (.int 0))) (eC (.str [114, 105, 110, 103])))) (sRet (eAnd (e1 isNV (e2 ixV (eVar 3) (eC (.int 4)))) (e1 isNV (e2 ixV (eVar 3) (eC (.int 5))))))
    (sNil))
    (sSeq (sIf (tV (e2 Cn.eqV (e2 ixV (eVar 0) (eC (.int 0))) (eC (.str [97, 110, 115, 119, 101, 114])))) (sRet (e1 isNV (e2 ixV (eVar 3) (eC (.int 5)))))
    (sNil))
    (sRet (eOr (e2 Cn.eqV (e2 ixV (eVar 0) (eC (.int 0))) (eC (.str [101, 110, 100]))) (eAnd (e1 notNV (e2 ixV (eVar 3) (eC (.int 5)))) (e2 Cn.inV (e2 ixV (eVar 0) (eC (.int 3))) (eLst (aCons (eC (.int 0)) (aCons (eC (.int 1)) (aNil)))))))))))))))
def m_law_apply : Def := runD 4 3 (
    sSeq (sSetIx (e2 ixV (eVar 0) (eC (.int 1))) (eVar 2) (eC (.int 0)))
    (sSeq (sIf (tV (e2 Cn.eqV (e2 ixV (eVar 0) (eC (.int 0))) (eC (.str [98, 101, 103, 105, 110])))) (sSeq (sE (eBM 5 appendV (eVar 1) (aCons (eLst (aCons (e2 ixV (eVar 0) (eC (.int 2))) (aCons (e2 ixV (eVar 0) (eC (.int 3))) (aCons (e2 ixV (eVar 0) (eC (.int 4))) (aCons (e2 ixV (eVar 0) (eC (.int 1))) (aCons (eC .non) (aCons (eC .non) (aCons (eC .non) (aCons (eC .non) (aCons (eC (.str [98, 111, 116, 104])) (aCons (eC (.str [98, 111, 116, 104])) (aCons (eC (.int 0)) (aNil))))))))))))) (aNil))))
    (sRetN))
    (sNil))
    (sSeq (sSet 3 (e2 ixV (eVar 1) (e2 subV (e2 ixV (eVar 0) (eC (.int 2))) (eC (.int 1)))))
    (sIf (tV (e2 Cn.eqV (e2 ixV (eVar 0) (eC (.int 0))) (eC (.str [114, 105, 110, 103])))) (sSetIx (e2 ixV (eVar 0) (eC (.int 1))) (eVar 3) (eC (.int 4)))
    (sIf (tV (e2 Cn.eqV (e2 ixV (eVar 0) (eC (.int 0))) (eC (.str [97, 110, 115, 119, 101, 114])))) (sSetIx (e2 ixV (eVar 0) (eC (.int 1))) (eVar 3) (eC (.int 5)))
    (sIf (tV (e2 Cn.eqV (e2 ixV (eVar 0) (eC (.int 0))) (eC (.str [101, 110, 100])))) (sSeq (sSetIx (e2 ixV (eVar 0) (eC (.int 1))) (eVar 3) (eC (.int 6)))
    (sSetIx (e2 ixV (eVar 0) (eC (.int 3))) (eVar 3) (eC (.int 7))))
    (sIf (tV (e2 Cn.eqV (e2 ixV (eVar 0) (eC (.int 0))) (eC (.str [116, 117, 114, 110])))) (sSetIx (e2 ixV (eVar 0) (eC (.int 4))) (eVar 3) (e2 addV (eC (.int 8)) (e2 ixV (eVar 0) (eC (.int 3)))))
    (sIf (tV (e2 Cn.eqV (e2 ixV (eVar 0) (eC (.int 0))) (eC (.str [109, 111, 118, 101, 100])))) (sSeq (sSetIx (eC (.str [98, 111, 116, 104])) (eVar 3) (eC (.int 8)))
    (sSeq (sSetIx (eC (.str [98, 111, 116, 104])) (eVar 3) (eC (.int 9)))
    (sSetIx (e2 addV (e2 ixV (eVar 3) (eC (.int 10))) (eC (.int 1))) (eVar 3) (eC (.int 10)))))
    (sNil)))))))))
def m_law_changed_bill : Def := runD 4 2 (
    sSeq (sSet 2 (eCall listV (aCons (eVar 1) (aNil))))
    (sSeq (sSet 3 (eCall m_law_draw (aCons (eVar 0) (aCons (eC (.int 6)) (aNil)))))
    (sSeq (sIf (tV (e2 Cn.inV (eVar 3) (eLst (aCons (eC (.int 1)) (aCons (eC (.int 2)) (aNil)))))) (sSetIx (eC (.str [122, 101, 100, 64, 120])) (eVar 2) (eVar 3))
    (sSetIx (e2 addV (e2 ixV (eVar 2) (eVar 3)) (eC (.int 1))) (eVar 2) (eVar 3)))
    (sRet (eCall tupV (aCons (eVar 2) (aNil)))))))
def m_law_bills : Def := runD 7 3 (
    sSeq (sSet 3 (eLst (aNil)))
    (sSeq (sFor (eVar 1) (gSet 4)
    (sIf (Cn.tAnd (tV (e1 notNV (e2 ixV (eVar 4) (eC (.int 5))))) (tV (e1 notNV (e2 ixV (eVar 4) (eC (.int 6)))))) (sSeq (sSet 5 (eTup (aCons (e2 ixV (eVar 4) (eC (.int 0))) (aCons (e2 ixV (eVar 4) (eC (.int 1))) (aCons (e2 ixV (eVar 4) (eC (.int 2))) (aCons (e2 ixV (eVar 4) (eC (.int 5))) (aCons (e2 ixV (eVar 4) (eC (.int 6))) (aCons (eMeth [(9, re id m_Tariff_cost)] (some 53) (eVar 2) (aCons (e2 subV (e2 ixV (eVar 4) (eC (.int 6))) (e2 ixV (eVar 4) (eC (.int 5)))) (aNil))) (aNil)))))))))
    (sSeq (sSet 6 (eCall m_law_draw (aCons (eVar 0) (aCons (eC (.int 8)) (aNil)))))
    (sSeq (sIf (tV (e2 Cn.eqV (eVar 6) (eC (.int 0)))) (sSet 5 (eCall m_law_changed_bill (aCons (eVar 0) (aCons (eVar 5) (aNil)))))
    (sNil))
    (sSeq (sIf (tV (e2 neV (eVar 6) (eC (.int 1)))) (sE (eBM 5 appendV (eVar 3) (aCons (eVar 5) (aNil))))
    (sNil))
    (sIf (tV (e2 Cn.eqV (eVar 6) (eC (.int 2)))) (sE (eBM 5 appendV (eVar 3) (aCons (eCall m_law_pick (aCons (eVar 0) (aCons (eLst (aCons (eVar 5) (aCons (eCall m_law_changed_bill (aCons (eVar 0) (aCons (eVar 5) (aNil)))) (aNil)))) (aNil)))) (aNil))))
    (sNil))))))
    (sIf (tV (e2 Cn.eqV (eCall m_law_draw (aCons (eVar 0) (aCons (eC (.int 8)) (aNil)))) (eC (.int 0)))) (sE (eBM 5 appendV (eVar 3) (aCons (eTup (aCons (e2 ixV (eVar 4) (eC (.int 0))) (aCons (e2 ixV (eVar 4) (eC (.int 1))) (aCons (e2 ixV (eVar 4) (eC (.int 2))) (aCons (eC (.int 1)) (aCons (eC (.int 2)) (aCons (eC (.int 3)) (aNil)))))))) (aNil))))
    (sNil))))
    (sRet (eVar 3))))
def m_law_pending : Def := runD 4 2 (
    sSeq (sSet 2 (eLst (aNil)))
    (sSeq (sFor (eVar 1) (gSet 3)
    (sIf (tV (e2 neV (eAnd (e1 notNV (e2 ixV (eVar 3) (eC (.int 5)))) (e1 isNV (e2 ixV (eVar 3) (eC (.int 6))))) (e2 Cn.eqV (eCall m_law_draw (aCons (eVar 0) (aCons (eC (.int 8)) (aNil)))) (eC (.int 0))))) (sE (eBM 5 appendV (eVar 2) (aCons (e2 ixV (eVar 3) (eC (.int 0))) (aNil))))
    (sNil)))
    (sRet (eVar 2))))
def m_law_findings : Def := runD 8 4 (
    sSeq (sSet 4 (eComp [5] (eVar 1) (gSet 5) (tV (e2 Cn.eqV (e2 ixV (eVar 5) (eC (.int 0))) (e2 ixV (eVar 0) (eC (.int 0))))) (eVar 5)))
    (sSeq (sSet 6 (eLst (aNil)))
    (sSeq (sIf (Cn.tOr (tV (e1 isNV (e2 ixV (eVar 0) (eC (.int 5))))) (tV (e1 isNV (e2 ixV (eVar 0) (eC (.int 6)))))) (sSeq (sIf (tV (e2 gtV (eCall lenV (aCons (eVar 4) (aNil))) (eC (.int 0)))) (sE (eBM 5 appendV (eVar 6) (aCons (eTup (aCons (eC (.str [98, 105, 108, 108])) (aCons (e2 ixV (eVar 0) (eC (.int 0))) (aNil)))) (aNil))))
    (sNil))
    (sIf (tV (e2 neV (e1 notNV (e2 ixV (eVar 0) (eC (.int 5)))) (e2 Cn.inV (e2 ixV (eVar 0) (eC (.int 0))) (eVar 2)))) (sE (eBM 5 appendV (eVar 6) (aCons (eTup (aCons (eC (.str [112, 101, 110, 100, 105, 110, 103])) (aCons (e2 ixV (eVar 0) (eC (.int 0))) (aNil)))) (aNil))))
    (sNil)))
    (sIf (tV (e2 Cn.eqV (eCall lenV (aCons (eVar 4) (aNil))) (eC (.int 0)))) (sE (eBM 5 appendV (eVar 6) (aCons (eTup (aCons (eC (.str [110, 111, 110, 101])) (aCons (e2 ixV (eVar 0) (eC (.int 0))) (aNil)))) (aNil))))
    (sSeq (sSet 7 (eTup (aCons (e2 ixV (eVar 0) (eC (.int 0))) (aCons (e2 ixV (eVar 0) (eC (.int 1))) (aCons (e2 ixV (eVar 0) (eC (.int 2))) (aCons (e2 ixV (eVar 0) (eC (.int 5))) (aCons (e2 ixV (eVar 0) (eC (.int 6))) (aCons (eMeth [(9, re id m_Tariff_cost)] (some 53) (eVar 3) (aCons (e2 subV (e2 ixV (eVar 0) (eC (.int 6))) (e2 ixV (eVar 0) (eC (.int 5)))) (aNil))) (aNil)))))))))
    (sIf (tV (e2 neV (e2 ixV (eVar 4) (e2 subV (eCall lenV (aCons (eVar 4) (aNil))) (eC (.int 1)))) (eVar 7))) (sE (eBM 5 appendV (eVar 6) (aCons (eTup (aCons (eC (.str [98, 105, 108, 108])) (aCons (e2 ixV (eVar 0) (eC (.int 0))) (aNil)))) (aNil))))
    (sNil)))))
    (sRet (eVar 6)))))
def m_law : Def := runD 16 1 (
    sSeq (sSet 1 (eCall m_law_state (aCons (eVar 0) (aNil))))
    (sSeq (sSet 2 (eMake 9 (re id m_Tariff_init) (aCons (e2 addV (eC (.int 1)) (eCall m_law_draw (aCons (eVar 1) (aCons (eC (.int 4)) (aNil))))) (aCons (eLst (aCons (eTup (aCons (eC (.int 2)) (aCons (eC (.int 5)) (aNil)))) (aNil))) (aCons (eC (.int 1)) (aNil))))))
    (sSeq (sSet 3 (eLst (aNil)))
    (sSeq (sSet 4 (eLst (aNil)))
    (sSeq (sSet 5 (eLst (aNil)))
    (sSeq (sSet 6 (eLst (aCons (eC (.int 0)) (aNil))))
    (sSeq (sSet 7 (eC (.int 0)))
    (sSeq (sForR1 (eCall lenV (aCons (eSlice (eVar 0) oNone (oSome (eC (.int 40)))) (aNil))) (gSet 8)
    (sSeq (sSet 7 (eCall maxV (aCons (eC (.int 0)) (aCons (e2 addV (eVar 7) (eCall m_law_pick (aCons (eVar 1) (aCons (eLst (aCons (eC (.int 0)) (aCons (eC (.int 1)) (aCons (eCall m_law_draw (aCons (eVar 1) (aCons (eC (.int 9)) (aNil)))) (aCons (e1 negV (eC (.int 1))) (aNil)))))) (aNil))))) (aNil)))))
    (sSeq (sSet 9 (eCall m_law_event (aCons (eVar 1) (aCons (eVar 7) (aCons (eLst (aCons (eCall lenV (aCons (eVar 4) (aNil))) (aNil))) (aNil))))))
    (sSeq (sE (eBM 5 appendV (eVar 3) (aCons (eVar 9) (aNil))))
    (sIf (tV (eCall m_law_stands (aCons (eVar 9) (aCons (eVar 4) (aCons (eVar 6) (aNil)))))) (sE (eCall m_law_apply (aCons (eVar 9) (aCons (eVar 4) (aCons (eVar 6) (aNil))))))
    (sE (eBM 5 appendV (eVar 5) (aCons (eTup (aCons (eC (.str [101, 118, 101, 110, 116])) (aCons (eVar 8) (aNil)))) (aNil)))))))))
    (sSeq (sSet 10 (eCall m_law_bills (aCons (eVar 1) (aCons (eVar 4) (aCons (eVar 2) (aNil))))))
    (sSeq (sSet 11 (eCall m_law_pending (aCons (eVar 1) (aCons (eVar 4) (aNil)))))
    (sSeq (sForR1 (eCall lenV (aCons (eVar 10) (aNil))) (gSet 8)
    (sIf (tV (e2 Cn.inV (e2 ixV (e2 ixV (eVar 10) (eVar 8)) (eC (.int 0))) (eComp [12] (eSlice (eVar 10) oNone (oSome (eVar 8))) (gSet 12) (Cn.tYes) (e2 ixV (eVar 12) (eC (.int 0)))))) (sE (eBM 5 appendV (eVar 5) (aCons (eTup (aCons (eC (.str [116, 119, 105, 99, 101])) (aCons (e2 ixV (e2 ixV (eVar 10) (eVar 8)) (eC (.int 0))) (aNil)))) (aNil))))
    (sNil)))
    (sSeq (sFor (eVar 4) (gSet 13)
    (sSet 5 (e2 addV (eVar 5) (eCall m_law_findings (aCons (eVar 13) (aCons (eVar 10) (aCons (eVar 11) (aCons (eVar 2) (aNil)))))))))
    (sSeq (sSet 14 (eCall reprV (aCons (eLst (aCons (eVar 3) (aCons (eVar 10) (aCons (eVar 11) (aNil))))) (aNil))))
    (sSeq (sSet 15 (eCall m_judge (aCons (eVar 3) (aCons (eVar 2) (aCons (eVar 10) (aCons (eVar 11) (aNil)))))))
    (sRet (eAnd (e1 (isiV 5) (eVar 15)) (eAnd (e2 Cn.eqV (eVar 15) (eVar 5)) (e2 Cn.eqV (eCall reprV (aCons (eLst (aCons (eVar 3) (aCons (eVar 10) (aCons (eVar 11) (aNil))))) (aNil))) (eVar 14)))))))))))))))))))
end Mir
set_option Elab.async false
set_option linter.all false
set_option maxRecDepth 100000
set_option maxHeartbeats 4000000
namespace Wk
open PySem PySem.Spec PyProof.Rows L2 Cn Mir
abbrev FD (K : PySem.W.Frag) (d : He.DefD) (fd : FuncData) : Prop := FunD K d.name d.qual d.params d.body d.scope (He.DefD.dvs K d) (He.DefD.kws K d) (He.fAd K d.at_) fd
theorem an_nd : an.Nodup := by decide +kernel
theorem tp_of {X : Cx} {E : XK} (hs : X.stack = X.env :: X.outer) (hf : X.env.frame = some X.env.locals) (hex : X.ex = []) {E₁ : Value → Shared → Prop} (hx : X.xe = fun e s' => wpAny (model X.prog X.w) X.A (leaving X.env e) (fun _ s'' => L2.CX X.prog X.w X.outer X.H_0 X.s_0 E e s'') E₁ s') : Takes X (fun cls d _ H => E cls d H) ∧ PassesOwn (model X.prog X.w) X.A X.env X.xe := ⟨takes_of hs hf hex hx, passes_of hx⟩
abbrev BB (K : PySem.W.Frag) (ns : List Int) : Bs := ⟨ca K, an, ns⟩
section
variable {P : Program} {w : World} {K : PySem.W.Frag} {mg : Str → Option Value} {base h : Heap} {ns : List Int}
theorem fl_number_14 (c : He.SaysD fas fns K) : FldOk K (BB K ns) [14] 49 "number" := fld_ok (cl_cons rfl (He.cls_ok (c.fact 10 (f := .cls "Record") rfl)) (He.noat_ok (c.fact 41 (f := .noat "Record" "number") rfl)) cl_nil) rfl an_nd
theorem fl_caller_14 (c : He.SaysD fas fns K) : FldOk K (BB K ns) [14] 50 "caller" := fld_ok (cl_cons rfl (He.cls_ok (c.fact 10 (f := .cls "Record") rfl)) (He.noat_ok (c.fact 42 (f := .noat "Record" "caller") rfl)) cl_nil) rfl an_nd
theorem fl_callee_14 (c : He.SaysD fas fns K) : FldOk K (BB K ns) [14] 51 "callee" := fld_ok (cl_cons rfl (He.cls_ok (c.fact 10 (f := .cls "Record") rfl)) (He.noat_ok (c.fact 43 (f := .noat "Record" "callee") rfl)) cl_nil) rfl an_nd
theorem fl_begun_14 (c : He.SaysD fas fns K) : FldOk K (BB K ns) [14] 61 "begun" := fld_ok (cl_cons rfl (He.cls_ok (c.fact 10 (f := .cls "Record") rfl)) (He.noat_ok (c.fact 44 (f := .noat "Record" "begun") rfl)) cl_nil) rfl an_nd
theorem fl_rang_14 (c : He.SaysD fas fns K) : FldOk K (BB K ns) [14] 62 "rang" := fld_ok (cl_cons rfl (He.cls_ok (c.fact 10 (f := .cls "Record") rfl)) (He.noat_ok (c.fact 45 (f := .noat "Record" "rang") rfl)) cl_nil) rfl an_nd
theorem fl_answered_14 (c : He.SaysD fas fns K) : FldOk K (BB K ns) [14] 63 "answered" := fld_ok (cl_cons rfl (He.cls_ok (c.fact 10 (f := .cls "Record") rfl)) (He.noat_ok (c.fact 46 (f := .noat "Record" "answered") rfl)) cl_nil) rfl an_nd
theorem fl_ended_14 (c : He.SaysD fas fns K) : FldOk K (BB K ns) [14] 64 "ended" := fld_ok (cl_cons rfl (He.cls_ok (c.fact 10 (f := .cls "Record") rfl)) (He.noat_ok (c.fact 47 (f := .noat "Record" "ended") rfl)) cl_nil) rfl an_nd
theorem fl_why_14 (c : He.SaysD fas fns K) : FldOk K (BB K ns) [14] 65 "why" := fld_ok (cl_cons rfl (He.cls_ok (c.fact 10 (f := .cls "Record") rfl)) (He.noat_ok (c.fact 48 (f := .noat "Record" "why") rfl)) cl_nil) rfl an_nd
theorem fl_modes_14 (c : He.SaysD fas fns K) : FldOk K (BB K ns) [14] 66 "modes" := fld_ok (cl_cons rfl (He.cls_ok (c.fact 10 (f := .cls "Record") rfl)) (He.noat_ok (c.fact 49 (f := .noat "Record" "modes") rfl)) cl_nil) rfl an_nd
theorem fl_moves_14 (c : He.SaysD fas fns K) : FldOk K (BB K ns) [14] 67 "moves" := fld_ok (cl_cons rfl (He.cls_ok (c.fact 10 (f := .cls "Record") rfl)) (He.noat_ok (c.fact 50 (f := .noat "Record" "moves") rfl)) cl_nil) rfl an_nd
theorem fl_records_15 (c : He.SaysD fas fns K) : FldOk K (BB K ns) [15] 68 "records" := fld_ok (cl_cons rfl (He.cls_ok (c.fact 3 (f := .cls "Book") rfl)) (He.noat_ok (c.fact 51 (f := .noat "Book" "records") rfl)) cl_nil) rfl an_nd
theorem fl_now_15 (c : He.SaysD fas fns K) : FldOk K (BB K ns) [15] 69 "now" := fld_ok (cl_cons rfl (He.cls_ok (c.fact 3 (f := .cls "Book") rfl)) (He.noat_ok (c.fact 52 (f := .noat "Book" "now") rfl)) cl_nil) rfl an_nd
theorem fl_unit_9 (c : He.SaysD fas fns K) : FldOk K (BB K ns) [9] 45 "unit" := fld_ok (cl_cons rfl (He.cls_ok (c.fact 13 (f := .cls "Tariff") rfl)) (He.noat_ok (c.fact 53 (f := .noat "Tariff" "unit") rfl)) cl_nil) rfl an_nd
theorem fl_bands_9 (c : He.SaysD fas fns K) : FldOk K (BB K ns) [9] 46 "bands" := fld_ok (cl_cons rfl (He.cls_ok (c.fact 13 (f := .cls "Tariff") rfl)) (He.noat_ok (c.fact 54 (f := .noat "Tariff" "bands") rfl)) cl_nil) rfl an_nd
theorem fl_last_9 (c : He.SaysD fas fns K) : FldOk K (BB K ns) [9] 47 "last" := fld_ok (cl_cons rfl (He.cls_ok (c.fact 13 (f := .cls "Tariff") rfl)) (He.noat_ok (c.fact 55 (f := .noat "Tariff" "last") rfl)) cl_nil) rfl an_nd
theorem sc_m_ConfigError_init : FnScope ["self", "setting"] ["self", "setting"] (defScope sD_m_ConfigError_init) := ⟨rfl, rfl, rfl, by decide +kernel, rfl, by decide +kernel, by decide +kernel⟩
theorem okx_ConfigError (KX : K.In h) (G : h.Ns mainGlobals mg) (c : He.SaysD fas fns K) (cc : ccs.says w K) : Okx P w K mg base 1 (He.ga K "ConfigError") (He.fAd K d_m_ConfigError_init.at_) ["self", "setting"] "setting" := by
  obtain ⟨fd, F⟩ := c.def_ 22 (d := d_m_ConfigError_init) rfl
  obtain ⟨T1, T2, T3, T4⟩ := xraB_ok (Cs2.xf cc 0 (f := fun K => xraB K (He.ga K "ConfigError") (He.fAd K d_m_ConfigError_init.at_) "setting") rfl)
  exact ⟨fd, xinit_ok (k := 0) T1 T4 F sc_m_ConfigError_init rfl (fun cdv A outer s H E => ⟨ps_expr (pe_teinit (Cs2.xf cc 1 (f := fun K => tinB K (He.ga K "TrunklandError")) rfl) rfl (He.glo_ok KX G (c.fact 56 (f := .glo "TrunklandError") rfl)) (pa_cons (pe_var (i := 0) rfl (Or.inl rfl) (by decide +kernel) (by decide +kernel)) (pa_cons pe_str pa_nil rfl) rfl)), ps_ost (pe_var (i := 0) rfl (Or.inl rfl) (by decide +kernel) (by decide +kernel)) (pe_var (i := 1) rfl (Or.inl rfl) (by decide +kernel) (by decide +kernel))⟩), FunD.bindsN (ps := ["self", "setting"]) F fun _ _ _ _ _ _ us hl => match us, hl with | [_, _], _ => rfl⟩
theorem sc_m_Record_init : FnScope ["self", "number", "caller", "callee", "begun"] ["self", "number", "caller", "callee", "begun"] (defScope sD_m_Record_init) := ⟨rfl, rfl, rfl, by decide +kernel, rfl, by decide +kernel, by decide +kernel⟩
theorem fn_m_Record_init (KX : K.In h) (G : h.Ns mainGlobals mg) (c : He.SaysD fas fns K) (cc : ccs.says w K) {fd : FuncData} (F : FD K d_m_Record_init fd) : FnOk P w K mg base (L2.CX P w) 1 (He.fAd K d_m_Record_init.at_) fd ["self", "number", "caller", "callee", "begun"] (spM K (BB K ns) m_Record_init) := by
  refine def_ok (k := 0) (nN := 5) (nP := 5) F sc_m_Record_init _ rfl rfl fun cdv A outer s H E hr => ?_
  obtain ⟨tk, hp⟩ := tp_of (X := cxOf (L2.CX P w) P w K mg base ["self", "number", "caller", "callee", "begun"] "Record.__init__" (defScope sD_m_Record_init) (He.fAd K d_m_Record_init.at_) cdv A outer s H E) (E := E) rfl rfl rfl rfl
  exact (ss_cons (ss_fld (fl_number_14 (ns := ns) c) (se_var 0) (se_var 1))
    (ss_cons (ss_fld (fl_caller_14 (ns := ns) c) (se_var 0) (se_var 2))
    (ss_cons (ss_fld (fl_callee_14 (ns := ns) c) (se_var 0) (se_var 3))
    (ss_cons (ss_fld (fl_begun_14 (ns := ns) c) (se_var 0) (se_var 4))
    (ss_cons (ss_fld (fl_rang_14 (ns := ns) c) (se_var 0) se_non)
    (ss_cons (ss_fld (fl_answered_14 (ns := ns) c) (se_var 0) se_non)
    (ss_cons (ss_fld (fl_ended_14 (ns := ns) c) (se_var 0) se_non)
    (ss_cons (ss_fld (fl_why_14 (ns := ns) c) (se_var 0) se_non)
    (ss_cons (ss_fld (fl_modes_14 (ns := ns) c) (se_var 0) (se_lst (sa_cons (se_str [98, 111, 116, 104]) (sa_cons (se_str [98, 111, 116, 104]) sa_nil))))
    (ss_one (ss_fld (fl_moves_14 (ns := ns) c) (se_var 0) se_int)))))))))))
theorem bd_m_Record_init {fd : FuncData} (F : FD K d_m_Record_init fd) : Binds K fd ["self", "number", "caller", "callee", "begun"] [] := FunD.bindsN (ps := ["self", "number", "caller", "callee", "begun"]) F fun _ _ _ _ _ _ us hl => match us, hl with | [_, _, _, _, _], _ => rfl
theorem okk_m_Record_init_5 (KX : K.In h) (G : h.Ns mainGlobals mg) (c : He.SaysD fas fns K) (cc : ccs.says w K) : Okk P w K mg base (BB K ns) 1 (He.fAd K d_m_Record_init.at_) 5 [] (re id m_Record_init) := by
  obtain ⟨fd, F⟩ := c.def_ 0 (d := d_m_Record_init) rfl
  exact ⟨⟨fd, _, _, _, rfl, fn_m_Record_init KX G c cc F, (KB.plain (bd_m_Record_init F) rfl)⟩⟩
theorem sc_m_Record_row : FnScope ["self", "first"] ["self"] (defScope sD_m_Record_row) := ⟨rfl, rfl, rfl, by decide +kernel, rfl, by decide +kernel, by decide +kernel⟩
theorem fn_m_Record_row (KX : K.In h) (G : h.Ns mainGlobals mg) (c : He.SaysD fas fns K) (cc : ccs.says w K) {fd : FuncData} (F : FD K d_m_Record_row fd) : FnOk P w K mg base (L2.CX P w) 1 (He.fAd K d_m_Record_row.at_) fd ["self"] (spM K (BB K ns) m_Record_row) := by
  refine def_ok (k := 0) (nN := 2) (nP := 1) F sc_m_Record_row _ rfl rfl fun cdv A outer s H E hr => ?_
  obtain ⟨tk, hp⟩ := tp_of (X := cxOf (L2.CX P w) P w K mg base ["self", "first"] "Record.row" (defScope sD_m_Record_row) (He.fAd K d_m_Record_row.at_) cdv A outer s H E) (E := E) rfl rfl rfl rfl
  exact (ss_cons (ss_set (i := 1) sc_m_Record_row.nd (se_tup (sa_cons (se_fld (fl_number_14 (ns := ns) c) (se_var 0) rfl) (sa_cons (se_fld (fl_caller_14 (ns := ns) c) (se_var 0) rfl) (sa_cons (se_fld (fl_callee_14 (ns := ns) c) (se_var 0) rfl) (sa_cons (se_fld (fl_begun_14 (ns := ns) c) (se_var 0) rfl) (sa_cons (se_fld (fl_rang_14 (ns := ns) c) (se_var 0) rfl) (sa_cons (se_fld (fl_answered_14 (ns := ns) c) (se_var 0) rfl) (sa_cons (se_fld (fl_ended_14 (ns := ns) c) (se_var 0) rfl) (sa_cons (se_fld (fl_why_14 (ns := ns) c) (se_var 0) rfl) sa_nil))))))))))
    (ss_one (ss_ret (se_add (se_var 1) (se_tup (sa_cons (se_ix (se_fld (fl_modes_14 (ns := ns) c) (se_var 0) rfl) se_int) (sa_cons (se_ix (se_fld (fl_modes_14 (ns := ns) c) (se_var 0) rfl) se_int) (sa_cons (se_fld (fl_moves_14 (ns := ns) c) (se_var 0) rfl) sa_nil))))))))
theorem bd_m_Record_row {fd : FuncData} (F : FD K d_m_Record_row fd) : Binds K fd ["self"] [] := FunD.bindsN (ps := ["self"]) F fun _ _ _ _ _ _ us hl => match us, hl with | [_], _ => rfl
theorem okk_m_Record_row_1 (KX : K.In h) (G : h.Ns mainGlobals mg) (c : He.SaysD fas fns K) (cc : ccs.says w K) : Okk P w K mg base (BB K ns) 1 (He.fAd K d_m_Record_row.at_) 1 [] (re id m_Record_row) := by
  obtain ⟨fd, F⟩ := c.def_ 1 (d := d_m_Record_row) rfl
  exact ⟨⟨fd, _, _, _, rfl, fn_m_Record_row KX G c cc F, (KB.plain (bd_m_Record_row F) rfl)⟩⟩
theorem sc_m_Book_init : FnScope ["self"] ["self"] (defScope sD_m_Book_init) := ⟨rfl, rfl, rfl, by decide +kernel, rfl, by decide +kernel, by decide +kernel⟩
theorem fn_m_Book_init (KX : K.In h) (G : h.Ns mainGlobals mg) (c : He.SaysD fas fns K) (cc : ccs.says w K) {fd : FuncData} (F : FD K d_m_Book_init fd) : FnOk P w K mg base (L2.CX P w) 1 (He.fAd K d_m_Book_init.at_) fd ["self"] (spM K (BB K ns) m_Book_init) := by
  refine def_ok (k := 0) (nN := 1) (nP := 1) F sc_m_Book_init _ rfl rfl fun cdv A outer s H E hr => ?_
  obtain ⟨tk, hp⟩ := tp_of (X := cxOf (L2.CX P w) P w K mg base ["self"] "Book.__init__" (defScope sD_m_Book_init) (He.fAd K d_m_Book_init.at_) cdv A outer s H E) (E := E) rfl rfl rfl rfl
  exact (ss_cons (ss_fld (fl_records_15 (ns := ns) c) (se_var 0) (se_lst sa_nil))
    (ss_one (ss_fld (fl_now_15 (ns := ns) c) (se_var 0) se_int)))
theorem bd_m_Book_init {fd : FuncData} (F : FD K d_m_Book_init fd) : Binds K fd ["self"] [] := FunD.bindsN (ps := ["self"]) F fun _ _ _ _ _ _ us hl => match us, hl with | [_], _ => rfl
theorem okk_m_Book_init_1 (KX : K.In h) (G : h.Ns mainGlobals mg) (c : He.SaysD fas fns K) (cc : ccs.says w K) : Okk P w K mg base (BB K ns) 1 (He.fAd K d_m_Book_init.at_) 1 [] (re id m_Book_init) := by
  obtain ⟨fd, F⟩ := c.def_ 2 (d := d_m_Book_init) rfl
  exact ⟨⟨fd, _, _, _, rfl, fn_m_Book_init KX G c cc F, (KB.plain (bd_m_Book_init F) rfl)⟩⟩
theorem sc_m_Book_begin : FnScope ["self", "event"] ["self", "event"] (defScope sD_m_Book_begin) := ⟨rfl, rfl, rfl, by decide +kernel, rfl, by decide +kernel, by decide +kernel⟩
theorem fn_m_Book_begin (KX : K.In h) (G : h.Ns mainGlobals mg) (c : He.SaysD fas fns K) (cc : ccs.says w K) (K_okk_m_Record_init_5 : Okk P w K mg base (BB K ns) 1 (He.fAd K d_m_Record_init.at_) 5 [] (re id m_Record_init)) {fd : FuncData} (F : FD K d_m_Book_begin fd) : FnOk P w K mg base (L2.CX P w) 3 (He.fAd K d_m_Book_begin.at_) fd ["self", "event"] (spM K (BB K ns) m_Book_begin) := by
  refine def_ok (k := 2) (nN := 2) (nP := 2) F sc_m_Book_begin _ rfl rfl fun cdv A outer s H E hr => ?_
  obtain ⟨tk, hp⟩ := tp_of (X := cxOf (L2.CX P w) P w K mg base ["self", "event"] "Book.begin" (defScope sD_m_Book_begin) (He.fAd K d_m_Book_begin.at_) cdv A outer s H E) (E := E) rfl rfl rfl rfl
  exact (ss_cons (ss_if (st_ne hr (se_ix (se_var 1) se_int) (se_add (se_callB call_len v_len rfl (He.free_ok KX G (c.fact 0 (f := .free "len") rfl)) (by decide +kernel) (sa_cons (se_fld (fl_records_15 (ns := ns) c) (se_var 0) rfl) sa_nil)) se_int)) (ss_one (ss_ret se_bl))
    ss_nil)
    (ss_cons (ss_expr (se_bm PySem.F.plainAttrs_list PySem.F.slot_list_append PySem.F.type_list_append mt_append (.inr (.inl ⟨rfl, rfl⟩)) v_append (se_fld (fl_records_15 (ns := ns) c) (se_var 0) rfl) (sa_cons (se_make (fm := re id m_Record_init) (He.mkr_ok (c.fact 1 (f := .mkr "Record") rfl)) rfl K_okk_m_Record_init_5 (hr.mono (by decide)) tk rfl (He.glo_ok KX G (c.fact 2 (f := .glo "Record") rfl)) (sa_cons (se_ix (se_var 1) se_int) (sa_cons (se_ix (se_var 1) se_int) (sa_cons (se_ix (se_var 1) se_int) (sa_cons (se_ix (se_var 1) se_int) sa_nil)))) (al_cons (al_cons (al_cons (al_cons al_nil))))) sa_nil)))
    (ss_one (ss_ret se_bl))))
theorem bd_m_Book_begin {fd : FuncData} (F : FD K d_m_Book_begin fd) : Binds K fd ["self", "event"] [] := FunD.bindsN (ps := ["self", "event"]) F fun _ _ _ _ _ _ us hl => match us, hl with | [_, _], _ => rfl
theorem okk_m_Book_begin_2 (KX : K.In h) (G : h.Ns mainGlobals mg) (c : He.SaysD fas fns K) (cc : ccs.says w K) (K_okk_m_Record_init_5 : Okk P w K mg base (BB K ns) 1 (He.fAd K d_m_Record_init.at_) 5 [] (re id m_Record_init)) : Okk P w K mg base (BB K ns) 3 (He.fAd K d_m_Book_begin.at_) 2 [] (re id m_Book_begin) := by
  obtain ⟨fd, F⟩ := c.def_ 3 (d := d_m_Book_begin) rfl
  exact ⟨⟨fd, _, _, _, rfl, fn_m_Book_begin KX G c cc K_okk_m_Record_init_5 F, (KB.plain (bd_m_Book_begin F) rfl)⟩⟩
theorem sc_m_Book_change : FnScope ["self", "event", "record", "name"] ["self", "event", "record"] (defScope sD_m_Book_change) := ⟨rfl, rfl, rfl, by decide +kernel, rfl, by decide +kernel, by decide +kernel⟩
theorem fn_m_Book_change (KX : K.In h) (G : h.Ns mainGlobals mg) (c : He.SaysD fas fns K) (cc : ccs.says w K) {fd : FuncData} (F : FD K d_m_Book_change fd) : FnOk P w K mg base (L2.CX P w) 1 (He.fAd K d_m_Book_change.at_) fd ["self", "event", "record"] (spM K (BB K ns) m_Book_change) := by
  refine def_ok (k := 0) (nN := 4) (nP := 3) F sc_m_Book_change _ rfl rfl fun cdv A outer s H E hr => ?_
  obtain ⟨tk, hp⟩ := tp_of (X := cxOf (L2.CX P w) P w K mg base ["self", "event", "record", "name"] "Book.change" (defScope sD_m_Book_change) (He.fAd K d_m_Book_change.at_) cdv A outer s H E) (E := E) rfl rfl rfl rfl
  exact (ss_cons (ss_set (i := 3) sc_m_Book_change.nd (se_ix (se_var 1) se_int))
    (ss_cons (ss_if (st_eq hr (se_var 3) (se_str [101, 110, 100])) (ss_cons (ss_fld (fl_ended_14 (ns := ns) c) (se_var 2) (se_ix (se_var 1) se_int))
    (ss_one (ss_fld (fl_why_14 (ns := ns) c) (se_var 2) (se_ix (se_var 1) se_int))))
    (ss_one (ss_if (st_eq hr (se_var 3) (se_str [114, 105, 110, 103])) (ss_cons (ss_if (st_w (sw_or (st_notN (se_fld (fl_rang_14 (ns := ns) c) (se_var 2) rfl)) (sw_or1 (st_notN (se_fld (fl_answered_14 (ns := ns) c) (se_var 2) rfl))))) (ss_one (ss_ret se_bl))
    ss_nil)
    (ss_one (ss_fld (fl_rang_14 (ns := ns) c) (se_var 2) (se_ix (se_var 1) se_int))))
    (ss_one (ss_if (st_eq hr (se_var 3) (se_str [97, 110, 115, 119, 101, 114])) (ss_cons (ss_if (st_notN (se_fld (fl_answered_14 (ns := ns) c) (se_var 2) rfl)) (ss_one (ss_ret se_bl))
    ss_nil)
    (ss_one (ss_fld (fl_answered_14 (ns := ns) c) (se_var 2) (se_ix (se_var 1) se_int))))
    (ss_one (ss_if (st_w (sw_or (st_isN (se_fld (fl_answered_14 (ns := ns) c) (se_var 2) rfl)) (sw_or1 (st_ninC rfl (He.glo_ok KX G (Cs2.tup cc 0 rfl).1) (fun H => tupAt_ok (Cs2.tup cc 0 rfl).2 H) rfl (se_ix (se_var 1) se_int))))) (ss_one (ss_ret se_bl))
    (ss_one (ss_if (st_eq hr (se_var 3) (se_str [116, 117, 114, 110])) (ss_one (ss_setIx (se_ix (se_var 1) se_int) (se_fld (fl_modes_14 (ns := ns) c) (se_var 2) rfl) (se_ix (se_var 1) se_int)))
    (ss_one (ss_if (st_eq hr (se_var 3) (se_str [109, 111, 118, 101, 100])) (ss_cons (ss_fldaug (fl_moves_14 (ns := ns) c) (se_var 2) se_int in_add vin_add nox_add)
    (ss_one (ss_fld (fl_modes_14 (ns := ns) c) (se_var 2) (se_lst (sa_cons (se_str [98, 111, 116, 104]) (sa_cons (se_str [98, 111, 116, 104]) sa_nil))))))
    ss_nil)))))))))))
    (ss_one (ss_ret se_bl))))
theorem bd_m_Book_change {fd : FuncData} (F : FD K d_m_Book_change fd) : Binds K fd ["self", "event", "record"] [] := FunD.bindsN (ps := ["self", "event", "record"]) F fun _ _ _ _ _ _ us hl => match us, hl with | [_, _, _], _ => rfl
theorem okk_m_Book_change_3 (KX : K.In h) (G : h.Ns mainGlobals mg) (c : He.SaysD fas fns K) (cc : ccs.says w K) : Okk P w K mg base (BB K ns) 1 (He.fAd K d_m_Book_change.at_) 3 [] (re id m_Book_change) := by
  obtain ⟨fd, F⟩ := c.def_ 4 (d := d_m_Book_change) rfl
  exact ⟨⟨fd, _, _, _, rfl, fn_m_Book_change KX G c cc F, (KB.plain (bd_m_Book_change F) rfl)⟩⟩
theorem sc_m_Book_take : FnScope ["self", "event", "stands"] ["self", "event"] (defScope sD_m_Book_take) := ⟨rfl, rfl, rfl, by decide +kernel, rfl, by decide +kernel, by decide +kernel⟩
theorem fn_m_Book_take (KX : K.In h) (G : h.Ns mainGlobals mg) (c : He.SaysD fas fns K) (cc : ccs.says w K) (K_okk_m_Book_begin_2 : Okk P w K mg base (BB K ns) 3 (He.fAd K d_m_Book_begin.at_) 2 [] (re id m_Book_begin)) (K_okk_m_Book_change_3 : Okk P w K mg base (BB K ns) 1 (He.fAd K d_m_Book_change.at_) 3 [] (re id m_Book_change)) {fd : FuncData} (F : FD K d_m_Book_take fd) : FnOk P w K mg base (L2.CX P w) 4 (He.fAd K d_m_Book_take.at_) fd ["self", "event"] (spM K (BB K ns) m_Book_take) := by
  refine def_ok (k := 3) (nN := 3) (nP := 2) F sc_m_Book_take _ rfl rfl fun cdv A outer s H E hr => ?_
  obtain ⟨tk, hp⟩ := tp_of (X := cxOf (L2.CX P w) P w K mg base ["self", "event", "stands"] "Book.take" (defScope sD_m_Book_take) (He.fAd K d_m_Book_take.at_) cdv A outer s H E) (E := E) rfl rfl rfl rfl
  exact (ss_cons (ss_if (st_lt (se_ix (se_var 1) se_int) (se_fld (fl_now_15 (ns := ns) c) (se_var 0) rfl)) (ss_one (ss_ret se_bl))
    ss_nil)
    (ss_cons (ss_if (st_eq hr (se_ix (se_var 1) se_int) (se_str [98, 101, 103, 105, 110])) (ss_one (ss_set (i := 2) sc_m_Book_take.nd (se_meth (k := 3) (mt_free (show ("begin" : Str) ∉ an by decide +kernel) (mt_cons (m := re id m_Book_begin) rfl (He.cls_ok (c.fact 3 (f := .cls "Book") rfl)) (He.meth_ok (c.fact 4 (f := .meth "Book" "begin") rfl)) K_okk_m_Book_begin_2 (by decide) mt_nil)) hr tk (se_var 0) (sa_cons (se_var 1) sa_nil) (al_cons al_nil))))
    (ss_one (ss_if (st_w (sw_or (st_not (st_chain op_le op_le v_le v_le se_int (se_ix (se_var 1) se_int) (se_callB call_len v_len rfl (He.free_ok KX G (c.fact 0 (f := .free "len") rfl)) (by decide +kernel) (sa_cons (se_fld (fl_records_15 (ns := ns) c) (se_var 0) rfl) sa_nil)))) (sw_or1 (st_notN (se_fld (fl_ended_14 (ns := ns) c) (se_ix (se_fld (fl_records_15 (ns := ns) c) (se_var 0) rfl) (se_sub (se_ix (se_var 1) se_int) se_int)) rfl))))) (ss_one (ss_ret se_bl))
    (ss_one (ss_set (i := 2) sc_m_Book_take.nd (se_meth (k := 3) (mt_free (show ("change" : Str) ∉ an by decide +kernel) (mt_cons (m := re id m_Book_change) rfl (He.cls_ok (c.fact 3 (f := .cls "Book") rfl)) (He.meth_ok (c.fact 5 (f := .meth "Book" "change") rfl)) K_okk_m_Book_change_3 (by decide) mt_nil)) hr tk (se_var 0) (sa_cons (se_var 1) (sa_cons (se_ix (se_fld (fl_records_15 (ns := ns) c) (se_var 0) rfl) (se_sub (se_ix (se_var 1) se_int) se_int)) sa_nil)) (al_cons (al_cons al_nil))))))))
    (ss_cons (ss_if (st_val (se_var 2)) (ss_one (ss_fld (fl_now_15 (ns := ns) c) (se_var 0) (se_ix (se_var 1) se_int)))
    ss_nil)
    (ss_one (ss_ret (se_var 2))))))
theorem bd_m_Book_take {fd : FuncData} (F : FD K d_m_Book_take fd) : Binds K fd ["self", "event"] [] := FunD.bindsN (ps := ["self", "event"]) F fun _ _ _ _ _ _ us hl => match us, hl with | [_, _], _ => rfl
theorem okk_m_Book_take_2 (KX : K.In h) (G : h.Ns mainGlobals mg) (c : He.SaysD fas fns K) (cc : ccs.says w K) (K_okk_m_Book_begin_2 : Okk P w K mg base (BB K ns) 3 (He.fAd K d_m_Book_begin.at_) 2 [] (re id m_Book_begin)) (K_okk_m_Book_change_3 : Okk P w K mg base (BB K ns) 1 (He.fAd K d_m_Book_change.at_) 3 [] (re id m_Book_change)) : Okk P w K mg base (BB K ns) 4 (He.fAd K d_m_Book_take.at_) 2 [] (re id m_Book_take) := by
  obtain ⟨fd, F⟩ := c.def_ 5 (d := d_m_Book_take) rfl
  exact ⟨⟨fd, _, _, _, rfl, fn_m_Book_take KX G c cc K_okk_m_Book_begin_2 K_okk_m_Book_change_3 F, (KB.plain (bd_m_Book_take F) rfl)⟩⟩
theorem sc_m_tell : FnScope ["events", "book", "wrong", "k", "event", "record"] ["events"] (defScope sD_m_tell) := ⟨rfl, rfl, rfl, by decide +kernel, rfl, by decide +kernel, by decide +kernel⟩
theorem fn_m_tell (KX : K.In h) (G : h.Ns mainGlobals mg) (c : He.SaysD fas fns K) (cc : ccs.says w K) (K_okk_m_Record_row_1 : Okk P w K mg base (BB K ns) 1 (He.fAd K d_m_Record_row.at_) 1 [] (re id m_Record_row)) (K_okk_m_Book_init_1 : Okk P w K mg base (BB K ns) 1 (He.fAd K d_m_Book_init.at_) 1 [] (re id m_Book_init)) (K_okk_m_Book_take_2 : Okk P w K mg base (BB K ns) 4 (He.fAd K d_m_Book_take.at_) 2 [] (re id m_Book_take)) {fd : FuncData} (F : FD K d_m_tell fd) : FnOk P w K mg base (L2.CX P w) 5 (He.fAd K d_m_tell.at_) fd ["events"] (spM K (BB K ns) m_tell) := by
  refine def_ok (k := 4) (nN := 6) (nP := 1) F sc_m_tell _ rfl rfl fun cdv A outer s H E hr => ?_
  obtain ⟨tk, hp⟩ := tp_of (X := cxOf (L2.CX P w) P w K mg base ["events", "book", "wrong", "k", "event", "record"] "tell" (defScope sD_m_tell) (He.fAd K d_m_tell.at_) cdv A outer s H E) (E := E) rfl rfl rfl rfl
  exact (ss_cons (ss_set (i := 1) sc_m_tell.nd (se_make0 (fm := re id m_Book_init) (He.mkr_ok (c.fact 6 (f := .mkr "Book") rfl)) rfl K_okk_m_Book_init_1 (hr.mono (by decide)) tk rfl (He.glo_ok KX G (c.fact 7 (f := .glo "Book") rfl))))
    (ss_cons (ss_set (i := 2) sc_m_tell.nd (se_lst sa_nil))
    (ss_cons (ss_forE hp rfl rfl (He.free_ok KX G (c.fact 9 (f := .free "enumerate") rfl)) (se_var 0) [4, 3] (sg_tup rfl (sgs_cons (sg_name sc_m_tell.nd) (sgs_cons (sg_name sc_m_tell.nd) sgs_nil)))
    (ss_one (ss_if (st_not (st_val (se_meth (k := 4) (mt_free (show ("take" : Str) ∉ an by decide +kernel) (mt_cons (m := re id m_Book_take) rfl (He.cls_ok (c.fact 3 (f := .cls "Book") rfl)) (He.meth_ok (c.fact 8 (f := .meth "Book" "take") rfl)) K_okk_m_Book_take_2 (by decide) mt_nil)) hr tk (se_var 1) (sa_cons (se_var 4) sa_nil) (al_cons al_nil)))) (ss_one (ss_expr (se_bm PySem.F.plainAttrs_list PySem.F.slot_list_append PySem.F.type_list_append mt_append (.inr (.inl ⟨rfl, rfl⟩)) v_append (se_var 2) (sa_cons (se_var 3) sa_nil))))
    ss_nil)))
    (ss_one (ss_ret (se_tup (sa_cons (se_comp (own := [("record", 5)]) rfl sc_m_tell.nd (se_fld (fl_records_15 (ns := ns) c) (se_var 1) rfl) (blkOk_by (own := [("record", 5)]) (N := ["events", "book", "wrong", "k", "event", "record"]) (sc := defScope sD_m_tell) (by decide +kernel)) (fun _ _ _ _ _ => (sg_name sc_m_tell.nd)) (fun _ _ _ _ _ => sts_nil) (fun _ _ _ _ _ => (se_meth0 (k := 4) (mt_free (show ("row" : Str) ∉ an by decide +kernel) (mt_cons (m := re id m_Record_row) rfl (He.cls_ok (c.fact 10 (f := .cls "Record") rfl)) (He.meth_ok (c.fact 11 (f := .meth "Record" "row") rfl)) K_okk_m_Record_row_1 (by decide) mt_nil)) hr takes0 (se_var 5)))) (sa_cons (se_var 2) sa_nil))))))))
theorem bd_m_tell {fd : FuncData} (F : FD K d_m_tell fd) : Binds K fd ["events"] [] := FunD.bindsN (ps := ["events"]) F fun _ _ _ _ _ _ us hl => match us, hl with | [_], _ => rfl
theorem ok_m_tell (KX : K.In h) (G : h.Ns mainGlobals mg) (c : He.SaysD fas fns K) (cc : ccs.says w K) (K_okk_m_Record_row_1 : Okk P w K mg base (BB K ns) 1 (He.fAd K d_m_Record_row.at_) 1 [] (re id m_Record_row)) (K_okk_m_Book_init_1 : Okk P w K mg base (BB K ns) 1 (He.fAd K d_m_Book_init.at_) 1 [] (re id m_Book_init)) (K_okk_m_Book_take_2 : Okk P w K mg base (BB K ns) 4 (He.fAd K d_m_Book_take.at_) 2 [] (re id m_Book_take)) : Okd P w K mg base (BB K ns) 5 (He.fAd K d_m_tell.at_) ["events"] m_tell := by
  obtain ⟨fd, F⟩ := c.def_ 6 (d := d_m_tell) rfl
  exact ⟨fd, fn_m_tell KX G c cc K_okk_m_Record_row_1 K_okk_m_Book_init_1 K_okk_m_Book_take_2 F, bd_m_tell F, F.kp⟩
theorem sc_m_Tariff_units : FnScope ["self", "span"] ["self", "span"] (defScope sD_m_Tariff_units) := ⟨rfl, rfl, rfl, by decide +kernel, rfl, by decide +kernel, by decide +kernel⟩
theorem fn_m_Tariff_units (KX : K.In h) (G : h.Ns mainGlobals mg) (c : He.SaysD fas fns K) (cc : ccs.says w K) {fd : FuncData} (F : FD K d_m_Tariff_units fd) : FnOk P w K mg base (L2.CX P w) 1 (He.fAd K d_m_Tariff_units.at_) fd ["self", "span"] (spM K (BB K ns) m_Tariff_units) := by
  refine def_ok (k := 0) (nN := 2) (nP := 2) F sc_m_Tariff_units _ rfl rfl fun cdv A outer s H E hr => ?_
  obtain ⟨tk, hp⟩ := tp_of (X := cxOf (L2.CX P w) P w K mg base ["self", "span"] "Tariff.units" (defScope sD_m_Tariff_units) (He.fAd K d_m_Tariff_units.at_) cdv A outer s H E) (E := E) rfl rfl rfl rfl
  exact (ss_one (ss_ret (se_fdiv (se_sub (se_add (se_var 1) (se_fld (fl_unit_9 (ns := ns) c) (se_var 0) rfl)) se_int) (se_fld (fl_unit_9 (ns := ns) c) (se_var 0) rfl))))
theorem bd_m_Tariff_units {fd : FuncData} (F : FD K d_m_Tariff_units fd) : Binds K fd ["self", "span"] [] := FunD.bindsN (ps := ["self", "span"]) F fun _ _ _ _ _ _ us hl => match us, hl with | [_, _], _ => rfl
theorem okk_m_Tariff_units_2 (KX : K.In h) (G : h.Ns mainGlobals mg) (c : He.SaysD fas fns K) (cc : ccs.says w K) : Okk P w K mg base (BB K ns) 1 (He.fAd K d_m_Tariff_units.at_) 2 [] (re id m_Tariff_units) := by
  obtain ⟨fd, F⟩ := c.def_ 7 (d := d_m_Tariff_units) rfl
  exact ⟨⟨fd, _, _, _, rfl, fn_m_Tariff_units KX G c cc F, (KB.plain (bd_m_Tariff_units F) rfl)⟩⟩
theorem sc_m_Tariff_cost : FnScope ["self", "span", "left", "total", "units", "price", "used"] ["self", "span"] (defScope sD_m_Tariff_cost) := ⟨rfl, rfl, rfl, by decide +kernel, rfl, by decide +kernel, by decide +kernel⟩
theorem fn_m_Tariff_cost (KX : K.In h) (G : h.Ns mainGlobals mg) (c : He.SaysD fas fns K) (cc : ccs.says w K) (K_okk_m_Tariff_units_2 : Okk P w K mg base (BB K ns) 1 (He.fAd K d_m_Tariff_units.at_) 2 [] (re id m_Tariff_units)) {fd : FuncData} (F : FD K d_m_Tariff_cost fd) : FnOk P w K mg base (L2.CX P w) 2 (He.fAd K d_m_Tariff_cost.at_) fd ["self", "span"] (spM K (BB K ns) m_Tariff_cost) := by
  refine def_ok (k := 1) (nN := 7) (nP := 2) F sc_m_Tariff_cost _ rfl rfl fun cdv A outer s H E hr => ?_
  obtain ⟨tk, hp⟩ := tp_of (X := cxOf (L2.CX P w) P w K mg base ["self", "span", "left", "total", "units", "price", "used"] "Tariff.cost" (defScope sD_m_Tariff_cost) (He.fAd K d_m_Tariff_cost.at_) cdv A outer s H E) (E := E) rfl rfl rfl rfl
  exact (ss_cons (ss_set (i := 2) sc_m_Tariff_cost.nd (se_meth (k := 1) (mt_free (show ("units" : Str) ∉ an by decide +kernel) (mt_cons (m := re id m_Tariff_units) rfl (He.cls_ok (c.fact 13 (f := .cls "Tariff") rfl)) (He.meth_ok (c.fact 19 (f := .meth "Tariff" "units") rfl)) K_okk_m_Tariff_units_2 (by decide) mt_nil)) hr tk (se_var 0) (sa_cons (se_var 1) sa_nil) (al_cons al_nil)))
    (ss_cons (ss_set (i := 3) sc_m_Tariff_cost.nd se_int)
    (ss_cons (ss_for hp rfl (se_fld (fl_bands_9 (ns := ns) c) (se_var 0) rfl) [5, 4] (sg_tup rfl (sgs_cons (sg_name sc_m_Tariff_cost.nd) (sgs_cons (sg_name sc_m_Tariff_cost.nd) sgs_nil)))
    (ss_cons (ss_set (i := 6) sc_m_Tariff_cost.nd (se_callB (call_min2 rfl) v_min rfl (He.free_ok KX G (c.fact 20 (f := .free "min") rfl)) (by decide +kernel) (sa_cons (se_var 4) (sa_cons (se_var 2) sa_nil))))
    (ss_cons (ss_aug (i := 3) sc_m_Tariff_cost.nd (se_mul (se_var 6) (se_var 5)) in_add vin_add nox_add)
    (ss_one (ss_aug (i := 2) sc_m_Tariff_cost.nd (se_var 6) in_sub vin_sub nox_sub)))))
    (ss_one (ss_ret (se_add (se_var 3) (se_mul (se_var 2) (se_fld (fl_last_9 (ns := ns) c) (se_var 0) rfl))))))))
theorem bd_m_Tariff_cost {fd : FuncData} (F : FD K d_m_Tariff_cost fd) : Binds K fd ["self", "span"] [] := FunD.bindsN (ps := ["self", "span"]) F fun _ _ _ _ _ _ us hl => match us, hl with | [_, _], _ => rfl
theorem okk_m_Tariff_cost_2 (KX : K.In h) (G : h.Ns mainGlobals mg) (c : He.SaysD fas fns K) (cc : ccs.says w K) (K_okk_m_Tariff_units_2 : Okk P w K mg base (BB K ns) 1 (He.fAd K d_m_Tariff_units.at_) 2 [] (re id m_Tariff_units)) : Okk P w K mg base (BB K ns) 2 (He.fAd K d_m_Tariff_cost.at_) 2 [] (re id m_Tariff_cost) := by
  obtain ⟨fd, F⟩ := c.def_ 8 (d := d_m_Tariff_cost) rfl
  exact ⟨⟨fd, _, _, _, rfl, fn_m_Tariff_cost KX G c cc K_okk_m_Tariff_units_2 F, (KB.plain (bd_m_Tariff_cost F) rfl)⟩⟩
theorem sc_m_judge : FnScope ["events", "tariff", "bills", "pending", "calls", "wrong", "found", "k", "rows", "bill", "call", "number", "answered", "ended"] ["events", "tariff", "bills", "pending"] (defScope sD_m_judge) := ⟨rfl, rfl, rfl, by decide +kernel, rfl, by decide +kernel, by decide +kernel⟩
theorem fn_m_judge (KX : K.In h) (G : h.Ns mainGlobals mg) (c : He.SaysD fas fns K) (cc : ccs.says w K) (F_m_tell : Okd P w K mg base (BB K ns) 5 (He.fAd K d_m_tell.at_) ["events"] m_tell) (K_okk_m_Tariff_cost_2 : Okk P w K mg base (BB K ns) 2 (He.fAd K d_m_Tariff_cost.at_) 2 [] (re id m_Tariff_cost)) {fd : FuncData} (F : FD K d_m_judge fd) : FnOk P w K mg base (L2.CX P w) 6 (He.fAd K d_m_judge.at_) fd ["events", "tariff", "bills", "pending"] (spM K (BB K ns) m_judge) := by
  refine def_ok (k := 5) (nN := 14) (nP := 4) F sc_m_judge _ rfl rfl fun cdv A outer s H E hr => ?_
  obtain ⟨tk, hp⟩ := tp_of (X := cxOf (L2.CX P w) P w K mg base ["events", "tariff", "bills", "pending", "calls", "wrong", "found", "k", "rows", "bill", "call", "number", "answered", "ended"] "judge" (defScope sD_m_judge) (He.fAd K d_m_judge.at_) cdv A outer s H E) (E := E) rfl rfl rfl rfl
  exact (ss_cons (ss_asg [5, 4] (se_cd F_m_tell (hr.mono (by decide)) rfl (He.glo_ok KX G (c.fact 12 (f := .glo "tell") rfl)) tk (sa_cons (se_var 0) sa_nil)) (sg_tup rfl (sgs_cons (sg_name sc_m_judge.nd) (sgs_cons (sg_name sc_m_judge.nd) sgs_nil))))
    (ss_cons (ss_setComp (own := [("k", 7)]) (i := 6) rfl sc_m_judge.nd rfl (sw_true rfl rfl rfl (by decide +kernel)) (se_var 5) (blkOk_by (own := [("k", 7)]) (N := ["events", "tariff", "bills", "pending", "calls", "wrong", "found", "k", "rows", "bill", "call", "number", "answered", "ended"]) (sc := defScope sD_m_judge) (by decide +kernel)) (fun _ _ _ _ _ => (sg_name sc_m_judge.nd)) (fun _ _ _ _ _ => sts_nil) (fun _ _ _ _ _ => (se_tup (sa_cons (se_str [101, 118, 101, 110, 116]) (sa_cons (se_var 7) sa_nil)))))
    (ss_cons (ss_set (i := 8) sc_m_judge.nd se_newK)
    (ss_cons (ss_for hp rfl (se_var 2) [9] (sg_name sc_m_judge.nd)
    (ss_cons (ss_if (st_din hr (se_ix (se_var 9) se_int) (se_var 8)) (ss_one (ss_expr (se_bm PySem.F.plainAttrs_list PySem.F.slot_list_append PySem.F.type_list_append mt_append (.inr (.inl ⟨rfl, rfl⟩)) v_append (se_var 6) (sa_cons (se_tup (sa_cons (se_str [116, 119, 105, 99, 101]) (sa_cons (se_ix (se_var 9) se_int) sa_nil))) sa_nil))))
    ss_nil)
    (ss_one (ss_dput hr (se_var 9) (se_var 8) (se_ix (se_var 9) se_int)))))
    (ss_cons (ss_for hp rfl (se_var 4) [10] (sg_name sc_m_judge.nd)
    (ss_cons (ss_par3 (i := 11) (j := 12) (l := 13) sc_m_judge.nd rfl (sa_cons (se_ix (se_var 10) se_int) (sa_cons (se_ix (se_var 10) se_int) (sa_cons (se_ix (se_var 10) se_int) sa_nil))))
    (ss_one (ss_if (st_w (sw_or (st_isN (se_var 12)) (sw_or1 (st_isN (se_var 13))))) (ss_cons (ss_if (st_din hr (se_var 11) (se_var 8)) (ss_one (ss_expr (se_bm PySem.F.plainAttrs_list PySem.F.slot_list_append PySem.F.type_list_append mt_append (.inr (.inl ⟨rfl, rfl⟩)) v_append (se_var 6) (sa_cons (se_tup (sa_cons (se_str [98, 105, 108, 108]) (sa_cons (se_var 11) sa_nil))) sa_nil))))
    ss_nil)
    (ss_one (ss_if (st_ne hr (se_notN (se_var 12)) (se_in (se_var 11) (se_var 3))) (ss_one (ss_expr (se_bm PySem.F.plainAttrs_list PySem.F.slot_list_append PySem.F.type_list_append mt_append (.inr (.inl ⟨rfl, rfl⟩)) v_append (se_var 6) (sa_cons (se_tup (sa_cons (se_str [112, 101, 110, 100, 105, 110, 103]) (sa_cons (se_var 11) sa_nil))) sa_nil))))
    ss_nil)))
    (ss_one (ss_if (st_dnin hr (se_var 11) (se_var 8)) (ss_one (ss_expr (se_bm PySem.F.plainAttrs_list PySem.F.slot_list_append PySem.F.type_list_append mt_append (.inr (.inl ⟨rfl, rfl⟩)) v_append (se_var 6) (sa_cons (se_tup (sa_cons (se_str [110, 111, 110, 101]) (sa_cons (se_var 11) sa_nil))) sa_nil))))
    (ss_one (ss_if (st_w (sw_or (st_ne hr (se_slice (se_dget hr (se_var 8) (se_var 11)) (so_some se_int) so_none) (se_tup (sa_cons (se_var 12) (sa_cons (se_var 13) (sa_cons (se_meth (k := 5) (mt_fld rfl an_nd (mt_cons (m := re id m_Tariff_cost) rfl (He.cls_ok (c.fact 13 (f := .cls "Tariff") rfl)) (He.meth_ok (c.fact 14 (f := .meth "Tariff" "cost") rfl)) K_okk_m_Tariff_cost_2 (by decide) mt_nil)) hr tk (se_var 1) (sa_cons (se_sub (se_var 13) (se_var 12)) sa_nil) (al_cons al_nil)) sa_nil))))) (sw_or1 (st_ne hr (se_slice (se_dget hr (se_var 8) (se_var 11)) (so_some se_int) (so_some se_int)) (se_slice (se_var 10) (so_some se_int) (so_some se_int)))))) (ss_one (ss_expr (se_bm PySem.F.plainAttrs_list PySem.F.slot_list_append PySem.F.type_list_append mt_append (.inr (.inl ⟨rfl, rfl⟩)) v_append (se_var 6) (sa_cons (se_tup (sa_cons (se_str [98, 105, 108, 108]) (sa_cons (se_var 11) sa_nil))) sa_nil))))
    ss_nil))))))))
    (ss_one (ss_ret (se_var 6))))))))
theorem bd_m_judge {fd : FuncData} (F : FD K d_m_judge fd) : Binds K fd ["events", "tariff", "bills", "pending"] [] := FunD.bindsN (ps := ["events", "tariff", "bills", "pending"]) F fun _ _ _ _ _ _ us hl => match us, hl with | [_, _, _, _], _ => rfl
theorem ok_m_judge (KX : K.In h) (G : h.Ns mainGlobals mg) (c : He.SaysD fas fns K) (cc : ccs.says w K) (F_m_tell : Okd P w K mg base (BB K ns) 5 (He.fAd K d_m_tell.at_) ["events"] m_tell) (K_okk_m_Tariff_cost_2 : Okk P w K mg base (BB K ns) 2 (He.fAd K d_m_Tariff_cost.at_) 2 [] (re id m_Tariff_cost)) : Okd P w K mg base (BB K ns) 6 (He.fAd K d_m_judge.at_) ["events", "tariff", "bills", "pending"] m_judge := by
  obtain ⟨fd, F⟩ := c.def_ 9 (d := d_m_judge) rfl
  exact ⟨fd, fn_m_judge KX G c cc F_m_tell K_okk_m_Tariff_cost_2 F, bd_m_judge F, F.kp⟩
theorem sc_m_Tariff_init : FnScope ["self", "unit", "bands", "last", "units", "price"] ["self", "unit", "bands", "last"] (defScope sD_m_Tariff_init) := ⟨rfl, rfl, rfl, by decide +kernel, rfl, by decide +kernel, by decide +kernel⟩
theorem fn_m_Tariff_init (KX : K.In h) (G : h.Ns mainGlobals mg) (c : He.SaysD fas fns K) (cc : ccs.says w K) (X_ConfigError : Okx P w K mg base 1 (He.ga K "ConfigError") (He.fAd K d_m_ConfigError_init.at_) ["self", "setting"] "setting") {fd : FuncData} (F : FD K d_m_Tariff_init fd) : FnOk P w K mg base (L2.CX P w) 3 (He.fAd K d_m_Tariff_init.at_) fd ["self", "unit", "bands", "last"] (spM K (BB K ns) m_Tariff_init) := by
  refine def_ok (k := 2) (nN := 6) (nP := 4) F sc_m_Tariff_init _ rfl rfl fun cdv A outer s H E hr => ?_
  obtain ⟨tk, hp⟩ := tp_of (X := cxOf (L2.CX P w) P w K mg base ["self", "unit", "bands", "last", "units", "price"] "Tariff.__init__" (defScope sD_m_Tariff_init) (He.fAd K d_m_Tariff_init.at_) cdv A outer s H E) (E := E) rfl rfl rfl rfl
  exact (ss_cons (ss_if (st_not (st_chain op_le op_le v_le v_le se_int (se_var 1) (se_gint rfl (He.int_ok KX G (c.fact 15 (f := .int "MOST_VALUE" (10000)) rfl))))) (ss_one (ss_raiseX X_ConfigError (Cs2.xf cc 0 (f := fun K => xraB K (He.ga K "ConfigError") (He.fAd K d_m_ConfigError_init.at_) "setting") rfl) rfl rfl (hr.mono (by decide)) rfl tk rfl (He.glo_ok KX G (c.fact 16 (f := .glo "ConfigError") rfl)) (se_str [117, 110, 105, 116])))
    ss_nil)
    (ss_cons (ss_if (st_gt (se_callB call_len v_len rfl (He.free_ok KX G (c.fact 0 (f := .free "len") rfl)) (by decide +kernel) (sa_cons (se_var 2) sa_nil)) (se_gint rfl (He.int_ok KX G (c.fact 17 (f := .int "MOST_BANDS" (8)) rfl)))) (ss_one (ss_raiseX X_ConfigError (Cs2.xf cc 0 (f := fun K => xraB K (He.ga K "ConfigError") (He.fAd K d_m_ConfigError_init.at_) "setting") rfl) rfl rfl (hr.mono (by decide)) rfl tk rfl (He.glo_ok KX G (c.fact 16 (f := .glo "ConfigError") rfl)) (se_str [98, 97, 110, 100, 115])))
    ss_nil)
    (ss_cons (ss_for hp rfl (se_var 2) [5, 4] (sg_tup rfl (sgs_cons (sg_name sc_m_Tariff_init.nd) (sgs_cons (sg_name sc_m_Tariff_init.nd) sgs_nil)))
    (ss_one (ss_if (st_w (sw_or (st_not (st_chain op_le op_le v_le v_le se_int (se_var 4) (se_gint rfl (He.int_ok KX G (c.fact 15 (f := .int "MOST_VALUE" (10000)) rfl))))) (sw_or1 (st_not (st_chain op_le op_le v_le v_le se_int (se_var 5) (se_gint rfl (He.int_ok KX G (c.fact 15 (f := .int "MOST_VALUE" (10000)) rfl)))))))) (ss_one (ss_raiseX X_ConfigError (Cs2.xf cc 0 (f := fun K => xraB K (He.ga K "ConfigError") (He.fAd K d_m_ConfigError_init.at_) "setting") rfl) rfl rfl (hr.mono (by decide)) rfl tk rfl (He.glo_ok KX G (c.fact 16 (f := .glo "ConfigError") rfl)) (se_str [98, 97, 110, 100, 115])))
    ss_nil)))
    (ss_cons (ss_if (st_not (st_chain op_le op_le v_le v_le se_int (se_var 3) (se_gint rfl (He.int_ok KX G (c.fact 15 (f := .int "MOST_VALUE" (10000)) rfl))))) (ss_one (ss_raiseX X_ConfigError (Cs2.xf cc 0 (f := fun K => xraB K (He.ga K "ConfigError") (He.fAd K d_m_ConfigError_init.at_) "setting") rfl) rfl rfl (hr.mono (by decide)) rfl tk rfl (He.glo_ok KX G (c.fact 16 (f := .glo "ConfigError") rfl)) (se_str [108, 97, 115, 116])))
    ss_nil)
    (ss_cons (ss_fld (fl_unit_9 (ns := ns) c) (se_var 0) (se_var 1))
    (ss_cons (ss_fld (fl_bands_9 (ns := ns) c) (se_var 0) (se_callT call_list_of v_list rfl (He.free_ok KX G (c.fact 18 (f := .free "list") rfl)) (by decide +kernel) (sa_cons (se_var 2) sa_nil)))
    (ss_one (ss_fld (fl_last_9 (ns := ns) c) (se_var 0) (se_var 3)))))))))
theorem bd_m_Tariff_init {fd : FuncData} (F : FD K d_m_Tariff_init fd) : Binds K fd ["self", "unit", "bands", "last"] [] := FunD.bindsN (ps := ["self", "unit", "bands", "last"]) F fun _ _ _ _ _ _ us hl => match us, hl with | [_, _, _, _], _ => rfl
theorem okk_m_Tariff_init_4 (KX : K.In h) (G : h.Ns mainGlobals mg) (c : He.SaysD fas fns K) (cc : ccs.says w K) (X_ConfigError : Okx P w K mg base 1 (He.ga K "ConfigError") (He.fAd K d_m_ConfigError_init.at_) ["self", "setting"] "setting") : Okk P w K mg base (BB K ns) 3 (He.fAd K d_m_Tariff_init.at_) 4 [] (re id m_Tariff_init) := by
  obtain ⟨fd, F⟩ := c.def_ 10 (d := d_m_Tariff_init) rfl
  exact ⟨⟨fd, _, _, _, rfl, fn_m_Tariff_init KX G c cc X_ConfigError F, (KB.plain (bd_m_Tariff_init F) rfl)⟩⟩
theorem sc_m_law_state : FnScope ["_law_script", "_law_seed", "_law_cell"] ["_law_script"] (defScope sD_m_law_state) := ⟨rfl, rfl, rfl, by decide +kernel, rfl, by decide +kernel, by decide +kernel⟩
theorem fn_m_law_state (KX : K.In h) (G : h.Ns mainGlobals mg) (c : He.SaysD fas fns K) (cc : ccs.says w K) {fd : FuncData} (F : FD K d_m_law_state fd) : FnOk P w K mg base (L2.CX P w) 1 (He.fAd K d_m_law_state.at_) fd ["_law_script"] (spM K (BB K ns) m_law_state) := by
  refine def_ok (k := 0) (nN := 3) (nP := 1) F sc_m_law_state _ rfl rfl fun cdv A outer s H E hr => ?_
  obtain ⟨tk, hp⟩ := tp_of (X := cxOf (L2.CX P w) P w K mg base ["_law_script", "_law_seed", "_law_cell"] "_law_state" (defScope sD_m_law_state) (He.fAd K d_m_law_state.at_) cdv A outer s H E) (E := E) rfl rfl rfl rfl
  exact (ss_cons (ss_set (i := 1) sc_m_law_state.nd se_int)
    (ss_cons (ss_for hp rfl (se_var 0) [2] (sg_name sc_m_law_state.nd)
    (ss_one (ss_set (i := 1) sc_m_law_state.nd (se_mod (se_callT call_intAny v_int rfl (He.free_ok KX G (c.fact 21 (f := .free "int") rfl)) (by decide +kernel) (sa_cons (se_add (se_mul (se_var 1) se_int) (se_var 2)) sa_nil)) se_int))))
    (ss_one (ss_ret (se_lst (sa_cons (se_comp (own := [("_law_cell", 2)]) rfl sc_m_law_state.nd (se_var 0) (blkOk_by (own := [("_law_cell", 2)]) (N := ["_law_script", "_law_seed", "_law_cell"]) (sc := defScope sD_m_law_state) (by decide +kernel)) (fun _ _ _ _ _ => (sg_name sc_m_law_state.nd)) (fun _ _ _ _ _ => sts_nil) (fun _ _ _ _ _ => (se_callB call_abs v_abs rfl (He.free_ok KX G (c.fact 22 (f := .free "abs") rfl)) (by decide +kernel) (sa_cons (se_var 2) sa_nil)))) (sa_cons (se_add (se_var 1) se_int) sa_nil)))))))
theorem bd_m_law_state {fd : FuncData} (F : FD K d_m_law_state fd) : Binds K fd ["_law_script"] [] := FunD.bindsN (ps := ["_law_script"]) F fun _ _ _ _ _ _ us hl => match us, hl with | [_], _ => rfl
theorem ok_m_law_state (KX : K.In h) (G : h.Ns mainGlobals mg) (c : He.SaysD fas fns K) (cc : ccs.says w K) : Okd P w K mg base (BB K ns) 1 (He.fAd K d_m_law_state.at_) ["_law_script"] m_law_state := by
  obtain ⟨fd, F⟩ := c.def_ 11 (d := d_m_law_state) rfl
  exact ⟨fd, fn_m_law_state KX G c cc F, bd_m_law_state F, F.kp⟩
theorem sc_m_law_draw : FnScope ["_law_state_here", "_law_many", "_law_cells", "_law_value", "_law_mixed"] ["_law_state_here", "_law_many"] (defScope sD_m_law_draw) := ⟨rfl, rfl, rfl, by decide +kernel, rfl, by decide +kernel, by decide +kernel⟩
theorem fn_m_law_draw (KX : K.In h) (G : h.Ns mainGlobals mg) (c : He.SaysD fas fns K) (cc : ccs.says w K) {fd : FuncData} (F : FD K d_m_law_draw fd) : FnOk P w K mg base (L2.CX P w) 1 (He.fAd K d_m_law_draw.at_) fd ["_law_state_here", "_law_many"] (spM K (BB K ns) m_law_draw) := by
  refine def_ok (k := 0) (nN := 5) (nP := 2) F sc_m_law_draw _ rfl rfl fun cdv A outer s H E hr => ?_
  obtain ⟨tk, hp⟩ := tp_of (X := cxOf (L2.CX P w) P w K mg base ["_law_state_here", "_law_many", "_law_cells", "_law_value", "_law_mixed"] "_law_draw" (defScope sD_m_law_draw) (He.fAd K d_m_law_draw.at_) cdv A outer s H E) (E := E) rfl rfl rfl rfl
  exact (ss_cons (ss_set (i := 2) sc_m_law_draw.nd (se_ix (se_var 0) se_int))
    (ss_cons (ss_while 1000 hp (st_w (sw_and (st_gt (se_callB call_len v_len rfl (He.free_ok KX G (c.fact 0 (f := .free "len") rfl)) (by decide +kernel) (sa_cons (se_var 2) sa_nil)) se_int) (sw_and1 (st_eq hr (se_ix (se_var 2) se_int) se_int)))) (ss_one (ss_expr (se_bm PySem.F.plainAttrs_list PySem.F.slot_list_pop PySem.F.type_list_pop mt_popAt (.inr (.inl ⟨rfl, rfl⟩)) v_popAt (se_var 2) (sa_cons se_int sa_nil)))))
    (ss_cons (ss_if (st_gt (se_callB call_len v_len rfl (He.free_ok KX G (c.fact 0 (f := .free "len") rfl)) (by decide +kernel) (sa_cons (se_var 2) sa_nil)) se_int) (ss_cons (ss_set (i := 3) sc_m_law_draw.nd (se_ix (se_var 2) se_int))
    (ss_cons (ss_setIx (se_fdiv (se_var 3) (se_var 1)) (se_var 2) se_int)
    (ss_one (ss_ret (se_mod (se_callT call_intAny v_int rfl (He.free_ok KX G (c.fact 21 (f := .free "int") rfl)) (by decide +kernel) (sa_cons (se_var 3) sa_nil)) (se_var 1))))))
    ss_nil)
    (ss_cons (ss_set (i := 4) sc_m_law_draw.nd (se_mod (se_callT call_intAny v_int rfl (He.free_ok KX G (c.fact 21 (f := .free "int") rfl)) (by decide +kernel) (sa_cons (se_add (se_mul (se_ix (se_var 0) se_int) se_int) se_int) sa_nil)) se_int))
    (ss_cons (ss_setIx (se_var 4) (se_var 0) se_int)
    (ss_one (ss_ret (se_mod (se_callT call_intAny v_int rfl (He.free_ok KX G (c.fact 21 (f := .free "int") rfl)) (by decide +kernel) (sa_cons (se_fdiv (se_var 4) se_int) sa_nil)) (se_var 1)))))))))
theorem bd_m_law_draw {fd : FuncData} (F : FD K d_m_law_draw fd) : Binds K fd ["_law_state_here", "_law_many"] [] := FunD.bindsN (ps := ["_law_state_here", "_law_many"]) F fun _ _ _ _ _ _ us hl => match us, hl with | [_, _], _ => rfl
theorem ok_m_law_draw (KX : K.In h) (G : h.Ns mainGlobals mg) (c : He.SaysD fas fns K) (cc : ccs.says w K) : Okd P w K mg base (BB K ns) 1 (He.fAd K d_m_law_draw.at_) ["_law_state_here", "_law_many"] m_law_draw := by
  obtain ⟨fd, F⟩ := c.def_ 12 (d := d_m_law_draw) rfl
  exact ⟨fd, fn_m_law_draw KX G c cc F, bd_m_law_draw F, F.kp⟩
theorem sc_m_law_pick : FnScope ["_law_state_here", "_law_row"] ["_law_state_here", "_law_row"] (defScope sD_m_law_pick) := ⟨rfl, rfl, rfl, by decide +kernel, rfl, by decide +kernel, by decide +kernel⟩
theorem fn_m_law_pick (KX : K.In h) (G : h.Ns mainGlobals mg) (c : He.SaysD fas fns K) (cc : ccs.says w K) (F_m_law_draw : Okd P w K mg base (BB K ns) 1 (He.fAd K d_m_law_draw.at_) ["_law_state_here", "_law_many"] m_law_draw) {fd : FuncData} (F : FD K d_m_law_pick fd) : FnOk P w K mg base (L2.CX P w) 2 (He.fAd K d_m_law_pick.at_) fd ["_law_state_here", "_law_row"] (spM K (BB K ns) m_law_pick) := by
  refine def_ok (k := 1) (nN := 2) (nP := 2) F sc_m_law_pick _ rfl rfl fun cdv A outer s H E hr => ?_
  obtain ⟨tk, hp⟩ := tp_of (X := cxOf (L2.CX P w) P w K mg base ["_law_state_here", "_law_row"] "_law_pick" (defScope sD_m_law_pick) (He.fAd K d_m_law_pick.at_) cdv A outer s H E) (E := E) rfl rfl rfl rfl
  exact (ss_one (ss_ret (se_ix (se_var 1) (se_cd F_m_law_draw (hr.mono (by decide)) rfl (He.glo_ok KX G (c.fact 23 (f := .glo "_law_draw") rfl)) tk (sa_cons (se_var 0) (sa_cons (se_callB call_len v_len rfl (He.free_ok KX G (c.fact 0 (f := .free "len") rfl)) (by decide +kernel) (sa_cons (se_var 1) sa_nil)) sa_nil))))))
theorem bd_m_law_pick {fd : FuncData} (F : FD K d_m_law_pick fd) : Binds K fd ["_law_state_here", "_law_row"] [] := FunD.bindsN (ps := ["_law_state_here", "_law_row"]) F fun _ _ _ _ _ _ us hl => match us, hl with | [_, _], _ => rfl
theorem ok_m_law_pick (KX : K.In h) (G : h.Ns mainGlobals mg) (c : He.SaysD fas fns K) (cc : ccs.says w K) (F_m_law_draw : Okd P w K mg base (BB K ns) 1 (He.fAd K d_m_law_draw.at_) ["_law_state_here", "_law_many"] m_law_draw) : Okd P w K mg base (BB K ns) 2 (He.fAd K d_m_law_pick.at_) ["_law_state_here", "_law_row"] m_law_pick := by
  obtain ⟨fd, F⟩ := c.def_ 13 (d := d_m_law_pick) rfl
  exact ⟨fd, fn_m_law_pick KX G c cc F_m_law_draw F, bd_m_law_pick F, F.kp⟩
theorem sc_m_law_event : FnScope ["_law_state_here", "_law_now", "_law_numbers", "_law_number", "_law_kind", "_law_next_one", "_law_side"] ["_law_state_here", "_law_now", "_law_numbers"] (defScope sD_m_law_event) := ⟨rfl, rfl, rfl, by decide +kernel, rfl, by decide +kernel, by decide +kernel⟩
theorem fn_m_law_event (KX : K.In h) (G : h.Ns mainGlobals mg) (c : He.SaysD fas fns K) (cc : ccs.says w K) (F_m_law_draw : Okd P w K mg base (BB K ns) 1 (He.fAd K d_m_law_draw.at_) ["_law_state_here", "_law_many"] m_law_draw) (F_m_law_pick : Okd P w K mg base (BB K ns) 2 (He.fAd K d_m_law_pick.at_) ["_law_state_here", "_law_row"] m_law_pick) {fd : FuncData} (F : FD K d_m_law_event fd) : FnOk P w K mg base (L2.CX P w) 3 (He.fAd K d_m_law_event.at_) fd ["_law_state_here", "_law_now", "_law_numbers"] (spM K (BB K ns) m_law_event) := by
  refine def_ok (k := 2) (nN := 7) (nP := 3) F sc_m_law_event _ rfl rfl fun cdv A outer s H E hr => ?_
  obtain ⟨tk, hp⟩ := tp_of (X := cxOf (L2.CX P w) P w K mg base ["_law_state_here", "_law_now", "_law_numbers", "_law_number", "_law_kind", "_law_next_one", "_law_side"] "_law_event" (defScope sD_m_law_event) (He.fAd K d_m_law_event.at_) cdv A outer s H E) (E := E) rfl rfl rfl rfl
  exact (ss_cons (ss_set (i := 3) sc_m_law_event.nd (se_cd F_m_law_pick (hr.mono (by decide)) rfl (He.glo_ok KX G (c.fact 24 (f := .glo "_law_pick") rfl)) tk (sa_cons (se_var 0) (sa_cons (se_lst (sa_cons (se_ix (se_var 2) se_int) (sa_cons (se_ix (se_var 2) se_int) (sa_cons (se_cd F_m_law_draw (hr.mono (by decide)) rfl (He.glo_ok KX G (c.fact 23 (f := .glo "_law_draw") rfl)) tk (sa_cons (se_var 0) (sa_cons (se_add (se_ix (se_var 2) se_int) se_int) sa_nil))) sa_nil)))) sa_nil))))
    (ss_cons (ss_set (i := 4) sc_m_law_event.nd (se_cd F_m_law_draw (hr.mono (by decide)) rfl (He.glo_ok KX G (c.fact 23 (f := .glo "_law_draw") rfl)) tk (sa_cons (se_var 0) (sa_cons se_int sa_nil))))
    (ss_cons (ss_if (st_lt (se_var 4) se_int) (ss_cons (ss_set (i := 5) sc_m_law_event.nd (se_cd F_m_law_pick (hr.mono (by decide)) rfl (He.glo_ok KX G (c.fact 24 (f := .glo "_law_pick") rfl)) tk (sa_cons (se_var 0) (sa_cons (se_lst (sa_cons (se_add (se_ix (se_var 2) se_int) se_int) (sa_cons (se_add (se_ix (se_var 2) se_int) se_int) (sa_cons (se_add (se_ix (se_var 2) se_int) se_int) (sa_cons (se_var 3) sa_nil))))) sa_nil))))
    (ss_one (ss_ret (se_tup (sa_cons (se_str [98, 101, 103, 105, 110]) (sa_cons (se_var 1) (sa_cons (se_var 5) (sa_cons (se_str [97, 110, 110, 64, 120]) (sa_cons (se_cd F_m_law_pick (hr.mono (by decide)) rfl (He.glo_ok KX G (c.fact 24 (f := .glo "_law_pick") rfl)) tk (sa_cons (se_var 0) (sa_cons (se_lst (sa_cons (se_str [98, 111, 98, 64, 120]) (sa_cons (se_str [101, 118, 101, 64, 120]) sa_nil))) sa_nil))) sa_nil)))))))))
    ss_nil)
    (ss_cons (ss_if (st_lt (se_var 4) se_int) (ss_one (ss_ret (se_tup (sa_cons (se_str [114, 105, 110, 103]) (sa_cons (se_var 1) (sa_cons (se_var 3) sa_nil))))))
    ss_nil)
    (ss_cons (ss_if (st_lt (se_var 4) se_int) (ss_one (ss_ret (se_tup (sa_cons (se_str [97, 110, 115, 119, 101, 114]) (sa_cons (se_var 1) (sa_cons (se_var 3) (sa_cons (se_cd F_m_law_pick (hr.mono (by decide)) rfl (He.glo_ok KX G (c.fact 24 (f := .glo "_law_pick") rfl)) tk (sa_cons (se_var 0) (sa_cons (se_lst (sa_cons (se_str [112]) (sa_cons (se_str [113]) sa_nil))) sa_nil))) sa_nil)))))))
    ss_nil)
    (ss_cons (ss_set (i := 6) sc_m_law_event.nd (se_cd F_m_law_pick (hr.mono (by decide)) rfl (He.glo_ok KX G (c.fact 24 (f := .glo "_law_pick") rfl)) tk (sa_cons (se_var 0) (sa_cons (se_lst (sa_cons se_int (sa_cons se_int (sa_cons se_int (sa_cons se_int (sa_cons se_int sa_nil)))))) sa_nil))))
    (ss_cons (ss_if (st_eq hr (se_var 4) se_int) (ss_one (ss_ret (se_tup (sa_cons (se_str [116, 117, 114, 110]) (sa_cons (se_var 1) (sa_cons (se_var 3) (sa_cons (se_var 6) (sa_cons (se_cd F_m_law_pick (hr.mono (by decide)) rfl (He.glo_ok KX G (c.fact 24 (f := .glo "_law_pick") rfl)) tk (sa_cons (se_var 0) (sa_cons (se_lst (sa_cons (se_str [98, 111, 116, 104]) (sa_cons (se_str [115, 101, 110, 100]) (sa_cons (se_str [110, 111, 110, 101]) sa_nil)))) sa_nil))) sa_nil))))))))
    ss_nil)
    (ss_cons (ss_if (st_eq hr (se_var 4) se_int) (ss_one (ss_ret (se_tup (sa_cons (se_str [109, 111, 118, 101]) (sa_cons (se_var 1) (sa_cons (se_var 3) (sa_cons (se_var 6) (sa_cons (se_str [106, 111, 101, 64, 120]) sa_nil))))))))
    ss_nil)
    (ss_cons (ss_if (st_eq hr (se_var 4) se_int) (ss_one (ss_ret (se_tup (sa_cons (se_str [109, 111, 118, 101, 100]) (sa_cons (se_var 1) (sa_cons (se_var 3) (sa_cons (se_var 6) sa_nil)))))))
    ss_nil)
    (ss_one (ss_ret (se_tup (sa_cons (se_str [101, 110, 100]) (sa_cons (se_var 1) (sa_cons (se_var 3) (sa_cons (se_cd F_m_law_pick (hr.mono (by decide)) rfl (He.glo_ok KX G (c.fact 24 (f := .glo "_law_pick") rfl)) tk (sa_cons (se_var 0) (sa_cons (se_lst (sa_cons (se_str [99, 97, 108, 108, 101, 114]) (sa_cons (se_str [108, 111, 115, 116]) (sa_cons (se_str [114, 101, 102, 117, 115, 101, 100]) sa_nil)))) sa_nil))) sa_nil))))))))))))))))
theorem bd_m_law_event {fd : FuncData} (F : FD K d_m_law_event fd) : Binds K fd ["_law_state_here", "_law_now", "_law_numbers"] [] := FunD.bindsN (ps := ["_law_state_here", "_law_now", "_law_numbers"]) F fun _ _ _ _ _ _ us hl => match us, hl with | [_, _, _], _ => rfl
theorem ok_m_law_event (KX : K.In h) (G : h.Ns mainGlobals mg) (c : He.SaysD fas fns K) (cc : ccs.says w K) (F_m_law_draw : Okd P w K mg base (BB K ns) 1 (He.fAd K d_m_law_draw.at_) ["_law_state_here", "_law_many"] m_law_draw) (F_m_law_pick : Okd P w K mg base (BB K ns) 2 (He.fAd K d_m_law_pick.at_) ["_law_state_here", "_law_row"] m_law_pick) : Okd P w K mg base (BB K ns) 3 (He.fAd K d_m_law_event.at_) ["_law_state_here", "_law_now", "_law_numbers"] m_law_event := by
  obtain ⟨fd, F⟩ := c.def_ 14 (d := d_m_law_event) rfl
  exact ⟨fd, fn_m_law_event KX G c cc F_m_law_draw F_m_law_pick F, bd_m_law_event F, F.kp⟩
theorem sc_m_law_stands : FnScope ["_law_event_here", "_law_calls", "_law_now", "_law_call"] ["_law_event_here", "_law_calls", "_law_now"] (defScope sD_m_law_stands) := ⟨rfl, rfl, rfl, by decide +kernel, rfl, by decide +kernel, by decide +kernel⟩
theorem fn_m_law_stands (KX : K.In h) (G : h.Ns mainGlobals mg) (c : He.SaysD fas fns K) (cc : ccs.says w K) {fd : FuncData} (F : FD K d_m_law_stands fd) : FnOk P w K mg base (L2.CX P w) 1 (He.fAd K d_m_law_stands.at_) fd ["_law_event_here", "_law_calls", "_law_now"] (spM K (BB K ns) m_law_stands) := by
  refine def_ok (k := 0) (nN := 4) (nP := 3) F sc_m_law_stands _ rfl rfl fun cdv A outer s H E hr => ?_
  obtain ⟨tk, hp⟩ := tp_of (X := cxOf (L2.CX P w) P w K mg base ["_law_event_here", "_law_calls", "_law_now", "_law_call"] "_law_stands" (defScope sD_m_law_stands) (He.fAd K d_m_law_stands.at_) cdv A outer s H E) (E := E) rfl rfl rfl rfl
  exact (ss_cons (ss_if (st_lt (se_ix (se_var 0) se_int) (se_ix (se_var 2) se_int)) (ss_one (ss_ret se_bl))
    ss_nil)
    (ss_cons (ss_if (st_eq hr (se_ix (se_var 0) se_int) (se_str [98, 101, 103, 105, 110])) (ss_one (ss_ret (se_eq hr (se_ix (se_var 0) se_int) (se_add (se_callB call_len v_len rfl (He.free_ok KX G (c.fact 0 (f := .free "len") rfl)) (by decide +kernel) (sa_cons (se_var 1) sa_nil)) se_int))))
    ss_nil)
    (ss_cons (ss_if (st_not (st_chain op_le op_le v_le v_le se_int (se_ix (se_var 0) se_int) (se_callB call_len v_len rfl (He.free_ok KX G (c.fact 0 (f := .free "len") rfl)) (by decide +kernel) (sa_cons (se_var 1) sa_nil)))) (ss_one (ss_ret se_bl))
    ss_nil)
    (ss_cons (ss_set (i := 3) sc_m_law_stands.nd (se_ix (se_var 1) (se_sub (se_ix (se_var 0) se_int) se_int)))
    (ss_cons (ss_if (st_notN (se_ix (se_var 3) se_int)) (ss_one (ss_ret se_bl))
    ss_nil)
    (ss_cons (ss_if (st_eq hr (se_ix (se_var 0) se_int) (se_str [114, 105, 110, 103])) (ss_one (ss_ret (se_and (se_isN (se_ix (se_var 3) se_int)) (se_one (se_isN (se_ix (se_var 3) se_int))))))
    ss_nil)
    (ss_cons (ss_if (st_eq hr (se_ix (se_var 0) se_int) (se_str [97, 110, 115, 119, 101, 114])) (ss_one (ss_ret (se_isN (se_ix (se_var 3) se_int))))
    ss_nil)
    (ss_one (ss_ret (se_or (se_eq hr (se_ix (se_var 0) se_int) (se_str [101, 110, 100])) (se_one (se_and (se_notN (se_ix (se_var 3) se_int)) (se_one (se_in (se_ix (se_var 0) se_int) (se_lst (sa_cons se_int (sa_cons se_int sa_nil)))))))))))))))))
theorem bd_m_law_stands {fd : FuncData} (F : FD K d_m_law_stands fd) : Binds K fd ["_law_event_here", "_law_calls", "_law_now"] [] := FunD.bindsN (ps := ["_law_event_here", "_law_calls", "_law_now"]) F fun _ _ _ _ _ _ us hl => match us, hl with | [_, _, _], _ => rfl
theorem ok_m_law_stands (KX : K.In h) (G : h.Ns mainGlobals mg) (c : He.SaysD fas fns K) (cc : ccs.says w K) : Okd P w K mg base (BB K ns) 1 (He.fAd K d_m_law_stands.at_) ["_law_event_here", "_law_calls", "_law_now"] m_law_stands := by
  obtain ⟨fd, F⟩ := c.def_ 15 (d := d_m_law_stands) rfl
  exact ⟨fd, fn_m_law_stands KX G c cc F, bd_m_law_stands F, F.kp⟩
theorem sc_m_law_apply : FnScope ["_law_event_here", "_law_calls", "_law_now", "_law_call"] ["_law_event_here", "_law_calls", "_law_now"] (defScope sD_m_law_apply) := ⟨rfl, rfl, rfl, by decide +kernel, rfl, by decide +kernel, by decide +kernel⟩
theorem fn_m_law_apply (KX : K.In h) (G : h.Ns mainGlobals mg) (c : He.SaysD fas fns K) (cc : ccs.says w K) {fd : FuncData} (F : FD K d_m_law_apply fd) : FnOk P w K mg base (L2.CX P w) 1 (He.fAd K d_m_law_apply.at_) fd ["_law_event_here", "_law_calls", "_law_now"] (spM K (BB K ns) m_law_apply) := by
  refine def_ok (k := 0) (nN := 4) (nP := 3) F sc_m_law_apply _ rfl rfl fun cdv A outer s H E hr => ?_
  obtain ⟨tk, hp⟩ := tp_of (X := cxOf (L2.CX P w) P w K mg base ["_law_event_here", "_law_calls", "_law_now", "_law_call"] "_law_apply" (defScope sD_m_law_apply) (He.fAd K d_m_law_apply.at_) cdv A outer s H E) (E := E) rfl rfl rfl rfl
  exact (ss_cons (ss_setIx (se_ix (se_var 0) se_int) (se_var 2) se_int)
    (ss_cons (ss_if (st_eq hr (se_ix (se_var 0) se_int) (se_str [98, 101, 103, 105, 110])) (ss_cons (ss_expr (se_bm PySem.F.plainAttrs_list PySem.F.slot_list_append PySem.F.type_list_append mt_append (.inr (.inl ⟨rfl, rfl⟩)) v_append (se_var 1) (sa_cons (se_lst (sa_cons (se_ix (se_var 0) se_int) (sa_cons (se_ix (se_var 0) se_int) (sa_cons (se_ix (se_var 0) se_int) (sa_cons (se_ix (se_var 0) se_int) (sa_cons se_non (sa_cons se_non (sa_cons se_non (sa_cons se_non (sa_cons (se_str [98, 111, 116, 104]) (sa_cons (se_str [98, 111, 116, 104]) (sa_cons se_int sa_nil)))))))))))) sa_nil)))
    (ss_one ss_retN))
    ss_nil)
    (ss_cons (ss_set (i := 3) sc_m_law_apply.nd (se_ix (se_var 1) (se_sub (se_ix (se_var 0) se_int) se_int)))
    (ss_one (ss_if (st_eq hr (se_ix (se_var 0) se_int) (se_str [114, 105, 110, 103])) (ss_one (ss_setIx (se_ix (se_var 0) se_int) (se_var 3) se_int))
    (ss_one (ss_if (st_eq hr (se_ix (se_var 0) se_int) (se_str [97, 110, 115, 119, 101, 114])) (ss_one (ss_setIx (se_ix (se_var 0) se_int) (se_var 3) se_int))
    (ss_one (ss_if (st_eq hr (se_ix (se_var 0) se_int) (se_str [101, 110, 100])) (ss_cons (ss_setIx (se_ix (se_var 0) se_int) (se_var 3) se_int)
    (ss_one (ss_setIx (se_ix (se_var 0) se_int) (se_var 3) se_int)))
    (ss_one (ss_if (st_eq hr (se_ix (se_var 0) se_int) (se_str [116, 117, 114, 110])) (ss_one (ss_setIx (se_ix (se_var 0) se_int) (se_var 3) (se_add se_int (se_ix (se_var 0) se_int))))
    (ss_one (ss_if (st_eq hr (se_ix (se_var 0) se_int) (se_str [109, 111, 118, 101, 100])) (ss_cons (ss_setIx (se_str [98, 111, 116, 104]) (se_var 3) se_int)
    (ss_cons (ss_setIx (se_str [98, 111, 116, 104]) (se_var 3) se_int)
    (ss_one (ss_setIx (se_add (se_ix (se_var 3) se_int) se_int) (se_var 3) se_int))))
    ss_nil)))))))))))))
theorem bd_m_law_apply {fd : FuncData} (F : FD K d_m_law_apply fd) : Binds K fd ["_law_event_here", "_law_calls", "_law_now"] [] := FunD.bindsN (ps := ["_law_event_here", "_law_calls", "_law_now"]) F fun _ _ _ _ _ _ us hl => match us, hl with | [_, _, _], _ => rfl
theorem ok_m_law_apply (KX : K.In h) (G : h.Ns mainGlobals mg) (c : He.SaysD fas fns K) (cc : ccs.says w K) : Okd P w K mg base (BB K ns) 1 (He.fAd K d_m_law_apply.at_) ["_law_event_here", "_law_calls", "_law_now"] m_law_apply := by
  obtain ⟨fd, F⟩ := c.def_ 16 (d := d_m_law_apply) rfl
  exact ⟨fd, fn_m_law_apply KX G c cc F, bd_m_law_apply F, F.kp⟩
theorem sc_m_law_changed_bill : FnScope ["_law_state_here", "_law_bill", "_law_row", "_law_k"] ["_law_state_here", "_law_bill"] (defScope sD_m_law_changed_bill) := ⟨rfl, rfl, rfl, by decide +kernel, rfl, by decide +kernel, by decide +kernel⟩
theorem fn_m_law_changed_bill (KX : K.In h) (G : h.Ns mainGlobals mg) (c : He.SaysD fas fns K) (cc : ccs.says w K) (F_m_law_draw : Okd P w K mg base (BB K ns) 1 (He.fAd K d_m_law_draw.at_) ["_law_state_here", "_law_many"] m_law_draw) {fd : FuncData} (F : FD K d_m_law_changed_bill fd) : FnOk P w K mg base (L2.CX P w) 2 (He.fAd K d_m_law_changed_bill.at_) fd ["_law_state_here", "_law_bill"] (spM K (BB K ns) m_law_changed_bill) := by
  refine def_ok (k := 1) (nN := 4) (nP := 2) F sc_m_law_changed_bill _ rfl rfl fun cdv A outer s H E hr => ?_
  obtain ⟨tk, hp⟩ := tp_of (X := cxOf (L2.CX P w) P w K mg base ["_law_state_here", "_law_bill", "_law_row", "_law_k"] "_law_changed_bill" (defScope sD_m_law_changed_bill) (He.fAd K d_m_law_changed_bill.at_) cdv A outer s H E) (E := E) rfl rfl rfl rfl
  exact (ss_cons (ss_set (i := 2) sc_m_law_changed_bill.nd (se_callT call_list_of v_list rfl (He.free_ok KX G (c.fact 18 (f := .free "list") rfl)) (by decide +kernel) (sa_cons (se_var 1) sa_nil)))
    (ss_cons (ss_set (i := 3) sc_m_law_changed_bill.nd (se_cd F_m_law_draw (hr.mono (by decide)) rfl (He.glo_ok KX G (c.fact 23 (f := .glo "_law_draw") rfl)) tk (sa_cons (se_var 0) (sa_cons se_int sa_nil))))
    (ss_cons (ss_if (st_in (se_var 3) (se_lst (sa_cons se_int (sa_cons se_int sa_nil)))) (ss_one (ss_setIx (se_str [122, 101, 100, 64, 120]) (se_var 2) (se_var 3)))
    (ss_one (ss_setIx (se_add (se_ix (se_var 2) (se_var 3)) se_int) (se_var 2) (se_var 3))))
    (ss_one (ss_ret (se_callT call_tuple_of v_tup rfl (He.free_ok KX G (c.fact 25 (f := .free "tuple") rfl)) (by decide +kernel) (sa_cons (se_var 2) sa_nil)))))))
theorem bd_m_law_changed_bill {fd : FuncData} (F : FD K d_m_law_changed_bill fd) : Binds K fd ["_law_state_here", "_law_bill"] [] := FunD.bindsN (ps := ["_law_state_here", "_law_bill"]) F fun _ _ _ _ _ _ us hl => match us, hl with | [_, _], _ => rfl
theorem ok_m_law_changed_bill (KX : K.In h) (G : h.Ns mainGlobals mg) (c : He.SaysD fas fns K) (cc : ccs.says w K) (F_m_law_draw : Okd P w K mg base (BB K ns) 1 (He.fAd K d_m_law_draw.at_) ["_law_state_here", "_law_many"] m_law_draw) : Okd P w K mg base (BB K ns) 2 (He.fAd K d_m_law_changed_bill.at_) ["_law_state_here", "_law_bill"] m_law_changed_bill := by
  obtain ⟨fd, F⟩ := c.def_ 17 (d := d_m_law_changed_bill) rfl
  exact ⟨fd, fn_m_law_changed_bill KX G c cc F_m_law_draw F, bd_m_law_changed_bill F, F.kp⟩
theorem sc_m_law_bills : FnScope ["_law_state_here", "_law_calls", "_law_tariff", "_law_bills_here", "_law_call", "_law_bill", "_law_kind"] ["_law_state_here", "_law_calls", "_law_tariff"] (defScope sD_m_law_bills) := ⟨rfl, rfl, rfl, by decide +kernel, rfl, by decide +kernel, by decide +kernel⟩
theorem fn_m_law_bills (KX : K.In h) (G : h.Ns mainGlobals mg) (c : He.SaysD fas fns K) (cc : ccs.says w K) (F_m_law_draw : Okd P w K mg base (BB K ns) 1 (He.fAd K d_m_law_draw.at_) ["_law_state_here", "_law_many"] m_law_draw) (F_m_law_pick : Okd P w K mg base (BB K ns) 2 (He.fAd K d_m_law_pick.at_) ["_law_state_here", "_law_row"] m_law_pick) (F_m_law_changed_bill : Okd P w K mg base (BB K ns) 2 (He.fAd K d_m_law_changed_bill.at_) ["_law_state_here", "_law_bill"] m_law_changed_bill) (K_okk_m_Tariff_cost_2 : Okk P w K mg base (BB K ns) 2 (He.fAd K d_m_Tariff_cost.at_) 2 [] (re id m_Tariff_cost)) {fd : FuncData} (F : FD K d_m_law_bills fd) : FnOk P w K mg base (L2.CX P w) 3 (He.fAd K d_m_law_bills.at_) fd ["_law_state_here", "_law_calls", "_law_tariff"] (spM K (BB K ns) m_law_bills) := by
  refine def_ok (k := 2) (nN := 7) (nP := 3) F sc_m_law_bills _ rfl rfl fun cdv A outer s H E hr => ?_
  obtain ⟨tk, hp⟩ := tp_of (X := cxOf (L2.CX P w) P w K mg base ["_law_state_here", "_law_calls", "_law_tariff", "_law_bills_here", "_law_call", "_law_bill", "_law_kind"] "_law_bills" (defScope sD_m_law_bills) (He.fAd K d_m_law_bills.at_) cdv A outer s H E) (E := E) rfl rfl rfl rfl
  exact (ss_cons (ss_set (i := 3) sc_m_law_bills.nd (se_lst sa_nil))
    (ss_cons (ss_for hp rfl (se_var 1) [4] (sg_name sc_m_law_bills.nd)
    (ss_one (ss_if (st_w (sw_and (st_notN (se_ix (se_var 4) se_int)) (sw_and1 (st_notN (se_ix (se_var 4) se_int))))) (ss_cons (ss_set (i := 5) sc_m_law_bills.nd (se_tup (sa_cons (se_ix (se_var 4) se_int) (sa_cons (se_ix (se_var 4) se_int) (sa_cons (se_ix (se_var 4) se_int) (sa_cons (se_ix (se_var 4) se_int) (sa_cons (se_ix (se_var 4) se_int) (sa_cons (se_meth (k := 2) (mt_fld rfl an_nd (mt_cons (m := re id m_Tariff_cost) rfl (He.cls_ok (c.fact 13 (f := .cls "Tariff") rfl)) (He.meth_ok (c.fact 14 (f := .meth "Tariff" "cost") rfl)) K_okk_m_Tariff_cost_2 (by decide) mt_nil)) hr tk (se_var 2) (sa_cons (se_sub (se_ix (se_var 4) se_int) (se_ix (se_var 4) se_int)) sa_nil) (al_cons al_nil)) sa_nil))))))))
    (ss_cons (ss_set (i := 6) sc_m_law_bills.nd (se_cd F_m_law_draw (hr.mono (by decide)) rfl (He.glo_ok KX G (c.fact 23 (f := .glo "_law_draw") rfl)) tk (sa_cons (se_var 0) (sa_cons se_int sa_nil))))
    (ss_cons (ss_if (st_eq hr (se_var 6) se_int) (ss_one (ss_set (i := 5) sc_m_law_bills.nd (se_cd F_m_law_changed_bill (hr.mono (by decide)) rfl (He.glo_ok KX G (c.fact 26 (f := .glo "_law_changed_bill") rfl)) tk (sa_cons (se_var 0) (sa_cons (se_var 5) sa_nil)))))
    ss_nil)
    (ss_cons (ss_if (st_ne hr (se_var 6) se_int) (ss_one (ss_expr (se_bm PySem.F.plainAttrs_list PySem.F.slot_list_append PySem.F.type_list_append mt_append (.inr (.inl ⟨rfl, rfl⟩)) v_append (se_var 3) (sa_cons (se_var 5) sa_nil))))
    ss_nil)
    (ss_one (ss_if (st_eq hr (se_var 6) se_int) (ss_one (ss_expr (se_bm PySem.F.plainAttrs_list PySem.F.slot_list_append PySem.F.type_list_append mt_append (.inr (.inl ⟨rfl, rfl⟩)) v_append (se_var 3) (sa_cons (se_cd F_m_law_pick (hr.mono (by decide)) rfl (He.glo_ok KX G (c.fact 24 (f := .glo "_law_pick") rfl)) tk (sa_cons (se_var 0) (sa_cons (se_lst (sa_cons (se_var 5) (sa_cons (se_cd F_m_law_changed_bill (hr.mono (by decide)) rfl (He.glo_ok KX G (c.fact 26 (f := .glo "_law_changed_bill") rfl)) tk (sa_cons (se_var 0) (sa_cons (se_var 5) sa_nil))) sa_nil))) sa_nil))) sa_nil))))
    ss_nil))))))
    (ss_one (ss_if (st_eq hr (se_cd F_m_law_draw (hr.mono (by decide)) rfl (He.glo_ok KX G (c.fact 23 (f := .glo "_law_draw") rfl)) tk (sa_cons (se_var 0) (sa_cons se_int sa_nil))) se_int) (ss_one (ss_expr (se_bm PySem.F.plainAttrs_list PySem.F.slot_list_append PySem.F.type_list_append mt_append (.inr (.inl ⟨rfl, rfl⟩)) v_append (se_var 3) (sa_cons (se_tup (sa_cons (se_ix (se_var 4) se_int) (sa_cons (se_ix (se_var 4) se_int) (sa_cons (se_ix (se_var 4) se_int) (sa_cons se_int (sa_cons se_int (sa_cons se_int sa_nil))))))) sa_nil))))
    ss_nil)))))
    (ss_one (ss_ret (se_var 3)))))
theorem bd_m_law_bills {fd : FuncData} (F : FD K d_m_law_bills fd) : Binds K fd ["_law_state_here", "_law_calls", "_law_tariff"] [] := FunD.bindsN (ps := ["_law_state_here", "_law_calls", "_law_tariff"]) F fun _ _ _ _ _ _ us hl => match us, hl with | [_, _, _], _ => rfl
theorem ok_m_law_bills (KX : K.In h) (G : h.Ns mainGlobals mg) (c : He.SaysD fas fns K) (cc : ccs.says w K) (F_m_law_draw : Okd P w K mg base (BB K ns) 1 (He.fAd K d_m_law_draw.at_) ["_law_state_here", "_law_many"] m_law_draw) (F_m_law_pick : Okd P w K mg base (BB K ns) 2 (He.fAd K d_m_law_pick.at_) ["_law_state_here", "_law_row"] m_law_pick) (F_m_law_changed_bill : Okd P w K mg base (BB K ns) 2 (He.fAd K d_m_law_changed_bill.at_) ["_law_state_here", "_law_bill"] m_law_changed_bill) (K_okk_m_Tariff_cost_2 : Okk P w K mg base (BB K ns) 2 (He.fAd K d_m_Tariff_cost.at_) 2 [] (re id m_Tariff_cost)) : Okd P w K mg base (BB K ns) 3 (He.fAd K d_m_law_bills.at_) ["_law_state_here", "_law_calls", "_law_tariff"] m_law_bills := by
  obtain ⟨fd, F⟩ := c.def_ 18 (d := d_m_law_bills) rfl
  exact ⟨fd, fn_m_law_bills KX G c cc F_m_law_draw F_m_law_pick F_m_law_changed_bill K_okk_m_Tariff_cost_2 F, bd_m_law_bills F, F.kp⟩
theorem sc_m_law_pending : FnScope ["_law_state_here", "_law_calls", "_law_numbers", "_law_call"] ["_law_state_here", "_law_calls"] (defScope sD_m_law_pending) := ⟨rfl, rfl, rfl, by decide +kernel, rfl, by decide +kernel, by decide +kernel⟩
theorem fn_m_law_pending (KX : K.In h) (G : h.Ns mainGlobals mg) (c : He.SaysD fas fns K) (cc : ccs.says w K) (F_m_law_draw : Okd P w K mg base (BB K ns) 1 (He.fAd K d_m_law_draw.at_) ["_law_state_here", "_law_many"] m_law_draw) {fd : FuncData} (F : FD K d_m_law_pending fd) : FnOk P w K mg base (L2.CX P w) 2 (He.fAd K d_m_law_pending.at_) fd ["_law_state_here", "_law_calls"] (spM K (BB K ns) m_law_pending) := by
  refine def_ok (k := 1) (nN := 4) (nP := 2) F sc_m_law_pending _ rfl rfl fun cdv A outer s H E hr => ?_
  obtain ⟨tk, hp⟩ := tp_of (X := cxOf (L2.CX P w) P w K mg base ["_law_state_here", "_law_calls", "_law_numbers", "_law_call"] "_law_pending" (defScope sD_m_law_pending) (He.fAd K d_m_law_pending.at_) cdv A outer s H E) (E := E) rfl rfl rfl rfl
  exact (ss_cons (ss_set (i := 2) sc_m_law_pending.nd (se_lst sa_nil))
    (ss_cons (ss_for hp rfl (se_var 1) [3] (sg_name sc_m_law_pending.nd)
    (ss_one (ss_if (st_ne hr (se_and (se_notN (se_ix (se_var 3) se_int)) (se_one (se_isN (se_ix (se_var 3) se_int)))) (se_eq hr (se_cd F_m_law_draw (hr.mono (by decide)) rfl (He.glo_ok KX G (c.fact 23 (f := .glo "_law_draw") rfl)) tk (sa_cons (se_var 0) (sa_cons se_int sa_nil))) se_int)) (ss_one (ss_expr (se_bm PySem.F.plainAttrs_list PySem.F.slot_list_append PySem.F.type_list_append mt_append (.inr (.inl ⟨rfl, rfl⟩)) v_append (se_var 2) (sa_cons (se_ix (se_var 3) se_int) sa_nil))))
    ss_nil)))
    (ss_one (ss_ret (se_var 2)))))
theorem bd_m_law_pending {fd : FuncData} (F : FD K d_m_law_pending fd) : Binds K fd ["_law_state_here", "_law_calls"] [] := FunD.bindsN (ps := ["_law_state_here", "_law_calls"]) F fun _ _ _ _ _ _ us hl => match us, hl with | [_, _], _ => rfl
theorem ok_m_law_pending (KX : K.In h) (G : h.Ns mainGlobals mg) (c : He.SaysD fas fns K) (cc : ccs.says w K) (F_m_law_draw : Okd P w K mg base (BB K ns) 1 (He.fAd K d_m_law_draw.at_) ["_law_state_here", "_law_many"] m_law_draw) : Okd P w K mg base (BB K ns) 2 (He.fAd K d_m_law_pending.at_) ["_law_state_here", "_law_calls"] m_law_pending := by
  obtain ⟨fd, F⟩ := c.def_ 19 (d := d_m_law_pending) rfl
  exact ⟨fd, fn_m_law_pending KX G c cc F_m_law_draw F, bd_m_law_pending F, F.kp⟩
theorem sc_m_law_findings : FnScope ["_law_call", "_law_bills_here", "_law_pending_here", "_law_tariff", "_law_mine", "_law_bill", "_law_found", "_law_due"] ["_law_call", "_law_bills_here", "_law_pending_here", "_law_tariff"] (defScope sD_m_law_findings) := ⟨rfl, rfl, rfl, by decide +kernel, rfl, by decide +kernel, by decide +kernel⟩
theorem fn_m_law_findings (KX : K.In h) (G : h.Ns mainGlobals mg) (c : He.SaysD fas fns K) (cc : ccs.says w K) (K_okk_m_Tariff_cost_2 : Okk P w K mg base (BB K ns) 2 (He.fAd K d_m_Tariff_cost.at_) 2 [] (re id m_Tariff_cost)) {fd : FuncData} (F : FD K d_m_law_findings fd) : FnOk P w K mg base (L2.CX P w) 3 (He.fAd K d_m_law_findings.at_) fd ["_law_call", "_law_bills_here", "_law_pending_here", "_law_tariff"] (spM K (BB K ns) m_law_findings) := by
  refine def_ok (k := 2) (nN := 8) (nP := 4) F sc_m_law_findings _ rfl rfl fun cdv A outer s H E hr => ?_
  obtain ⟨tk, hp⟩ := tp_of (X := cxOf (L2.CX P w) P w K mg base ["_law_call", "_law_bills_here", "_law_pending_here", "_law_tariff", "_law_mine", "_law_bill", "_law_found", "_law_due"] "_law_findings" (defScope sD_m_law_findings) (He.fAd K d_m_law_findings.at_) cdv A outer s H E) (E := E) rfl rfl rfl rfl
  exact (ss_cons (ss_setComp (own := [("_law_bill", 5)]) (i := 4) rfl sc_m_law_findings.nd rfl (sw_true rfl rfl rfl (by decide +kernel)) (se_var 1) (blkOk_by (own := [("_law_bill", 5)]) (N := ["_law_call", "_law_bills_here", "_law_pending_here", "_law_tariff", "_law_mine", "_law_bill", "_law_found", "_law_due"]) (sc := defScope sD_m_law_findings) (by decide +kernel)) (fun _ _ _ _ _ => (sg_name sc_m_law_findings.nd)) (fun _ _ _ _ _ => (sts_one (st_eq hr (se_ix (se_var 5) se_int) (se_ix (se_var 0) se_int)))) (fun _ _ _ _ _ => (se_var 5)))
    (ss_cons (ss_set (i := 6) sc_m_law_findings.nd (se_lst sa_nil))
    (ss_cons (ss_if (st_w (sw_or (st_isN (se_ix (se_var 0) se_int)) (sw_or1 (st_isN (se_ix (se_var 0) se_int))))) (ss_cons (ss_if (st_gt (se_callB call_len v_len rfl (He.free_ok KX G (c.fact 0 (f := .free "len") rfl)) (by decide +kernel) (sa_cons (se_var 4) sa_nil)) se_int) (ss_one (ss_expr (se_bm PySem.F.plainAttrs_list PySem.F.slot_list_append PySem.F.type_list_append mt_append (.inr (.inl ⟨rfl, rfl⟩)) v_append (se_var 6) (sa_cons (se_tup (sa_cons (se_str [98, 105, 108, 108]) (sa_cons (se_ix (se_var 0) se_int) sa_nil))) sa_nil))))
    ss_nil)
    (ss_one (ss_if (st_ne hr (se_notN (se_ix (se_var 0) se_int)) (se_in (se_ix (se_var 0) se_int) (se_var 2))) (ss_one (ss_expr (se_bm PySem.F.plainAttrs_list PySem.F.slot_list_append PySem.F.type_list_append mt_append (.inr (.inl ⟨rfl, rfl⟩)) v_append (se_var 6) (sa_cons (se_tup (sa_cons (se_str [112, 101, 110, 100, 105, 110, 103]) (sa_cons (se_ix (se_var 0) se_int) sa_nil))) sa_nil))))
    ss_nil)))
    (ss_one (ss_if (st_eq hr (se_callB call_len v_len rfl (He.free_ok KX G (c.fact 0 (f := .free "len") rfl)) (by decide +kernel) (sa_cons (se_var 4) sa_nil)) se_int) (ss_one (ss_expr (se_bm PySem.F.plainAttrs_list PySem.F.slot_list_append PySem.F.type_list_append mt_append (.inr (.inl ⟨rfl, rfl⟩)) v_append (se_var 6) (sa_cons (se_tup (sa_cons (se_str [110, 111, 110, 101]) (sa_cons (se_ix (se_var 0) se_int) sa_nil))) sa_nil))))
    (ss_cons (ss_set (i := 7) sc_m_law_findings.nd (se_tup (sa_cons (se_ix (se_var 0) se_int) (sa_cons (se_ix (se_var 0) se_int) (sa_cons (se_ix (se_var 0) se_int) (sa_cons (se_ix (se_var 0) se_int) (sa_cons (se_ix (se_var 0) se_int) (sa_cons (se_meth (k := 2) (mt_fld rfl an_nd (mt_cons (m := re id m_Tariff_cost) rfl (He.cls_ok (c.fact 13 (f := .cls "Tariff") rfl)) (He.meth_ok (c.fact 14 (f := .meth "Tariff" "cost") rfl)) K_okk_m_Tariff_cost_2 (by decide) mt_nil)) hr tk (se_var 3) (sa_cons (se_sub (se_ix (se_var 0) se_int) (se_ix (se_var 0) se_int)) sa_nil) (al_cons al_nil)) sa_nil))))))))
    (ss_one (ss_if (st_ne hr (se_ix (se_var 4) (se_sub (se_callB call_len v_len rfl (He.free_ok KX G (c.fact 0 (f := .free "len") rfl)) (by decide +kernel) (sa_cons (se_var 4) sa_nil)) se_int)) (se_var 7)) (ss_one (ss_expr (se_bm PySem.F.plainAttrs_list PySem.F.slot_list_append PySem.F.type_list_append mt_append (.inr (.inl ⟨rfl, rfl⟩)) v_append (se_var 6) (sa_cons (se_tup (sa_cons (se_str [98, 105, 108, 108]) (sa_cons (se_ix (se_var 0) se_int) sa_nil))) sa_nil))))
    ss_nil))))))
    (ss_one (ss_ret (se_var 6))))))
theorem bd_m_law_findings {fd : FuncData} (F : FD K d_m_law_findings fd) : Binds K fd ["_law_call", "_law_bills_here", "_law_pending_here", "_law_tariff"] [] := FunD.bindsN (ps := ["_law_call", "_law_bills_here", "_law_pending_here", "_law_tariff"]) F fun _ _ _ _ _ _ us hl => match us, hl with | [_, _, _, _], _ => rfl
theorem ok_m_law_findings (KX : K.In h) (G : h.Ns mainGlobals mg) (c : He.SaysD fas fns K) (cc : ccs.says w K) (K_okk_m_Tariff_cost_2 : Okk P w K mg base (BB K ns) 2 (He.fAd K d_m_Tariff_cost.at_) 2 [] (re id m_Tariff_cost)) : Okd P w K mg base (BB K ns) 3 (He.fAd K d_m_law_findings.at_) ["_law_call", "_law_bills_here", "_law_pending_here", "_law_tariff"] m_law_findings := by
  obtain ⟨fd, F⟩ := c.def_ 20 (d := d_m_law_findings) rfl
  exact ⟨fd, fn_m_law_findings KX G c cc K_okk_m_Tariff_cost_2 F, bd_m_law_findings F, F.kp⟩
theorem sc_m_law : FnScope ["_law_script", "_law_state_here", "_law_tariff", "_law_events", "_law_calls", "_law_due", "_law_now", "_law_tick", "_law_k", "_law_event_here", "_law_bills_here", "_law_pending_here", "_law_bill", "_law_call", "_law_before", "_law_told"] ["_law_script"] (defScope sD_m_law) := ⟨rfl, rfl, rfl, by decide +kernel, rfl, by decide +kernel, by decide +kernel⟩
theorem fn_m_law (KX : K.In h) (G : h.Ns mainGlobals mg) (c : He.SaysD fas fns K) (cc : ccs.says w K) (F_m_judge : Okd P w K mg base (BB K ns) 6 (He.fAd K d_m_judge.at_) ["events", "tariff", "bills", "pending"] m_judge) (F_m_law_state : Okd P w K mg base (BB K ns) 1 (He.fAd K d_m_law_state.at_) ["_law_script"] m_law_state) (F_m_law_draw : Okd P w K mg base (BB K ns) 1 (He.fAd K d_m_law_draw.at_) ["_law_state_here", "_law_many"] m_law_draw) (F_m_law_pick : Okd P w K mg base (BB K ns) 2 (He.fAd K d_m_law_pick.at_) ["_law_state_here", "_law_row"] m_law_pick) (F_m_law_event : Okd P w K mg base (BB K ns) 3 (He.fAd K d_m_law_event.at_) ["_law_state_here", "_law_now", "_law_numbers"] m_law_event) (F_m_law_stands : Okd P w K mg base (BB K ns) 1 (He.fAd K d_m_law_stands.at_) ["_law_event_here", "_law_calls", "_law_now"] m_law_stands) (F_m_law_apply : Okd P w K mg base (BB K ns) 1 (He.fAd K d_m_law_apply.at_) ["_law_event_here", "_law_calls", "_law_now"] m_law_apply) (F_m_law_bills : Okd P w K mg base (BB K ns) 3 (He.fAd K d_m_law_bills.at_) ["_law_state_here", "_law_calls", "_law_tariff"] m_law_bills) (F_m_law_pending : Okd P w K mg base (BB K ns) 2 (He.fAd K d_m_law_pending.at_) ["_law_state_here", "_law_calls"] m_law_pending) (F_m_law_findings : Okd P w K mg base (BB K ns) 3 (He.fAd K d_m_law_findings.at_) ["_law_call", "_law_bills_here", "_law_pending_here", "_law_tariff"] m_law_findings) (K_okk_m_Tariff_init_4 : Okk P w K mg base (BB K ns) 3 (He.fAd K d_m_Tariff_init.at_) 4 [] (re id m_Tariff_init)) {fd : FuncData} (F : FD K d_m_law fd) : FnG P w K mg base (L2.CX P w) (He.fAd K d_m_law.at_) fd ["_law_script"] (spM K (BB K ns) m_law) := by
  refine def_okG (k := 6) (nN := 16) (nP := 1) ⟨rfl, by decide, by decide⟩ F sc_m_law _ rfl rfl fun cdv s H E => ?_
  have hr : Room 6 (callerA.deeper (envOfC "law" (defScope sD_m_law) s.heap.objs.size (He.fAd K d_m_law.at_) cdv)) := Room.deeper ⟨rfl, by decide, by decide⟩ _
  obtain ⟨tk, hp⟩ := tp_of (X := cxOf (L2.CX P w) P w K mg base ["_law_script", "_law_state_here", "_law_tariff", "_law_events", "_law_calls", "_law_due", "_law_now", "_law_tick", "_law_k", "_law_event_here", "_law_bills_here", "_law_pending_here", "_law_bill", "_law_call", "_law_before", "_law_told"] "law" (defScope sD_m_law) (He.fAd K d_m_law.at_) cdv callerA [] s H E) (E := E) rfl rfl rfl rfl
  exact (ss_cons (ss_set (i := 1) sc_m_law.nd (se_cd F_m_law_state (hr.mono (by decide)) rfl (He.glo_ok KX G (c.fact 27 (f := .glo "_law_state") rfl)) tk (sa_cons (se_var 0) sa_nil)))
    (ss_cons (ss_set (i := 2) sc_m_law.nd (se_make (fm := re id m_Tariff_init) (He.mkr_ok (c.fact 28 (f := .mkr "Tariff") rfl)) rfl K_okk_m_Tariff_init_4 (hr.mono (by decide)) tk rfl (He.glo_ok KX G (c.fact 29 (f := .glo "Tariff") rfl)) (sa_cons (se_add se_int (se_cd F_m_law_draw (hr.mono (by decide)) rfl (He.glo_ok KX G (c.fact 23 (f := .glo "_law_draw") rfl)) tk (sa_cons (se_var 1) (sa_cons se_int sa_nil)))) (sa_cons (se_lst (sa_cons (se_tup (sa_cons se_int (sa_cons se_int sa_nil))) sa_nil)) (sa_cons se_int sa_nil))) (al_cons (al_cons (al_cons al_nil)))))
    (ss_cons (ss_set (i := 3) sc_m_law.nd (se_lst sa_nil))
    (ss_cons (ss_set (i := 4) sc_m_law.nd (se_lst sa_nil))
    (ss_cons (ss_set (i := 5) sc_m_law.nd (se_lst sa_nil))
    (ss_cons (ss_set (i := 6) sc_m_law.nd (se_lst (sa_cons se_int sa_nil)))
    (ss_cons (ss_set (i := 7) sc_m_law.nd se_int)
    (ss_cons (ss_rng1 hp rfl rfl (He.free_ok KX G (c.fact 34 (f := .free "range") rfl)) (se_callB call_len v_len rfl (He.free_ok KX G (c.fact 0 (f := .free "len") rfl)) (by decide +kernel) (sa_cons (se_slice (se_var 0) so_none (so_some se_int)) sa_nil)) [8] (sg_name sc_m_law.nd)
    (ss_cons (ss_set (i := 7) sc_m_law.nd (se_callB (call_max2 rfl) v_max rfl (He.free_ok KX G (c.fact 30 (f := .free "max") rfl)) (by decide +kernel) (sa_cons se_int (sa_cons (se_add (se_var 7) (se_cd F_m_law_pick (hr.mono (by decide)) rfl (He.glo_ok KX G (c.fact 24 (f := .glo "_law_pick") rfl)) tk (sa_cons (se_var 1) (sa_cons (se_lst (sa_cons se_int (sa_cons se_int (sa_cons (se_cd F_m_law_draw (hr.mono (by decide)) rfl (He.glo_ok KX G (c.fact 23 (f := .glo "_law_draw") rfl)) tk (sa_cons (se_var 1) (sa_cons se_int sa_nil))) (sa_cons (se_neg se_int) sa_nil))))) sa_nil)))) sa_nil))))
    (ss_cons (ss_set (i := 9) sc_m_law.nd (se_cd F_m_law_event (hr.mono (by decide)) rfl (He.glo_ok KX G (c.fact 31 (f := .glo "_law_event") rfl)) tk (sa_cons (se_var 1) (sa_cons (se_var 7) (sa_cons (se_lst (sa_cons (se_callB call_len v_len rfl (He.free_ok KX G (c.fact 0 (f := .free "len") rfl)) (by decide +kernel) (sa_cons (se_var 4) sa_nil)) sa_nil)) sa_nil)))))
    (ss_cons (ss_expr (se_bm PySem.F.plainAttrs_list PySem.F.slot_list_append PySem.F.type_list_append mt_append (.inr (.inl ⟨rfl, rfl⟩)) v_append (se_var 3) (sa_cons (se_var 9) sa_nil)))
    (ss_one (ss_if (st_val (se_cd F_m_law_stands (hr.mono (by decide)) rfl (He.glo_ok KX G (c.fact 32 (f := .glo "_law_stands") rfl)) tk (sa_cons (se_var 9) (sa_cons (se_var 4) (sa_cons (se_var 6) sa_nil))))) (ss_one (ss_expr (se_cd F_m_law_apply (hr.mono (by decide)) rfl (He.glo_ok KX G (c.fact 33 (f := .glo "_law_apply") rfl)) tk (sa_cons (se_var 9) (sa_cons (se_var 4) (sa_cons (se_var 6) sa_nil))))))
    (ss_one (ss_expr (se_bm PySem.F.plainAttrs_list PySem.F.slot_list_append PySem.F.type_list_append mt_append (.inr (.inl ⟨rfl, rfl⟩)) v_append (se_var 5) (sa_cons (se_tup (sa_cons (se_str [101, 118, 101, 110, 116]) (sa_cons (se_var 8) sa_nil))) sa_nil))))))))))
    (ss_cons (ss_set (i := 10) sc_m_law.nd (se_cd F_m_law_bills (hr.mono (by decide)) rfl (He.glo_ok KX G (c.fact 35 (f := .glo "_law_bills") rfl)) tk (sa_cons (se_var 1) (sa_cons (se_var 4) (sa_cons (se_var 2) sa_nil)))))
    (ss_cons (ss_set (i := 11) sc_m_law.nd (se_cd F_m_law_pending (hr.mono (by decide)) rfl (He.glo_ok KX G (c.fact 36 (f := .glo "_law_pending") rfl)) tk (sa_cons (se_var 1) (sa_cons (se_var 4) sa_nil))))
    (ss_cons (ss_rng1 hp rfl rfl (He.free_ok KX G (c.fact 34 (f := .free "range") rfl)) (se_callB call_len v_len rfl (He.free_ok KX G (c.fact 0 (f := .free "len") rfl)) (by decide +kernel) (sa_cons (se_var 10) sa_nil)) [8] (sg_name sc_m_law.nd)
    (ss_one (ss_if (st_in (se_ix (se_ix (se_var 10) (se_var 8)) se_int) (se_comp (own := [("_law_bill", 12)]) rfl sc_m_law.nd (se_slice (se_var 10) so_none (so_some (se_var 8))) (blkOk_by (own := [("_law_bill", 12)]) (N := ["_law_script", "_law_state_here", "_law_tariff", "_law_events", "_law_calls", "_law_due", "_law_now", "_law_tick", "_law_k", "_law_event_here", "_law_bills_here", "_law_pending_here", "_law_bill", "_law_call", "_law_before", "_law_told"]) (sc := defScope sD_m_law) (by decide +kernel)) (fun _ _ _ _ _ => (sg_name sc_m_law.nd)) (fun _ _ _ _ _ => sts_nil) (fun _ _ _ _ _ => (se_ix (se_var 12) se_int)))) (ss_one (ss_expr (se_bm PySem.F.plainAttrs_list PySem.F.slot_list_append PySem.F.type_list_append mt_append (.inr (.inl ⟨rfl, rfl⟩)) v_append (se_var 5) (sa_cons (se_tup (sa_cons (se_str [116, 119, 105, 99, 101]) (sa_cons (se_ix (se_ix (se_var 10) (se_var 8)) se_int) sa_nil))) sa_nil))))
    ss_nil)))
    (ss_cons (ss_for hp rfl (se_var 4) [13] (sg_name sc_m_law.nd)
    (ss_one (ss_set (i := 5) sc_m_law.nd (se_add (se_var 5) (se_cd F_m_law_findings (hr.mono (by decide)) rfl (He.glo_ok KX G (c.fact 37 (f := .glo "_law_findings") rfl)) tk (sa_cons (se_var 13) (sa_cons (se_var 10) (sa_cons (se_var 11) (sa_cons (se_var 2) sa_nil)))))))))
    (ss_cons (ss_set (i := 14) sc_m_law.nd (se_callB (call_reprD rfl hr.units) v_repr rfl (He.free_ok KX G (c.fact 38 (f := .free "repr") rfl)) (by decide +kernel) (sa_cons (se_lst (sa_cons (se_var 3) (sa_cons (se_var 10) (sa_cons (se_var 11) sa_nil)))) sa_nil)))
    (ss_cons (ss_set (i := 15) sc_m_law.nd (se_cd F_m_judge (hr.mono (by decide)) rfl (He.glo_ok KX G (c.fact 39 (f := .glo "judge") rfl)) tk (sa_cons (se_var 3) (sa_cons (se_var 2) (sa_cons (se_var 10) (sa_cons (se_var 11) sa_nil))))))
    (ss_one (ss_ret (se_and (se_isi (j := 5) (T := "list") (by decide) (by decide) (by decide +kernel) (by rfl) (He.free_ok KX G (c.fact 40 (f := .free "isinstance") rfl)) (se_var 15) (by rfl) (He.free_ok KX G (c.fact 18 (f := .free "list") rfl)) (by rfl) (by decide +kernel)) (se_and (se_eq hr (se_var 15) (se_var 5)) (se_one (se_eq hr (se_callB (call_reprD rfl hr.units) v_repr rfl (He.free_ok KX G (c.fact 38 (f := .free "repr") rfl)) (by decide +kernel) (sa_cons (se_lst (sa_cons (se_var 3) (sa_cons (se_var 10) (sa_cons (se_var 11) sa_nil)))) sa_nil)) (se_var 14)))))))))))))))))))))
theorem bd_m_law {fd : FuncData} (F : FD K d_m_law fd) : Binds K fd ["_law_script"] [] := FunD.bindsN (ps := ["_law_script"]) F fun _ _ _ _ _ _ us hl => match us, hl with | [_], _ => rfl
theorem whole (KX : K.In h) (G : h.Ns mainGlobals mg) (c : He.SaysD fas fns K) (cc : ccs.says w K) {fd : FuncData} (F : FunD K d_m_law.name d_m_law.qual d_m_law.params d_m_law.body d_m_law.scope (He.DefD.dvs K d_m_law) (He.DefD.kws K d_m_law) (He.fAd K d_m_law.at_) fd) :
    FnG P w K mg base CX0 (He.fAd K d_m_law.at_) fd ["_law_script"] (spLaw K (ca K) an m_law) := by
  refine law_okG fun ns => ?_
  have X_ConfigError : Okx P w K mg base 1 (He.ga K "ConfigError") (He.fAd K d_m_ConfigError_init.at_) ["self", "setting"] "setting" := okx_ConfigError KX G c cc
  have K_okk_m_Record_init_5 : Okk P w K mg base (BB K ns) 1 (He.fAd K d_m_Record_init.at_) 5 [] (re id m_Record_init) := okk_m_Record_init_5 KX G c cc
  have K_okk_m_Record_row_1 : Okk P w K mg base (BB K ns) 1 (He.fAd K d_m_Record_row.at_) 1 [] (re id m_Record_row) := okk_m_Record_row_1 KX G c cc
  have K_okk_m_Book_init_1 : Okk P w K mg base (BB K ns) 1 (He.fAd K d_m_Book_init.at_) 1 [] (re id m_Book_init) := okk_m_Book_init_1 KX G c cc
  have K_okk_m_Book_begin_2 : Okk P w K mg base (BB K ns) 3 (He.fAd K d_m_Book_begin.at_) 2 [] (re id m_Book_begin) := okk_m_Book_begin_2 KX G c cc K_okk_m_Record_init_5
  have K_okk_m_Book_change_3 : Okk P w K mg base (BB K ns) 1 (He.fAd K d_m_Book_change.at_) 3 [] (re id m_Book_change) := okk_m_Book_change_3 KX G c cc
  have K_okk_m_Book_take_2 : Okk P w K mg base (BB K ns) 4 (He.fAd K d_m_Book_take.at_) 2 [] (re id m_Book_take) := okk_m_Book_take_2 KX G c cc K_okk_m_Book_begin_2 K_okk_m_Book_change_3
  have F_m_tell : Okd P w K mg base (BB K ns) 5 (He.fAd K d_m_tell.at_) ["events"] m_tell := ok_m_tell KX G c cc K_okk_m_Record_row_1 K_okk_m_Book_init_1 K_okk_m_Book_take_2
  have K_okk_m_Tariff_units_2 : Okk P w K mg base (BB K ns) 1 (He.fAd K d_m_Tariff_units.at_) 2 [] (re id m_Tariff_units) := okk_m_Tariff_units_2 KX G c cc
  have K_okk_m_Tariff_cost_2 : Okk P w K mg base (BB K ns) 2 (He.fAd K d_m_Tariff_cost.at_) 2 [] (re id m_Tariff_cost) := okk_m_Tariff_cost_2 KX G c cc K_okk_m_Tariff_units_2
  have F_m_judge : Okd P w K mg base (BB K ns) 6 (He.fAd K d_m_judge.at_) ["events", "tariff", "bills", "pending"] m_judge := ok_m_judge KX G c cc F_m_tell K_okk_m_Tariff_cost_2
  have K_okk_m_Tariff_init_4 : Okk P w K mg base (BB K ns) 3 (He.fAd K d_m_Tariff_init.at_) 4 [] (re id m_Tariff_init) := okk_m_Tariff_init_4 KX G c cc X_ConfigError
  have F_m_law_state : Okd P w K mg base (BB K ns) 1 (He.fAd K d_m_law_state.at_) ["_law_script"] m_law_state := ok_m_law_state KX G c cc
  have F_m_law_draw : Okd P w K mg base (BB K ns) 1 (He.fAd K d_m_law_draw.at_) ["_law_state_here", "_law_many"] m_law_draw := ok_m_law_draw KX G c cc
  have F_m_law_pick : Okd P w K mg base (BB K ns) 2 (He.fAd K d_m_law_pick.at_) ["_law_state_here", "_law_row"] m_law_pick := ok_m_law_pick KX G c cc F_m_law_draw
  have F_m_law_event : Okd P w K mg base (BB K ns) 3 (He.fAd K d_m_law_event.at_) ["_law_state_here", "_law_now", "_law_numbers"] m_law_event := ok_m_law_event KX G c cc F_m_law_draw F_m_law_pick
  have F_m_law_stands : Okd P w K mg base (BB K ns) 1 (He.fAd K d_m_law_stands.at_) ["_law_event_here", "_law_calls", "_law_now"] m_law_stands := ok_m_law_stands KX G c cc
  have F_m_law_apply : Okd P w K mg base (BB K ns) 1 (He.fAd K d_m_law_apply.at_) ["_law_event_here", "_law_calls", "_law_now"] m_law_apply := ok_m_law_apply KX G c cc
  have F_m_law_changed_bill : Okd P w K mg base (BB K ns) 2 (He.fAd K d_m_law_changed_bill.at_) ["_law_state_here", "_law_bill"] m_law_changed_bill := ok_m_law_changed_bill KX G c cc F_m_law_draw
  have F_m_law_bills : Okd P w K mg base (BB K ns) 3 (He.fAd K d_m_law_bills.at_) ["_law_state_here", "_law_calls", "_law_tariff"] m_law_bills := ok_m_law_bills KX G c cc F_m_law_draw F_m_law_pick F_m_law_changed_bill K_okk_m_Tariff_cost_2
  have F_m_law_pending : Okd P w K mg base (BB K ns) 2 (He.fAd K d_m_law_pending.at_) ["_law_state_here", "_law_calls"] m_law_pending := ok_m_law_pending KX G c cc F_m_law_draw
  have F_m_law_findings : Okd P w K mg base (BB K ns) 3 (He.fAd K d_m_law_findings.at_) ["_law_call", "_law_bills_here", "_law_pending_here", "_law_tariff"] m_law_findings := ok_m_law_findings KX G c cc K_okk_m_Tariff_cost_2
  exact fn_m_law KX G c cc F_m_judge F_m_law_state F_m_law_draw F_m_law_pick F_m_law_event F_m_law_stands F_m_law_apply F_m_law_bills F_m_law_pending F_m_law_findings K_okk_m_Tariff_init_4 F
end
end Wk
section
set_option Elab.async false
set_option linter.all false
set_option maxRecDepth 100000
set_option maxHeartbeats 0
open PySem PySem.W PySem.Calls PyProof.Rows

theorem Wk.close_ (law_true : ∀ (ns : List Int), ns.length ≤ 63 → ∃ h', Mir.m_law [Cn.CV.scr] ⟨ns, []⟩ = .ok (.bl true) h') : PySem.Challenge.rw_trunkland_k16_judge.Holds := by
  w_on; o_law
  refine HandSHeadRun.head_any (r := OpenLaw.row PySem.Challenge.rw_trunkland_k16_judge) (q := view (OpenLaw.row PySem.Challenge.rw_trunkland_k16_judge).prog [25]) (H := Wk.hk) (ob := Wk.ob) (M := 1854) (loose := Wk.loose) (d := HandSHeadRun.topDef (OpenLaw.row PySem.Challenge.rw_trunkland_k16_judge).prog 25) (kwd := []) Wk.ob_eq
    (by kernel_rfl) (fun s => by kernel_rfl) Wk.run (by kernel_rfl) (by kernel_rfl) (by kernel_rfl) (by rfl) (by first | assumption | decide +kernel) (by decide +kernel) ⟨rfl, rfl, rfl, rfl, rfl, by decide +kernel⟩ ?hw ?hc
  case hw => w_witness2
  case hc =>
    refine Cn.walk_ofG (l := PySem.Challenge.rw_trunkland_k16_judge) (n := 63) (y := "_law_script") (CX := L2.CX0) rfl (by decide) (by kernel_rfl) ?F (fun _ _ _ _ z => z)
    intro w mg fa h Y G hmg0
    obtain ⟨K, KX, c, cc⟩ := Y
    have hmg : mg ("law" : PySem.Str) = some (.ref fa) := by
      have e : (HandSHeadRun.topDef (OpenLaw.row PySem.Challenge.rw_trunkland_k16_judge).prog 25).name = ("law" : PySem.Str) := by kernel_rfl
      rw [← e]
      exact hmg0
    obtain ⟨fd, F⟩ := c.def_ 21 (d := Wk.d_m_law) rfl
    have e := hmg.symm.trans (He.glo_ok KX G (c.fact 57 (f := .glo "law") rfl))
    cases e
    have b := L2.FunD.bindsA (ps := ["_law_script"]) F fun _ _ _ _ _ _ us hl => match us, hl with | [_], _ => rfl
    exact ⟨K, fd, Cn.spLaw K (Wk.ca K) Wk.an Mir.m_law, KX, fun s v => b s [v] rfl, fun H a ns hl hO hS => Cn.sp_law law_true H a ns hl hO hS, fun base _ _ => Wk.whole KX G c cc F⟩
end
set_option Elab.async false
set_option maxRecDepth 100000
namespace Mir
open Cn
def m_made_of : Def := runD 3 2 (
    sSeq (sIf (Cn.tNot (tV (eChain leV leV (eC (.int 1)) (eCall lenV (aCons (eVar 0) (aNil))) (eC (.int 16))))) (sRet (eC (.bl false)))
    (sNil))
    (sSeq (sFor (eVar 0) (gSet 2)
    (sIf (tV (e2 ninV (eVar 2) (eVar 1))) (sRet (eC (.bl false)))
    (sNil)))
    (sRet (eC (.bl true)))))
def m_is_name : Def := runD 1 1 (
    sRet (eAnd (eCall m_made_of (aCons (eVar 0) (aCons (e2 addV (eC (.str [97, 98, 99, 100, 101, 102, 103, 104, 105, 106, 107, 108, 109, 110, 111, 112, 113, 114, 115, 116, 117, 118, 119, 120, 121, 122])) (eC (.str [48, 49, 50, 51, 52, 53, 54, 55, 56, 57]))) (aNil)))) (e2 Cn.inV (e2 ixV (eVar 0) (eC (.int 0))) (eC (.str [97, 98, 99, 100, 101, 102, 103, 104, 105, 106, 107, 108, 109, 110, 111, 112, 113, 114, 115, 116, 117, 118, 119, 120, 121, 122])))))
def m_is_tag : Def := runD 1 1 (
    sRet (eCall m_made_of (aCons (eVar 0) (aCons (e2 addV (e2 addV (eC (.str [97, 98, 99, 100, 101, 102, 103, 104, 105, 106, 107, 108, 109, 110, 111, 112, 113, 114, 115, 116, 117, 118, 119, 120, 121, 122])) (eC (.str [65, 66, 67, 68, 69, 70, 71, 72, 73, 74, 75, 76, 77, 78, 79, 80, 81, 82, 83, 84, 85, 86, 87, 88, 89, 90]))) (eC (.str [48, 49, 50, 51, 52, 53, 54, 55, 56, 57]))) (aNil)))))
def m_read_number : Def := runD 4 2 (
    sSeq (sIf (Cn.tOr (Cn.tNot (tV (eChain leV leV (eC (.int 1)) (eCall lenV (aCons (eVar 0) (aNil))) (eC (.int 9))))) (Cn.tAnd (tV (e2 Cn.eqV (e2 ixV (eVar 0) (eC (.int 0))) (eC (.str [48])))) (tV (e2 gtV (eCall lenV (aCons (eVar 0) (aNil))) (eC (.int 1)))))) (sRet (eC .non))
    (sNil))
    (sSeq (sFor (eVar 0) (gSet 2)
    (sIf (tV (e2 ninV (eVar 2) (eC (.str [48, 49, 50, 51, 52, 53, 54, 55, 56, 57])))) (sRet (eC .non))
    (sNil)))
    (sSeq (sSet 3 (eCall intV (aCons (eVar 0) (aNil))))
    (sSeq (sIf (tV (e2 gtV (eVar 3) (eVar 1))) (sRet (eC .non))
    (sNil))
    (sRet (eVar 3))))))
def m_split_address : Def := runD 4 1 (
    sSeq (sAsg (eBM 3 partitionV (eVar 0) (aCons (eC (.str [64])) (aNil))) (Cn.gTup 3 (gsCons (gSet 1) (gsCons (gSet 2) (gsCons (gSet 3) (gsNil))))))
    (sSeq (sIf (Cn.tOr (tV (e2 Cn.eqV (eVar 2) (eC (.str [])))) (Cn.tOr (Cn.tNot (tV (eCall m_is_name (aCons (eVar 1) (aNil))))) (Cn.tNot (tV (eCall m_is_name (aCons (eVar 3) (aNil))))))) (sRet (eC .non))
    (sNil))
    (sRet (eTup (aCons (eVar 1) (aCons (eVar 3) (aNil)))))))
def m_is_address : Def := runD 1 1 (
    sRet (e1 notNV (eCall m_split_address (aCons (eVar 0) (aNil)))))
end Mir
set_option Elab.async false
set_option maxRecDepth 100000
namespace Mir
open Cn
def m_mode_of : Def := runD 2 2 (
    sSeq (sIf (tV (eVar 0)) (sRet (eIf (tV (eVar 1)) (eC (.str [98, 111, 116, 104])) (eC (.str [115, 101, 110, 100]))))
    (sNil))
    (sRet (eIf (tV (eVar 1)) (eC (.str [116, 97, 107, 101])) (eC (.str [110, 111, 110, 101])))))
def m_read_formats : Def := runD 3 1 (
    sSeq (sSet 1 (eBM 3 splitV (eVar 0) (aCons (eC (.str [44])) (aNil))))
    (sSeq (sIf (Cn.tOr (tV (e2 gtV (eCall lenV (aCons (eVar 1) (aNil))) (eC (.int 6)))) (tV (e2 neV (e1 lsetV (eVar 1)) (eCall lenV (aCons (eVar 1) (aNil)))))) (sRet (eC .non))
    (sNil))
    (sSeq (sFor (eVar 1) (gSet 2)
    (sIf (Cn.tNot (tV (eCall m_is_name (aCons (eVar 2) (aNil))))) (sRet (eC .non))
    (sNil)))
    (sRet (eCall tupV (aCons (eVar 1) (aNil)))))))
def m_read_offer : Def := runD 3 1 (
    sSeq (sIf (tV (e2 neV (eCall lenV (aCons (eVar 0) (aNil))) (eC (.int 3)))) (sRet (eC .non))
    (sNil))
    (sSeq (sSet 1 (eCall m_read_number (aCons (e2 ixV (eVar 0) (eC (.int 0))) (aCons (eC (.int 65535)) (aNil)))))
    (sSeq (sSet 2 (eCall m_read_formats (aCons (e2 ixV (eVar 0) (eC (.int 2))) (aNil))))
    (sSeq (sIf (Cn.tOr (tV (e1 isNV (eVar 1))) (Cn.tOr (tV (e1 (kinC true [([98, 111, 116, 104], [.bl true, .bl true]), ([115, 101, 110, 100], [.bl true, .bl false]), ([116, 97, 107, 101], [.bl false, .bl true]), ([110, 111, 110, 101], [.bl false, .bl false])]) (e2 ixV (eVar 0) (eC (.int 1))))) (tV (e1 isNV (eVar 2))))) (sRet (eC .non))
    (sNil))
    (sRet (eTup (aCons (eVar 1) (aCons (e2 ixV (eVar 0) (eC (.int 1))) (aCons (eVar 2) (aNil))))))))))
def m_write_offer : Def := runD 1 1 (
    sRet (e2 addV (e2 addV (e2 addV (e2 addV (eCall strV (aCons (e2 ixV (eVar 0) (eC (.int 0))) (aNil))) (eC (.str [32]))) (e2 ixV (eVar 0) (eC (.int 1)))) (eC (.str [32]))) (eBM 3 joinV (eC (.str [44])) (aCons (e2 ixV (eVar 0) (eC (.int 2))) (aNil)))))
def m_answer : Def := runD 8 2 (
    sSeq (sSet 2 (eComp [3] (e2 ixV (eVar 1) (eC (.int 2))) (gSet 3) (tV (e2 Cn.inV (eVar 3) (e2 ixV (eVar 0) (eC (.int 2))))) (eVar 3)))
    (sSeq (sIf (tV (e2 Cn.eqV (eCall lenV (aCons (eVar 2) (aNil))) (eC (.int 0)))) (sRet (eC .non))
    (sNil))
    (sSeq (sAsg (e1 (dicC [([98, 111, 116, 104], [.bl true, .bl true]), ([115, 101, 110, 100], [.bl true, .bl false]), ([116, 97, 107, 101], [.bl false, .bl true]), ([110, 111, 110, 101], [.bl false, .bl false])]) (e2 ixV (eVar 0) (eC (.int 1)))) (Cn.gTup 2 (gsCons (gSet 4) (gsCons (gSet 5) (gsNil)))))
    (sSeq (sAsg (e1 (dicC [([98, 111, 116, 104], [.bl true, .bl true]), ([115, 101, 110, 100], [.bl true, .bl false]), ([116, 97, 107, 101], [.bl false, .bl true]), ([110, 111, 110, 101], [.bl false, .bl false])]) (e2 ixV (eVar 1) (eC (.int 1)))) (Cn.gTup 2 (gsCons (gSet 6) (gsCons (gSet 7) (gsNil)))))
    (sRet (eTup (aCons (e2 ixV (eVar 0) (eC (.int 0))) (aCons (eCall m_mode_of (aCons (eAnd (eVar 4) (eVar 7)) (aCons (eAnd (eVar 5) (eVar 6)) (aNil)))) (aCons (eCall tupV (aCons (eVar 2) (aNil))) (aNil))))))))))
def m_held : Def := runD 1 1 (
    sRet (eTup (aCons (e2 ixV (eVar 0) (eC (.int 0))) (aCons (eCall m_mode_of (aCons (e1 (dicIC [([98, 111, 116, 104], [.bl true, .bl true]), ([115, 101, 110, 100], [.bl true, .bl false]), ([116, 97, 107, 101], [.bl false, .bl true]), ([110, 111, 110, 101], [.bl false, .bl false])] 0) (e2 ixV (eVar 0) (eC (.int 1)))) (aCons (eC (.bl false)) (aNil)))) (aCons (e2 ixV (eVar 0) (eC (.int 2))) (aNil))))))
def m_flows : Def := runD 6 2 (
    sSeq (sAsg (e1 (dicC [([98, 111, 116, 104], [.bl true, .bl true]), ([115, 101, 110, 100], [.bl true, .bl false]), ([116, 97, 107, 101], [.bl false, .bl true]), ([110, 111, 110, 101], [.bl false, .bl false])]) (e2 ixV (eVar 0) (eC (.int 1)))) (Cn.gTup 2 (gsCons (gSet 2) (gsCons (gSet 3) (gsNil)))))
    (sSeq (sAsg (e1 (dicC [([98, 111, 116, 104], [.bl true, .bl true]), ([115, 101, 110, 100], [.bl true, .bl false]), ([116, 97, 107, 101], [.bl false, .bl true]), ([110, 111, 110, 101], [.bl false, .bl false])]) (e2 ixV (eVar 1) (eC (.int 1)))) (Cn.gTup 2 (gsCons (gSet 4) (gsCons (gSet 5) (gsNil)))))
    (sRet (eTup (aCons (eAnd (eVar 2) (eVar 5)) (aCons (eAnd (eVar 4) (eVar 3)) (aNil)))))))
end Mir
set_option Elab.async false
set_option maxRecDepth 100000
namespace Mir
open Cn
/- classes: {'Letter': 3, 'Reader': 4}; fields: {'verb': 2, 'code': 3, 'call': 4, 'origin': 5, 'origin_tag': 6, 'target': 7, 'target_tag': 8, 'seq': 9, 'way': 10, 'offer': 11, 'stay': 12, 'goal': 13, 'lines': 14, 'line': 0} -/
def m_Letter_init : Def := runD 13 13 (
    sSeq (sFld [3] 2 (eVar 0) (eVar 1))
    (sSeq (sFld [3] 3 (eVar 0) (eVar 9))
    (sSeq (sFld [3] 4 (eVar 0) (eVar 2))
    (sSeq (sFld [3] 5 (eVar 0) (eVar 3))
    (sSeq (sFld [3] 6 (eVar 0) (eVar 4))
    (sSeq (sFld [3] 7 (eVar 0) (eVar 5))
    (sSeq (sFld [3] 8 (eVar 0) (eVar 6))
    (sSeq (sFld [3] 9 (eVar 0) (eVar 7))
    (sSeq (sFld [3] 10 (eVar 0) (eVar 8))
    (sSeq (sFld [3] 11 (eVar 0) (eVar 10))
    (sSeq (sFld [3] 12 (eVar 0) (eVar 11))
    (sFld [3] 13 (eVar 0) (eVar 12)))))))))))))
def m_Letter_parts : Def := runD 2 1 (
    sSeq (sSet 1 (eTup (aCons (eFld [3] 2 (eVar 0)) (aCons (eFld [3] 3 (eVar 0)) (aCons (eFld [3] 4 (eVar 0)) (aCons (eFld [3] 5 (eVar 0)) (aCons (eFld [3] 6 (eVar 0)) (aCons (eFld [3] 7 (eVar 0)) (aCons (eFld [3] 8 (eVar 0)) (aNil))))))))))
    (sRet (e2 addV (eVar 1) (eTup (aCons (eFld [3] 9 (eVar 0)) (aCons (eFld [3] 10 (eVar 0)) (aCons (eFld [3] 11 (eVar 0)) (aCons (eFld [3] 12 (eVar 0)) (aCons (eFld [3] 13 (eVar 0)) (aNil))))))))))
def m_Letter_reply : Def := runD 5 5 (
    sRet (eMake 3 (re (fun l => gsel [0, 2, 4, 5, 6, 7, 8, 9, 10, 3, 11, 12, 1] (l.take 1) [.non] (l.drop 1)) m_Letter_init) (aCons (eFld [3] 2 (eVar 0)) (aCons (eVar 1) (aCons (eFld [3] 4 (eVar 0)) (aCons (eFld [3] 5 (eVar 0)) (aCons (eFld [3] 6 (eVar 0)) (aCons (eFld [3] 7 (eVar 0)) (aCons (eVar 2) (aCons (eFld [3] 9 (eVar 0)) (aCons (eFld [3] 10 (eVar 0)) (aCons (eVar 3) (aCons (eVar 4) (aNil))))))))))))))
def m_write : Def := runD 4 1 (
    sSeq (sSet 1 (e2 addV (eC (.str [114, 101, 113, 117, 101, 115, 116, 32])) (eFld [3] 2 (eVar 0))))
    (sSeq (sIf (tV (e1 notNV (eFld [3] 3 (eVar 0)))) (sSet 1 (e2 addV (e2 addV (e2 addV (eC (.str [114, 101, 112, 108, 121, 32])) (eCall strV (aCons (eFld [3] 3 (eVar 0)) (aNil)))) (eC (.str [32]))) (eFld [3] 2 (eVar 0))))
    (sNil))
    (sSeq (sSet 2 (e2 addV (eC (.str [116, 111, 32])) (eFld [3] 7 (eVar 0))))
    (sSeq (sIf (tV (e2 neV (eFld [3] 8 (eVar 0)) (eC (.str [])))) (sSet 2 (e2 addV (e2 addV (eVar 2) (eC (.str [32]))) (eFld [3] 8 (eVar 0))))
    (sNil))
    (sSeq (sSet 3 (eLst (aCons (eVar 1) (aCons (e2 addV (eC (.str [99, 97, 108, 108, 32])) (eFld [3] 4 (eVar 0))) (aCons (e2 addV (e2 addV (e2 addV (eC (.str [102, 114, 111, 109, 32])) (eFld [3] 5 (eVar 0))) (eC (.str [32]))) (eFld [3] 6 (eVar 0))) (aCons (eVar 2) (aNil)))))))
    (sSeq (sE (eBM 5 appendV (eVar 3) (aCons (e2 addV (eC (.str [115, 101, 113, 32])) (eCall strV (aCons (eFld [3] 9 (eVar 0)) (aNil)))) (aNil))))
    (sSeq (sE (eBM 5 appendV (eVar 3) (aCons (e2 addV (eC (.str [119, 97, 121, 32])) (eFld [3] 10 (eVar 0))) (aNil))))
    (sSeq (sIf (tV (e1 notNV (eFld [3] 11 (eVar 0)))) (sE (eBM 5 appendV (eVar 3) (aCons (e2 addV (eC (.str [111, 102, 102, 101, 114, 32])) (eCall m_write_offer (aCons (eFld [3] 11 (eVar 0)) (aNil)))) (aNil))))
    (sNil))
    (sSeq (sIf (tV (e1 notNV (eFld [3] 12 (eVar 0)))) (sE (eBM 5 appendV (eVar 3) (aCons (e2 addV (eC (.str [115, 116, 97, 121, 32])) (eCall strV (aCons (eFld [3] 12 (eVar 0)) (aNil)))) (aNil))))
    (sNil))
    (sSeq (sIf (tV (e1 notNV (eFld [3] 13 (eVar 0)))) (sE (eBM 5 appendV (eVar 3) (aCons (e2 addV (eC (.str [103, 111, 97, 108, 32])) (eFld [3] 13 (eVar 0))) (aNil))))
    (sNil))
    (sRet (e2 addV (eBM 3 joinV (eC (.str [10])) (aCons (eVar 3) (aNil))) (eC (.str [10]))))))))))))))
def m_Reader_init : Def := runD 2 2 (
    sSeq (sFld [4] 14 (eVar 0) (eBM 3 splitV (eVar 1) (aCons (eC (.str [10])) (aNil))))
    (sFld [4] 0 (eVar 0) (eC (.int 0))))
def m_Reader_require : Def := runD 2 2 (
    sIf (Cn.tNot (tV (eVar 1))) (sRaiseX 1 0 (eFld [4] 0 (eVar 0)))
    (sNil))
def m_Reader_has_next : Def := runD 2 2 (
    sRet (eAnd (e2 ltV (eFld [4] 0 (eVar 0)) (eCall lenV (aCons (eFld [4] 14 (eVar 0)) (aNil)))) (eBM 3 swV (e2 ixV (eFld [4] 14 (eVar 0)) (eFld [4] 0 (eVar 0))) (aCons (e2 addV (eVar 1) (eC (.str [32]))) (aNil)))))
def m_Reader_words : Def := runD 4 3 (
    sSeq (sFldAug addI [4] 0 (eVar 0) (eC (.int 1)))
    (sSeq (sE (eMeth [(4, re id m_Reader_require)] (none) (eVar 0) (aCons (e2 ltV (eFld [4] 0 (eVar 0)) (eCall lenV (aCons (eFld [4] 14 (eVar 0)) (aNil)))) (aNil))))
    (sSeq (sSet 3 (eBM 3 splitV (e2 ixV (eFld [4] 14 (eVar 0)) (e2 subV (eFld [4] 0 (eVar 0)) (eC (.int 1)))) (aCons (eC (.str [32])) (aNil))))
    (sSeq (sE (eMeth [(4, re id m_Reader_require)] (none) (eVar 0) (aCons (eAnd (e2 Cn.eqV (e2 ixV (eVar 3) (eC (.int 0))) (eVar 1)) (e2 Cn.inV (e2 subV (eCall lenV (aCons (eVar 3) (aNil))) (eC (.int 1))) (eVar 2))) (aNil))))
    (sRet (eSlice (eVar 3) (oSome (eC (.int 1))) oNone))))))
def m_Reader_tagged : Def := runD 4 3 (
    sSeq (sSet 3 (eMeth [(4, re id m_Reader_words)] (none) (eVar 0) (aCons (eVar 1) (aCons (eVar 2) (aNil)))))
    (sSeq (sE (eMeth [(4, re id m_Reader_require)] (none) (eVar 0) (aCons (eCall m_is_address (aCons (e2 ixV (eVar 3) (eC (.int 0))) (aNil))) (aNil))))
    (sSeq (sIf (tV (e2 Cn.eqV (eCall lenV (aCons (eVar 3) (aNil))) (eC (.int 1)))) (sRet (eTup (aCons (e2 ixV (eVar 3) (eC (.int 0))) (aCons (eC (.str [])) (aNil)))))
    (sNil))
    (sSeq (sE (eMeth [(4, re id m_Reader_require)] (none) (eVar 0) (aCons (eCall m_is_tag (aCons (e2 ixV (eVar 3) (eC (.int 1))) (aNil))) (aNil))))
    (sRet (eTup (aCons (e2 ixV (eVar 3) (eC (.int 0))) (aCons (e2 ixV (eVar 3) (eC (.int 1))) (aNil)))))))))
def m_Reader_tag : Def := runD 3 2 (
    sSeq (sSet 2 (e2 ixV (eMeth [(4, re id m_Reader_words)] (none) (eVar 0) (aCons (eVar 1) (aCons (eTup (aCons (eC (.int 1)) (aNil))) (aNil)))) (eC (.int 0))))
    (sSeq (sE (eMeth [(4, re id m_Reader_require)] (none) (eVar 0) (aCons (eCall m_is_tag (aCons (eVar 2) (aNil))) (aNil))))
    (sRet (eVar 2))))
def m_Reader_number : Def := runD 4 3 (
    sSeq (sSet 3 (eCall m_read_number (aCons (e2 ixV (eMeth [(4, re id m_Reader_words)] (none) (eVar 0) (aCons (eVar 1) (aCons (eTup (aCons (eC (.int 1)) (aNil))) (aNil)))) (eC (.int 0))) (aCons (eVar 2) (aNil)))))
    (sSeq (sE (eMeth [(4, re id m_Reader_require)] (none) (eVar 0) (aCons (e1 notNV (eVar 3)) (aNil))))
    (sRet (eVar 3))))
def m_read_head : Def := runD 4 1 (
    sSeq (sIf (tV (eMeth [(4, re id m_Reader_has_next)] (none) (eVar 0) (aCons (eC (.str [114, 101, 112, 108, 121])) (aNil)))) (sSeq (sSet 1 (eMeth [(4, re id m_Reader_words)] (none) (eVar 0) (aCons (eC (.str [114, 101, 112, 108, 121])) (aCons (eTup (aCons (eC (.int 2)) (aNil))) (aNil)))))
    (sSeq (sSet 2 (eCall m_read_number (aCons (e2 ixV (eVar 1) (eC (.int 0))) (aCons (eC (.int 99)) (aNil)))))
    (sSeq (sE (eMeth [(4, re id m_Reader_require)] (none) (eVar 0) (aCons (eAnd (e1 (inC [.int 18, .int 20, .int 41, .int 43, .int 44, .int 45, .int 46, .int 48, .int 50]) (eVar 2)) (e1 (inC [.str [67, 65, 76, 76], .str [75, 69, 69, 80], .str [83, 84, 79, 80], .str [69, 78, 68], .str [84, 85, 82, 78], .str [77, 79, 86, 69], .str [76, 73, 86, 69], .str [83, 73, 71, 78]]) (e2 ixV (eVar 1) (eC (.int 1))))) (aNil))))
    (sRet (eTup (aCons (e2 ixV (eVar 1) (eC (.int 1))) (aCons (eVar 2) (aNil))))))))
    (sNil))
    (sSeq (sSet 3 (e2 ixV (eMeth [(4, re id m_Reader_words)] (none) (eVar 0) (aCons (eC (.str [114, 101, 113, 117, 101, 115, 116])) (aCons (eTup (aCons (eC (.int 1)) (aNil))) (aNil)))) (eC (.int 0))))
    (sSeq (sE (eMeth [(4, re id m_Reader_require)] (none) (eVar 0) (aCons (e1 (inC [.str [67, 65, 76, 76], .str [75, 69, 69, 80], .str [83, 84, 79, 80], .str [69, 78, 68], .str [84, 85, 82, 78], .str [77, 79, 86, 69], .str [76, 73, 86, 69], .str [83, 73, 71, 78]]) (eVar 3)) (aNil))))
    (sRet (eTup (aCons (eVar 3) (aCons (eC .non) (aNil))))))))
def m_read_extras : Def := runD 4 1 (
    sSeq (sSet 1 (eC .non))
    (sSeq (sSet 2 (eC .non))
    (sSeq (sSet 3 (eC .non))
    (sSeq (sIf (tV (eMeth [(4, re id m_Reader_has_next)] (none) (eVar 0) (aCons (eC (.str [111, 102, 102, 101, 114])) (aNil)))) (sSeq (sSet 1 (eCall m_read_offer (aCons (eMeth [(4, re id m_Reader_words)] (none) (eVar 0) (aCons (eC (.str [111, 102, 102, 101, 114])) (aCons (eTup (aCons (eC (.int 3)) (aNil))) (aNil)))) (aNil))))
    (sE (eMeth [(4, re id m_Reader_require)] (none) (eVar 0) (aCons (e1 notNV (eVar 1)) (aNil)))))
    (sNil))
    (sSeq (sIf (tV (eMeth [(4, re id m_Reader_has_next)] (none) (eVar 0) (aCons (eC (.str [115, 116, 97, 121])) (aNil)))) (sSet 2 (eMeth [(4, re id m_Reader_number)] (some 49) (eVar 0) (aCons (eC (.str [115, 116, 97, 121])) (aCons (eC (.int 9999)) (aNil)))))
    (sNil))
    (sSeq (sIf (tV (eMeth [(4, re id m_Reader_has_next)] (none) (eVar 0) (aCons (eC (.str [103, 111, 97, 108])) (aNil)))) (sSeq (sSet 3 (e2 ixV (eMeth [(4, re id m_Reader_words)] (none) (eVar 0) (aCons (eC (.str [103, 111, 97, 108])) (aCons (eTup (aCons (eC (.int 1)) (aNil))) (aNil)))) (eC (.int 0))))
    (sE (eMeth [(4, re id m_Reader_require)] (none) (eVar 0) (aCons (eCall m_is_address (aCons (eVar 3) (aNil))) (aNil)))))
    (sNil))
    (sRet (eTup (aCons (eVar 1) (aCons (eVar 2) (aCons (eVar 3) (aNil))))))))))))
def m_read : Def := runD 14 1 (
    sSeq (sSet 1 (eMake 4 (re id m_Reader_init) (aCons (eVar 0) (aNil))))
    (sSeq (sAsg (eCall m_read_head (aCons (eVar 1) (aNil))) (Cn.gTup 2 (gsCons (gSet 2) (gsCons (gSet 3) (gsNil)))))
    (sSeq (sSet 4 (eMeth [(4, re id m_Reader_tag)] (some 24) (eVar 1) (aCons (eC (.str [99, 97, 108, 108])) (aNil))))
    (sSeq (sAsg (eMeth [(4, re id m_Reader_tagged)] (none) (eVar 1) (aCons (eC (.str [102, 114, 111, 109])) (aCons (eTup (aCons (eC (.int 2)) (aNil))) (aNil)))) (Cn.gTup 2 (gsCons (gSet 5) (gsCons (gSet 6) (gsNil)))))
    (sSeq (sAsg (eMeth [(4, re id m_Reader_tagged)] (none) (eVar 1) (aCons (eC (.str [116, 111])) (aCons (eTup (aCons (eC (.int 1)) (aCons (eC (.int 2)) (aNil)))) (aNil)))) (Cn.gTup 2 (gsCons (gSet 7) (gsCons (gSet 8) (gsNil)))))
    (sSeq (sSet 9 (eMeth [(4, re id m_Reader_number)] (some 49) (eVar 1) (aCons (eC (.str [115, 101, 113])) (aCons (eC (.int 999999)) (aNil)))))
    (sSeq (sSet 10 (eMeth [(4, re id m_Reader_tag)] (some 24) (eVar 1) (aCons (eC (.str [119, 97, 121])) (aNil))))
    (sSeq (sAsg (eCall m_read_extras (aCons (eVar 1) (aNil))) (Cn.gTup 3 (gsCons (gSet 11) (gsCons (gSet 12) (gsCons (gSet 13) (gsNil))))))
    (sSeq (sIf (tV (e2 neV (eSlice (eFld [4] 14 (eVar 1)) (oSome (eFld [4] 0 (eVar 1))) oNone) (eLst (aCons (eC (.str [])) (aNil))))) (sRaiseX 1 0 (e2 addV (eFld [4] 0 (eVar 1)) (eC (.int 1))))
    (sNil))
    (sRet (eMake 3 (re (fun l => gsel [0, 1, 3, 4, 5, 6, 7, 8, 9, 2, 10, 11, 12] (l.take 1) [] (l.drop 1)) m_Letter_init) (aCons (eVar 2) (aCons (eVar 3) (aCons (eVar 4) (aCons (eVar 5) (aCons (eVar 6) (aCons (eVar 7) (aCons (eVar 8) (aCons (eVar 9) (aCons (eVar 10) (aCons (eVar 11) (aCons (eVar 12) (aCons (eVar 13) (aNil))))))))))))))))))))))))
end Mir
set_option Elab.async false
set_option maxRecDepth 100000
set_option linter.all false
namespace Cn
open Dw
theorem beq_dec (i j : List Nat) : (i == j) = decide (i = j) := by by_cases e : i = j <;> simp [e]
variable {E : EX} {ES : CS → EX} {h : CH} {α : Type}
@[simp] theorem z_add (i j : Int) : addV (.int i) (.int j) h = .ok (.int (i + j)) h := rfl
@[simp] theorem z_sub (i j : Int) : subV (.int i) (.int j) h = .ok (.int (i - j)) h := rfl
@[simp] theorem z_mul (i j : Int) (p : -18446744073709551616 < j ∧ j < 18446744073709551616) : mulV (.int i) (.int j) h = .ok (.int (i * j)) h := if_pos (.inr p)
theorem z_mul' (i j : Int) (p : -18446744073709551616 < i ∧ i < 18446744073709551616) : mulV (.int i) (.int j) h = .ok (.int (i * j)) h := if_pos (.inl p)
@[simp] theorem z_div (i : Int) {j : Int} (p : 0 < j) (p2 : j < 1073741824) : fdivV (.int i) (.int j) h = .ok (.int (i / j)) h := if_pos ⟨p, p2⟩
@[simp] theorem z_mod (i : Int) {j : Int} (p : 0 < j) : modV (.int i) (.int j) h = .ok (.int (i % j)) h := if_pos p
@[simp] theorem z_neg (i : Int) : negV (.int i) h = .ok (.int (-i)) h := rfl
@[simp] theorem z_lt (i j : Int) : ltV (.int i) (.int j) h = .ok (.bl (decide (i < j))) h := rfl
@[simp] theorem z_le (i j : Int) : leV (.int i) (.int j) h = .ok (.bl (decide (i ≤ j))) h := rfl
@[simp] theorem z_gt (i j : Int) : gtV (.int i) (.int j) h = .ok (.bl (decide (j < i))) h := rfl
@[simp] theorem z_ge (i j : Int) : geV (.int i) (.int j) h = .ok (.bl (decide (j ≤ i))) h := rfl
@[simp] theorem z_adds (a b : List Nat) (l : a.length + b.length ≤ 16777216) : addV (.str a) (.str b) h = .ok (.str (a ++ b)) h := if_pos l
@[simp] theorem z_eqi (i j : Int) : eqV (.int i) (.int j) h = .ok (.bl (decide (i = j))) h := by simp [eqV, dataC, eqD]; rfl
@[simp] theorem z_eqs (i j : List Nat) : eqV (.str i) (.str j) h = .ok (.bl (decide (i = j))) h := by simp [eqV, dataC, eqD, beq_dec]
@[simp] theorem z_eqb (i j : Bool) : eqV (.bl i) (.bl j) h = .ok (.bl (decide (i = j))) h := by simp [eqV, dataC, eqD]; rfl
@[simp] theorem z_eqnn : eqV .non .non h = .ok (.bl true) h := by simp [eqV, dataC, eqD]
@[simp] theorem z_eqni (j : Int) : eqV .non (.int j) h = .ok (.bl false) h := by simp [eqV, dataC, eqD]
@[simp] theorem z_eqin (j : Int) : eqV (.int j) .non h = .ok (.bl false) h := by simp [eqV, dataC, eqD]
@[simp] theorem z_eqns (j : List Nat) : eqV .non (.str j) h = .ok (.bl false) h := by simp [eqV, dataC, eqD]
@[simp] theorem z_eqsn (j : List Nat) : eqV (.str j) .non h = .ok (.bl false) h := by simp [eqV, dataC, eqD]
@[simp] theorem z_eqis (i : Int) (j : List Nat) : eqV (.int i) (.str j) h = .ok (.bl false) h := by simp [eqV, dataC, eqD]
@[simp] theorem z_eqsi (i : Int) (j : List Nat) : eqV (.str j) (.int i) h = .ok (.bl false) h := by simp [eqV, dataC, eqD]
@[simp] theorem z_nei (i j : Int) : neV (.int i) (.int j) h = .ok (.bl (!decide (i = j))) h := by simp [neV, dataC, eqD]; rfl
@[simp] theorem z_nes (i j : List Nat) : neV (.str i) (.str j) h = .ok (.bl (!decide (i = j))) h := by simp [neV, dataC, eqD, beq_dec]
@[simp] theorem z_neb (i j : Bool) : neV (.bl i) (.bl j) h = .ok (.bl (!decide (i = j))) h := by simp [neV, dataC, eqD]; rfl
@[simp] theorem z_nenn : neV .non .non h = .ok (.bl false) h := by simp [neV, dataC, eqD]
@[simp] theorem z_neni (j : Int) : neV .non (.int j) h = .ok (.bl true) h := by simp [neV, dataC, eqD]
@[simp] theorem z_nein (j : Int) : neV (.int j) .non h = .ok (.bl true) h := by simp [neV, dataC, eqD]
@[simp] theorem z_nens (j : List Nat) : neV .non (.str j) h = .ok (.bl true) h := by simp [neV, dataC, eqD]
@[simp] theorem z_nesn (j : List Nat) : neV (.str j) .non h = .ok (.bl true) h := by simp [neV, dataC, eqD]
@[simp] theorem z_isN : isNV .non h = .ok (.bl true) h := rfl
@[simp] theorem z_isNi (i) : isNV (.int i) h = .ok (.bl false) h := rfl
@[simp] theorem z_isNs (i) : isNV (.str i) h = .ok (.bl false) h := rfl
@[simp] theorem z_isNr (i) : isNV (.ref i) h = .ok (.bl false) h := rfl
@[simp] theorem z_isNt (i) : isNV (.tup i) h = .ok (.bl false) h := rfl
@[simp] theorem z_notN : notNV .non h = .ok (.bl false) h := rfl
@[simp] theorem z_notNi (i) : notNV (.int i) h = .ok (.bl true) h := rfl
@[simp] theorem z_notNs (i) : notNV (.str i) h = .ok (.bl true) h := rfl
@[simp] theorem z_notNr (i) : notNV (.ref i) h = .ok (.bl true) h := rfl
@[simp] theorem z_notNt (i) : notNV (.tup i) h = .ok (.bl true) h := rfl
@[simp] theorem z_in (c : Nat) (z : List Nat) : inV (.str [c]) (.str z) h = .ok (.bl (decide (c ∈ z))) h := rfl
@[simp] theorem z_nin (c : Nat) (z : List Nat) : ninV (.str [c]) (.str z) h = .ok (.bl (!decide (c ∈ z))) h := rfl
@[simp] theorem z_lens (z : List Nat) (l : z.length ≤ 16777216) : lenV [.str z] h = .ok (.int z.length) h := if_pos l
@[simp] theorem z_lent (z : List CV) : lenV [.tup z] h = .ok (.int z.length) h := rfl
@[simp] theorem z_abs (i : Int) : absV [.int i] h = .ok (.int (if i < 0 then -i else i)) h := rfl
@[simp] theorem z_str (i : Int) (p : 0 ≤ i) (p2 : i < 1000000000000000000000000000000) : strV [.int i] h = .ok (.str (numC i.toNat)) h := if_pos ⟨p, p2⟩
@[simp] theorem z_inti (i : Int) : intV [.int i] h = .ok (.int i) h := rfl
@[simp] theorem z_isi_b (k : Nat) (b : Bool) : isiV k (.bl b) h = .ok (.bl (1 == k)) h := rfl
@[simp] theorem z_isi_i (k : Nat) (b : Int) : isiV k (.int b) h = .ok (.bl (2 == k)) h := rfl
@[simp] theorem z_isi_s (k : Nat) (b : List Nat) : isiV k (.str b) h = .ok (.bl (3 == k)) h := rfl
@[simp] theorem z_isi_n (k : Nat) : isiV k .non h = .ok (.bl (0 == k)) h := rfl
@[simp] theorem z_isi_t (k : Nat) (b : List CV) : isiV k (.tup b) h = .ok (.bl (4 == k)) h := rfl
@[simp] theorem z_kind_s (b : List Nat) : kindC (.str b) h = 3 := rfl
@[simp] theorem z_slice_to {w : List Nat} {n : Int} (l : w.length ≤ 16777216) (l0 : 0 ≤ n) (l2 : n ≤ w.length) : sliceV (.str w) none (some n) h = .ok (.str (w.take n.toNat)) h := by
  have := slice_to (h := h) (w := w) (n := n.toNat) l (by omega)
  rw [Int.toNat_of_nonneg l0] at this
  exact this
@[simp] theorem z_slice_from {w : List Nat} {n : Int} (l : w.length ≤ 16777216) (l0 : 0 ≤ n) : sliceV (.str w) (some n) none h = .ok (.str (w.drop n.toNat)) h := by
  have := slice_from (h := h) (w := w) (n := n.toNat) l
  rw [Int.toNat_of_nonneg l0] at this
  exact this
@[simp] theorem z_index {w : List Nat} {c : Nat} (l : w.length ≤ 16777216) (m : c ∈ w) : indexV [.str w, .str [c]] h = .ok (.int (w.idxOf c)) h := if_pos ⟨l, m⟩
@[simp] theorem z_ix0 {z : List Nat} {c : Nat} (l : (c :: z).length ≤ 16777216) : ixV (.str (c :: z)) (.int 0) h = .ok (.str [c]) h := ix_str0 rfl l
@[simp] theorem z_part {w : List Nat} {c : Nat} (l : w.length ≤ 16777216) (k : c < 256) : partitionV [.str w, .str [c]] h = .ok (if c ∈ w then .tup [.str (w.take (w.idxOf c)), .str [c], .str (w.drop (w.idxOf c + 1))] else .tup [.str w, .str [], .str []]) h := by
  simp only [partitionV]
  rw [if_pos ⟨l, k⟩, part_idx]
  by_cases m : c ∈ w
  · rw [if_pos m, if_pos m]
  · rw [if_neg m, if_neg m]
@[simp] theorem ite_cv {p : Prop} [Decidable p] (a b : Bool) : (if p then CV.bl a else CV.bl b) = CV.bl (if p then a else b) := by split <;> rfl
@[simp] theorem LINE_eq : LINE = 16777216 := rfl
section
variable {E : EX} {ES : CS → EX} {s : CS} {Q : CV → CH → Prop}
def AsB (x : CV) (Q : Bool → Prop) : Prop := match x with
  | .bl b => Q b
  | _ => False
def AsI (x : CV) (Q : Int → Prop) : Prop := match x with
  | .int b => Q b
  | _ => False
@[simp] theorem AsB_bl (b : Bool) (Q : Bool → Prop) : AsB (.bl b) Q = Q b := rfl
@[simp] theorem AsI_int (b : Int) (Q : Int → Prop) : AsI (.int b) Q = Q b := rfl
@[simp] theorem w_var0 (c : CV) : OkE E (eVar 0 (some c :: s) h) Q = Q c h := by rw [Ok_eVar]; simp
@[simp] theorem w_varS (i : Nat) (c : Option CV) : OkE E (eVar (i + 1) (c :: s) h) Q = OkE E (eVar i s h) Q := by simp [Ok_eVar]
@[simp] theorem w_oSome (a) {Q : Option Int → CH → Prop} : OkE E (oSome a s h) Q = OkE E (a s h) fun x h1 => AsI x fun i => Q (some i) h1 := by
  rw [Ok_oSome]
  congr 1; funext x h1
  cases x <;> simp [AsI]
@[simp] theorem w_tV (a) {Q : Bool → CH → Prop} : OkE E (tV a s h) Q = OkE E (a s h) fun x h1 => AsB x fun b => Q b h1 := by
  rw [Ok_tV]
  congr 1; funext x h1
  cases x <;> simp [AsB]
@[simp] theorem w_tAnd (a b) {Q : Bool → CH → Prop} : OkE E (tAnd a b s h) Q = OkE E (a s h) fun k h1 => if k = true then OkE E (b s h1) Q else Q false h1 := Ok_tAnd ..
@[simp] theorem w_tOr (a b) {Q : Bool → CH → Prop} : OkE E (tOr a b s h) Q = OkE E (a s h) fun k h1 => if k = true then Q true h1 else OkE E (b s h1) Q := Ok_tOr ..
@[simp] theorem w_eIf (t a b) : OkE E (eIf t a b s h) Q = OkE E (t s h) fun k h1 => if k = true then OkE E (a s h1) Q else OkE E (b s h1) Q := Ok_eIf ..
@[simp] theorem w_eAnd (a b) : OkE E (eAnd a b s h) Q = OkE E (a s h) fun x h1 => AsB x fun k => if k = true then OkE E (b s h1) Q else Q (.bl false) h1 := by
  rw [Ok_eAnd]
  congr 1; funext x h1
  cases x with
  | bl k => cases k <;> simp [AsB]
  | _ => simp [AsB]
@[simp] theorem w_eOr (a b) : OkE E (eOr a b s h) Q = OkE E (a s h) fun x h1 => AsB x fun k => if k = true then Q (.bl true) h1 else OkE E (b s h1) Q := by
  rw [Ok_eOr]
  congr 1; funext x h1
  cases x with
  | bl k => cases k <;> simp [AsB]
  | _ => simp [AsB]
@[simp] theorem w_eNot (a) : OkE E (eNot a s h) Q = OkE E (a s h) fun x h1 => AsB x fun k => Q (.bl !k) h1 := by
  rw [Ok_eNot]
  congr 1; funext x h1
  cases x <;> simp [AsB]
@[simp] theorem w_eChain (f g a b c) : OkE E (eChain f g a b c s h) Q = OkE E (a s h) fun x h1 => OkE E (b s h1) fun y h2 => OkE E (f x y h2) fun z h3 => AsB z fun k => if k = true then OkE E (c s h3) fun w h4 => OkE E (g y w h4) Q else Q (.bl false) h3 := by
  rw [Ok_eChain]
  congr 1; funext x h1; congr 1; funext y h2; congr 1; funext z h3
  cases z with
  | bl k => cases k <;> simp [AsB]
  | _ => simp [AsB]
def AsP (x : Option (CS × CH)) (N : CS → CH → Prop) : Prop := match x with
  | some (s, h) => N s h
  | none => False
@[simp] theorem AsP_some (s : CS) (h : CH) (N : CS → CH → Prop) : AsP (some (s, h)) N = N s h := rfl
@[simp] theorem AsP_none (N : CS → CH → Prop) : AsP none N = False := rfl
section
variable {N C : CS → CH → Prop} {R : CV → CH → Prop}
@[simp] theorem w_sAsg (a g) : SkE ES (sAsg a g s h) N C R = OkE (ES s) (a s h) fun x h1 => AsP (g x s h1) N := by
  simp only [sAsg, Sk_rBind]
  congr 1; funext k h1
  cases e : g k s h1 with
  | none => exact Sk_bad
  | some p => exact Sk_nx ..
@[simp] theorem w_gSet (i : Nat) (v : CV) : gSet i v s h = some (s.set i (some v), h) := rfl
@[simp] theorem w_gsNil : gsNil [] s h = some (s, h) := rfl
@[simp] theorem w_gsCons' (i : Nat) (r : MGs) (v : CV) (vs : List CV) : gsCons (gSet i) r (v :: vs) s h = r vs (s.set i (some v)) h := rfl
@[simp] theorem w_gTup (n : Nat) (g : MGs) (xs : List CV) : gTup n g (.tup xs) s h = if xs.length = n then g xs s h else none := rfl
theorem Sk_seq {a b : MS} (I : CS → CH → Prop) (ha : SkE ES (a s h) I C R) (hb : ∀ s1 h1, I s1 h1 → SkE ES (b s1 h1) N C R) : SkE ES (sSeq a b s h) N C R := by
  rw [Sk_sSeq]
  exact ha.mono hb (fun _ _ z => z) fun _ _ z => z
end
end
end Cn
set_option Elab.async false
set_option maxRecDepth 100000
set_option linter.all false
namespace Cn
open Dw
variable {E : EX} {ES : CS → EX} {h : CH} {s : CS} {Q : CV → CH → Prop}
@[irreducible] def CH.at (h : CH) (r : Nat) : Option CO := h.os[r]?
theorem at_os (h : CH) (r : Nat) : h.at r = h.os[r]? := by unfold CH.at; rfl
@[simp high] theorem os_at (h : CH) (r : Nat) : h.os[r]? = h.at r := (at_os h r).symm
theorem at_lt {r : Nat} {o : CO} (e : h.at r = some o) : r < h.os.length := get_lt (by rw [os_at]; exact e)
theorem new_lt {o : CO} {k : Nat} (l : k < h.os.length) : (h.new o).at k = h.at k := by
  rw [at_os, at_os]
  show (h.os ++ [o])[k]? = _
  rw [List.getElem?_append_left l]
theorem new_eq {o : CO} {k : Nat} (l : k = h.os.length) : (h.new o).at k = some o := by subst l; rw [at_os]; exact get_self
theorem set_eq {o : CO} {k m : Nat} (e : k = m) (l : m < h.os.length) : (h.set m o).at k = some o := by
  subst e
  rw [at_os]
  show (h.os.set k o)[k]? = _
  rw [List.getElem?_set_self l]
theorem set_ne {o : CO} {k m : Nat} (e : k ≠ m) : (h.set m o).at k = h.at k := by rw [at_os, at_os]; exact get_ne e
@[simp] theorem len_new' {o : CO} : (h.new o).os.length = h.os.length + 1 := len_new
@[simp] theorem len_set' {o : CO} {m : Nat} : (h.set m o).os.length = h.os.length := len_set
@[simp] theorem sc_new {o : CO} : (h.new o).sc = h.sc := rfl
@[simp] theorem sc_set {o : CO} {m : Nat} : (h.set m o).sc = h.sc := rfl
def AsO {α : Type} (x : Option α) (Q : α → Prop) : Prop := match x with
  | some v => Q v
  | none => False
@[simp] theorem AsO_some {α : Type} (v : α) (Q : α → Prop) : AsO (some v) Q = Q v := rfl
@[simp] theorem w_eFld (cs k a) : OkE E (eFld cs k a s h) Q = OkE E (a s h) fun x h1 => AsO (getF cs k x h1) fun v => Q v h1 := by
  simp only [eFld, Ok_bind]
  congr 1; funext x h1
  cases getF cs k x h1 <;> simp [AsO]
@[simp] theorem w_sFld (cs k o v) {N C : CS → CH → Prop} {R : CV → CH → Prop} : SkE ES (sFld cs k o v s h) N C R = OkE (ES s) (v s h) fun y h1 => OkE (ES s) (o s h1) fun x h2 => AsO (setF cs k y x h2) fun h3 => N s h3 := by
  simp only [sFld, Sk_rBind]
  congr 1; funext y h1; congr 1; funext x h2
  cases setF cs k y x h2 <;> simp [AsO]
@[simp] theorem w_sSetIx (v o i) {N C : CS → CH → Prop} {R : CV → CH → Prop} : SkE ES (sSetIx v o i s h) N C R = OkE (ES s) (v s h) fun x h1 => OkE (ES s) (o s h1) fun y h2 => OkE (ES s) (i s h2) fun z h3 => AsO (setIxV y z x h3) fun h4 => N s h4 := by
  simp only [sSetIx, Sk_rBind]
  congr 1; funext x h1; congr 1; funext y h2; congr 1; funext z h3
  cases setIxV y z x h3 <;> simp [AsO]
@[simp] theorem w_eMeth (tb nf o as) : OkE E (eMeth tb nf o as s h) Q = OkE E (o s h) fun x h1 => AsO (methC tb nf x h1) fun f => OkE E (as s h1) fun xs h2 => OkE E (f (x :: xs) h2) Q := by
  simp only [eMeth, Ok_bind]
  congr 1; funext x h1
  cases methC tb nf x h1 <;> simp [AsO]
@[simp] theorem w_aApp (a b) {Q : List CV → CH → Prop} : OkE E (aApp a b s h) Q = OkE E (a s h) fun xs h1 => OkE E (b s h1) fun ys h2 => Q (xs ++ ys) h2 := by simp [aApp]
@[simp] theorem w_eMake (c f as) : OkE E (eMake c f as s h) Q = OkE E (as s h) fun xs h1 => OkE E (f (.ref h1.os.length :: xs) (h1.new (.ins c []))) fun r h2 => r = .non ∧ Q (.ref h1.os.length) h2 := by
  simp only [eMake, Ok_eCall, mkC, Ok_bind]
  congr 1; funext xs h1; congr 1; funext r h2
  cases r <;> simp
theorem getF_at' {cs : List Nat} {k r c : Nat} {fs : List (Nat × CV)} (e : h.at r = some (.ins c fs)) : getF cs k (.ref r) h = if c ∈ cs then lookC k fs else none := by simp [getF, insC, e]
theorem setF_at' {cs : List Nat} {k r c : Nat} {fs : List (Nat × CV)} {v : CV} (e : h.at r = some (.ins c fs)) : setF cs k v (.ref r) h = if c ∈ cs ∧ fs.length < 800 then some (h.set r (.ins c (putC k v fs))) else none := by simp [setF, insC, e]
theorem methC_at {tb : List (Nat × Def)} {nf : Option Nat} {r c : Nat} {fs : List (Nat × CV)} (e : h.at r = some (.ins c fs)) : methC tb nf (.ref r) h = if hasF nf fs then none else lookD c tb := by
  simp only [methC, insC, os_at, e]
theorem app_at {r : Nat} {xs : List CV} {v : CV} (e : h.at r = some (.lst xs)) (l : xs.length < 16777216) : appendV [.ref r, v] h = .ok .non (h.set r (.lst (xs ++ [v]))) := by
  simp only [appendV, os_at, e]
  exact if_pos l
theorem new_set {o o' : CO} {k : Nat} (e : k = h.os.length) : (h.new o).set k o' = h.new o' := by
  subst e
  simp [CH.set, CH.new]
theorem seq_lst {r : Nat} {xs : List CV} (e : h.at r = some (.lst xs)) : seqOf h (.ref r) = some xs := by simp [seqOf, lstOf, e]
theorem ev_defH {n k : Nat} {b : MS} {vs : List CV} {v : CV} {h' : CH} (hl : vs.length = k) (o : SkE (fun _ => NoX) (b (vs.map some ++ List.replicate (n - vs.length) none) h) (fun _ h1 => CV.non = v ∧ h1 = h') (fun _ _ => False) fun x h1 => x = v ∧ h1 = h') : runD n k b vs h = .ok v h' := by
  have z := Ok_runD n k b vs (Q := fun x h1 => x = v ∧ h1 = h') hl o
  rw [Ok_iff] at z
  obtain ⟨a, h1, e, rfl, rfl⟩ := z
  exact e
@[simp] theorem re_id (m : Def) (cs : List CV) (h : CH) : re id m cs h = m cs h := rfl
end Cn
set_option Elab.async false
set_option maxRecDepth 100000
set_option linter.all false
namespace Cn
open Dw
variable {E : EX} {ES : CS → EX} {h : CH} {s : CS} {Q : CV → CH → Prop} {N C : CS → CH → Prop} {R : CV → CH → Prop} {α : Type}
theorem k_nil (o : N s h) : SkE ES (sNil s h) N C R := by rw [Sk_sNil]; exact o
theorem k_cont (o : C s h) : SkE ES (sCont s h) N C R := by rw [Sk_sCont]; exact o
theorem k_retN (o : R .non h) : SkE ES (sRetN s h) N C R := by rw [Sk_sRetN]; exact o
theorem k_set {i a} (o : OkE (ES s) (a s h) fun x h1 => N (s.set i (some x)) h1) : SkE ES (sSet i a s h) N C R := by rw [Sk_sSet]; exact o
theorem k_ret {a} (o : OkE (ES s) (a s h) R) : SkE ES (sRet a s h) N C R := by rw [Sk_sRet]; exact o
theorem k_e {a} (o : OkE (ES s) (a s h) fun _ h1 => N s h1) : SkE ES (sE a s h) N C R := by rw [Sk_sE]; exact o
theorem k_if {t a b} (o : OkE (ES s) (t s h) fun k h1 => if k = true then SkE ES (a s h1) N C R else SkE ES (b s h1) N C R) : SkE ES (sIf t a b s h) N C R := by rw [Sk_sIf]; exact o
theorem k_asg {a g} (o : OkE (ES s) (a s h) fun x h1 => AsP (g x s h1) N) : SkE ES (sAsg a g s h) N C R := by rw [w_sAsg]; exact o
theorem k_fld {cs k o v} (q : OkE (ES s) (v s h) fun y h1 => OkE (ES s) (o s h1) fun x h2 => AsO (setF cs k y x h2) fun h3 => N s h3) : SkE ES (sFld cs k o v s h) N C R := by rw [w_sFld]; exact q
theorem k_ix {v o i} (q : OkE (ES s) (v s h) fun x h1 => OkE (ES s) (o s h1) fun y h2 => OkE (ES s) (i s h2) fun z h3 => AsO (setIxV y z x h3) fun h4 => N s h4) : SkE ES (sSetIx v o i s h) N C R := by rw [w_sSetIx]; exact q
theorem k_var {i} {c : CV} (e : s[i]? = some (some c)) (o : Q c h) : OkE E (eVar i s h) Q := by rw [Ok_eVar]; exact ⟨c, e, o⟩
theorem k_c {c : CV} (o : Q c h) : OkE E (eC c s h) Q := by rw [Ok_eC]; exact o
theorem k_e1 {f a} (o : OkE E (a s h) fun x h1 => OkE E (f x h1) Q) : OkE E (e1 f a s h) Q := by rw [Ok_e1]; exact o
theorem k_e2 {f a b} (o : OkE E (a s h) fun x h1 => OkE E (b s h1) fun y h2 => OkE E (f x y h2) Q) : OkE E (e2 f a b s h) Q := by rw [Ok_e2]; exact o
theorem k_anil {Q : List CV → CH → Prop} (o : Q [] h) : OkE E (aNil s h) Q := by rw [Ok_aNil]; exact o
theorem k_acons {a r} {Q : List CV → CH → Prop} (o : OkE E (a s h) fun x h1 => OkE E (r s h1) fun xs h2 => Q (x :: xs) h2) : OkE E (aCons a r s h) Q := by rw [Ok_aCons]; exact o
theorem k_aapp {a b} {Q : List CV → CH → Prop} (o : OkE E (a s h) fun xs h1 => OkE E (b s h1) fun ys h2 => Q (xs ++ ys) h2) : OkE E (aApp a b s h) Q := by rw [w_aApp]; exact o
theorem k_call {f as} (o : OkE E (as s h) fun xs h1 => OkE E (f xs h1) Q) : OkE E (eCall f as s h) Q := by rw [Ok_eCall]; exact o
theorem k_bm {k f o as} (q : OkE E (o s h) fun x h1 => kindC x h1 = k ∧ OkE E (as s h1) fun xs h2 => OkE E (f (x :: xs) h2) Q) : OkE E (eBM k f o as s h) Q := by rw [Ok_eBM]; exact q
theorem k_tup {as} (q : OkE E (as s h) fun xs h1 => xs.length ≤ LINE ∧ Q (.tup xs) h1) : OkE E (eTup as s h) Q := by rw [Ok_eTup]; exact q
theorem k_lst {as} (q : OkE E (as s h) fun xs h1 => xs.length ≤ LINE ∧ Q (.ref h1.os.length) (h1.new (.lst xs))) : OkE E (eLst as s h) Q := by rw [Ok_eLst]; exact q
theorem k_onone {Q : Option Int → CH → Prop} (o : Q none h) : OkE E (oNone s h) Q := by rw [Ok_oNone]; exact o
theorem k_osome {a} {Q : Option Int → CH → Prop} (o : OkE E (a s h) fun x h1 => AsI x fun i => Q (some i) h1) : OkE E (oSome a s h) Q := by rw [w_oSome]; exact o
theorem k_slice {a lo hi} (o : OkE E (a s h) fun x h1 => OkE E (lo s h1) fun l h2 => OkE E (hi s h2) fun u h3 => OkE E (sliceV x l u h3) Q) : OkE E (eSlice a lo hi s h) Q := by rw [Ok_eSlice]; exact o
theorem k_tv {a} {Q : Bool → CH → Prop} (o : OkE E (a s h) fun x h1 => AsB x fun b => Q b h1) : OkE E (tV a s h) Q := by rw [w_tV]; exact o
theorem k_tand {a b} {Q : Bool → CH → Prop} (o : OkE E (a s h) fun k h1 => if k = true then OkE E (b s h1) Q else Q false h1) : OkE E (tAnd a b s h) Q := by rw [w_tAnd]; exact o
theorem k_tor {a b} {Q : Bool → CH → Prop} (o : OkE E (a s h) fun k h1 => if k = true then Q true h1 else OkE E (b s h1) Q) : OkE E (tOr a b s h) Q := by rw [w_tOr]; exact o
theorem k_tnot {a} {Q : Bool → CH → Prop} (o : OkE E (a s h) fun k h1 => Q (!k) h1) : OkE E (tNot a s h) Q := by rw [Ok_tNot]; exact o
theorem k_eif {t a b} (o : OkE E (t s h) fun k h1 => if k = true then OkE E (a s h1) Q else OkE E (b s h1) Q) : OkE E (eIf t a b s h) Q := by rw [w_eIf]; exact o
theorem k_eand {a b} (o : OkE E (a s h) fun x h1 => AsB x fun k => if k = true then OkE E (b s h1) Q else Q (.bl false) h1) : OkE E (eAnd a b s h) Q := by rw [w_eAnd]; exact o
theorem k_eor {a b} (o : OkE E (a s h) fun x h1 => AsB x fun k => if k = true then Q (.bl true) h1 else OkE E (b s h1) Q) : OkE E (eOr a b s h) Q := by rw [w_eOr]; exact o
theorem k_enot {a} (o : OkE E (a s h) fun x h1 => AsB x fun k => Q (.bl !k) h1) : OkE E (eNot a s h) Q := by rw [w_eNot]; exact o
theorem k_chain {f g a b c} (o : OkE E (a s h) fun x h1 => OkE E (b s h1) fun y h2 => OkE E (f x y h2) fun z h3 => AsB z fun k => if k = true then OkE E (c s h3) fun w h4 => OkE E (g y w h4) Q else Q (.bl false) h3) : OkE E (eChain f g a b c s h) Q := by rw [w_eChain]; exact o
theorem k_efld {cs k a} (o : OkE E (a s h) fun x h1 => AsO (getF cs k x h1) fun v => Q v h1) : OkE E (eFld cs k a s h) Q := by rw [w_eFld]; exact o
theorem k_meth {tb nf o as} (q : OkE E (o s h) fun x h1 => AsO (methC tb nf x h1) fun f => OkE E (as s h1) fun xs h2 => OkE E (f (x :: xs) h2) Q) : OkE E (eMeth tb nf o as s h) Q := by rw [w_eMeth]; exact q
theorem k_make {c f as} (q : OkE E (as s h) fun xs h1 => OkE E (f (.ref h1.os.length :: xs) (h1.new (.ins c []))) fun r h2 => r = .non ∧ Q (.ref h1.os.length) h2) : OkE E (eMake c f as s h) Q := by rw [w_eMake]; exact q
theorem k_asb {b : Bool} {Q : Bool → Prop} (o : Q b) : AsB (.bl b) Q := o
theorem k_asi {b : Int} {Q : Int → Prop} (o : Q b) : AsI (.int b) Q := o
theorem k_aso {x : Option α} {v : α} {Q : α → Prop} (e : x = some v) (o : Q v) : AsO x Q := by rw [e]; exact o
theorem k_asp {x : Option (CS × CH)} {s1 : CS} {h1 : CH} (e : x = some (s1, h1)) (o : N s1 h1) : AsP x N := by rw [e]; exact o
theorem k_re {g m cs} (o : OkE E (m (g cs) h) Q) : OkE E (re g m cs h) Q := o
theorem at_new_lt {o o' : CO} {k : Nat} (e : h.at k = some o) : (h.new o').at k = some o := by rw [new_lt (at_lt e)]; exact e
theorem at_new_eq {o : CO} {k : Nat} (e : k = h.os.length) : (h.new o).at k = some o := new_eq e
theorem at_set_ne {o o' : CO} {k m : Nat} (ne : k ≠ m) (e : h.at k = some o) : (h.set m o').at k = some o := by rw [set_ne ne]; exact e
theorem at_set_eq {o o' : CO} {k : Nat} (e : h.at k = some o) : (h.set k o').at k = some o' := set_eq rfl (at_lt e)
theorem k_getF {cs : List Nat} {k r c : Nat} {fs : List (Nat × CV)} {v : CV} {Q : CV → Prop} (e : h.at r = some (.ins c fs)) (hc : decide (c ∈ cs) = true) (l : lookC k fs = some v) (o : Q v) : AsO (getF cs k (.ref r) h) Q := by
  rw [getF_at' e, if_pos (of_decide_eq_true hc), l]; exact o
theorem k_setF {cs : List Nat} {k r c : Nat} {fs fs' : List (Nat × CV)} {v : CV} {Q : CH → Prop} (e : h.at r = some (.ins c fs)) (hc : (decide (c ∈ cs) && decide (fs.length < 800)) = true) (l : putC k v fs = fs') (o : Q (h.set r (.ins c fs'))) : AsO (setF cs k v (.ref r) h) Q := by
  have hc := Bool.and_eq_true_iff.mp hc
  rw [setF_at' e, if_pos ⟨of_decide_eq_true hc.1, of_decide_eq_true hc.2⟩, l]; exact o
theorem k_methC {tb : List (Nat × Def)} {nf : Option Nat} {r c : Nat} {fs : List (Nat × CV)} {f : Def} {Q : Def → Prop} (e : h.at r = some (.ins c fs)) (hn : hasF nf fs = false) (l : lookD c tb = some f) (o : Q f) : AsO (methC tb nf (.ref r) h) Q := by
  rw [methC_at e, if_neg (by rw [hn]; simp), l]; exact o
theorem k_ixl {r i : Nat} {xs : List CV} {v : CV} (e : h.at r = some (.lst xs)) (g : xs[i]? = some v) (o : Q v h) : OkE E (ixV (.ref r) (.int (i : Nat)) h) Q := Ok.eq (ix_lst (by rw [os_at]; exact e) g) o
theorem k_ixln {r : Nat} {i : Int} {xs : List CV} {v : CV} (e : h.at r = some (.lst xs)) (hi : 0 ≤ i) (g : xs[i.toNat]? = some v) (o : Q v h) : OkE E (ixV (.ref r) (.int i) h) Q := by
  have := k_ixl (E := E) (Q := Q) (i := i.toNat) e g o
  rw [Int.toNat_of_nonneg hi] at this
  exact this
theorem k_setl {r : Nat} {i : Int} {xs ys : List CV} {v : CV} {Q : CH → Prop} (e : h.at r = some (.lst xs)) (hi : 0 ≤ i) (l : i.toNat < xs.length) (g : xs.set i.toNat v = ys) (o : Q (h.set r (.lst ys))) : AsO (setIxV (.ref r) (.int i) v h) Q := by
  have := setIx_lst (v := v) (by rw [os_at]; exact e) l
  rw [Int.toNat_of_nonneg hi] at this
  rw [this, g]; exact o
theorem k_app {r : Nat} {xs : List CV} {v : CV} (e : h.at r = some (.lst xs)) (l : xs.length < 16777216) (o : Q .non (h.set r (.lst (xs ++ [v])))) : OkE E (appendV [.ref r, v] h) Q := Ok.eq (app_at e l) o
theorem k_lenl {r : Nat} {xs : List CV} (e : h.at r = some (.lst xs)) (o : Q (.int xs.length) h) : OkE E (lenV [.ref r] h) Q := Ok.eq (len_lst (by rw [os_at]; exact e)) o
theorem k_kind {r : Nat} {xs : List CV} {P : Prop} (e : h.at r = some (.lst xs)) (o : P) : kindC (.ref r) h = 5 ∧ P := ⟨kind_lst (by rw [os_at]; exact e), o⟩
theorem k_kinds {z : List Nat} {P : Prop} (o : P) : kindC (.str z) h = 3 ∧ P := ⟨rfl, o⟩
theorem k_le {n : Nat} {P : Prop} (l : n ≤ 16777216) (o : P) : n ≤ LINE ∧ P := ⟨l, o⟩
theorem k_min {i j : Int} (o : Q (.int (if j < i then j else i)) h) : OkE E (minV [.int i, .int j] h) Q := Ok.eq rfl o
theorem in_tup (x : CV) (ys : List CV) : inB x (.tup ys) h = if flatC x && ys.all flatC then some (ys.any fun y => eqF y x) else none := by
  cases x with
  | str z => cases z with
    | nil => rfl
    | cons a z => cases z <;> rfl
  | _ => rfl
theorem in_lst {r : Nat} {ys : List CV} (e : h.at r = some (.lst ys)) (x : CV) : inB x (.ref r) h = if flatC x && ys.all flatC then some (ys.any fun y => eqF y x) else none := by
  have q := seq_lst e
  cases x with
  | str z => cases z with
    | nil => simp [inB, q]
    | cons a z => cases z <;> simp [inB, q]
  | _ => simp [inB, q]
theorem k_int {x : CV} {ys : List CV} (f : (flatC x && ys.all flatC) = true) (o : Q (.bl (ys.any fun y => eqF y x)) h) : OkE E (Cn.inV x (.tup ys) h) Q := Ok.eq (a := .bl (ys.any fun y => eqF y x)) (h := h) (by unfold Cn.inV; rw [in_tup, if_pos f]) o
theorem k_nint {x : CV} {ys : List CV} (f : (flatC x && ys.all flatC) = true) (o : Q (.bl (!ys.any fun y => eqF y x)) h) : OkE E (ninV x (.tup ys) h) Q := Ok.eq (a := .bl (!ys.any fun y => eqF y x)) (h := h) (by unfold ninV; rw [in_tup, if_pos f]) o
theorem k_inl {r : Nat} {x : CV} {ys : List CV} (e : h.at r = some (.lst ys)) (f : (flatC x && ys.all flatC) = true) (o : Q (.bl (ys.any fun y => eqF y x)) h) : OkE E (Cn.inV x (.ref r) h) Q := Ok.eq (a := .bl (ys.any fun y => eqF y x)) (h := h) (by unfold Cn.inV; rw [in_lst e, if_pos f]) o
theorem k_ninl {r : Nat} {x : CV} {ys : List CV} (e : h.at r = some (.lst ys)) (f : (flatC x && ys.all flatC) = true) (o : Q (.bl (!ys.any fun y => eqF y x)) h) : OkE E (ninV x (.ref r) h) Q := Ok.eq (a := .bl (!ys.any fun y => eqF y x)) (h := h) (by unfold ninV; rw [in_lst e, if_pos f]) o
theorem k_ifp {c : Prop} [Decidable c] {A B : Prop} (hc : c) (o : A) : if c then A else B := by rw [if_pos hc]; exact o
theorem k_ifn {c : Prop} [Decidable c] {A B : Prop} (hc : ¬ c) (o : B) : if c then A else B := by rw [if_neg hc]; exact o
end Cn
namespace Cn
open Dw
variable {E : EX} {ES : CS → EX} {h : CH} {Q : CV → CH → Prop}
structure Fx (S : List Nat) (h h' : CH) : Prop where
  sc : h'.sc = h.sc
  len : h.os.length ≤ h'.os.length
  fr : ∀ k, k < h.os.length → k ∉ S → h'.at k = h.at k
theorem Fx.rfl {S : List Nat} {h : CH} : Fx S h h := ⟨Eq.refl _, Nat.le_refl _, fun _ _ _ => Eq.refl _⟩
theorem Fx.trans {S : List Nat} {h h1 h2 : CH} (a : Fx S h h1) (b : Fx S h1 h2) : Fx S h h2 := ⟨b.sc.trans a.sc, Nat.le_trans a.len b.len, fun k l m => (b.fr k (Nat.lt_of_lt_of_le l a.len) m).trans (a.fr k l m)⟩
theorem Fx.new {S : List Nat} {h : CH} {o : CO} : Fx S h (h.new o) := ⟨Eq.refl _, by rw [len_new]; omega, fun k l _ => new_lt l⟩
theorem Fx.set {S : List Nat} {h : CH} {o : CO} {m : Nat} (hm : m ∈ S) : Fx S h (h.set m o) := ⟨Eq.refl _, by rw [len_set]; omega, fun k _ n => set_ne (fun e => n (by rw [e]; exact hm))⟩
theorem Fx.setf {S : List Nat} {h h1 : CH} {o : CO} {m : Nat} (a : Fx S h h1) (l : h.os.length ≤ m) : Fx S h (h1.set m o) := ⟨a.sc, by rw [len_set]; exact a.len, fun k lk n => by rw [set_ne (by omega)]; exact a.fr k lk n⟩
theorem Fx.newf {S : List Nat} {h h1 : CH} {o : CO} (a : Fx S h h1) : Fx S h (h1.new o) := a.trans .new
theorem Fx.sets {S : List Nat} {h h1 : CH} {o : CO} {m : Nat} (a : Fx S h h1) (l : m ∈ S) : Fx S h (h1.set m o) := a.trans (.set l)
theorem Fx.get {S : List Nat} {h h' : CH} (a : Fx S h h') {k : Nat} {o : CO} (e : h.at k = some o) (n : k ∉ S) : h'.at k = some o := (a.fr k (at_lt e) n).trans e
theorem Fx.mono {S T : List Nat} {h h' : CH} (a : Fx S h h') (s : ∀ x ∈ S, x ∈ T) : Fx T h h' := ⟨a.sc, a.len, fun k l n => a.fr k l (fun z => n (s k z))⟩
theorem Fx.ofFr {n c : Nat} {h h' : CH} (a : Fr n c h h') : Fx [n, c] h h' := ⟨a.sc, a.len, fun k l m => by
  simp at m
  rw [at_os, at_os]
  exact a.fr k m.1 m.2 l⟩
theorem k_eq_same {a b : Nat} {xs : List CV} {ds : List CD} (ea : h.at a = some (.lst xs)) (eb : h.at b = some (.lst xs)) (e : dataCs h 59 xs = some ds) (o : Q (.bl true) h) : OkE E (Cn.eqV (.ref a) (.ref b) h) Q := by
  refine Ok.eq ?_ o
  simp only [Cn.eqV, dataC, os_at, ea, eb, e, eqD, eqDs_refl]
end Cn
namespace Cn
end Cn
namespace Cn
open Dw
variable {E : EX} {ES : CS → EX} {h : CH} {s : CS} {Q : CV → CH → Prop} {N C : CS → CH → Prop} {R : CV → CH → Prop}
theorem k_addl {a b : Nat} {xs ys : List CV} (ea : h.at a = some (.lst xs)) (eb : h.at b = some (.lst ys)) (l : xs.length + ys.length ≤ 16777216) (o : Q (.ref h.os.length) (h.new (.lst (xs ++ ys)))) : OkE E (addV (.ref a) (.ref b) h) Q := by
  refine Ok.eq (a := .ref h.os.length) (h := h.new (.lst (xs ++ ys))) ?_ o
  simp only [addV, os_at, ea, eb]
  exact if_pos l
theorem k_lcons {r i n : Nat} {xs : List CV} {v : CV} {g : MG} {b : MS} (e : h.at r = some (.lst xs)) (gv : xs[i]? = some v) (o : AsP (g v s h) fun s1 h1 => SkE ES (b s1 h1) (fun s2 h2 => SkE ES (forLoop (.ref r) g b n (i + 1) s2 h2) N C R) (fun s2 h2 => SkE ES (forLoop (.ref r) g b n (i + 1) s2 h2) N C R) R) : SkE ES (forLoop (.ref r) g b (n + 1) i s h) N C R := by
  unfold forLoop
  have : itemAt (.ref r) i h = some (some v) := by simp [itemAt, lstOf, os_at, e, gv]
  rw [this]
  dsimp only
  cases q : g v s h with
  | none => rw [q] at o; exact o.elim
  | some p =>
    obtain ⟨s1, h1⟩ := p
    rw [q] at o
    have o : SkE ES (b s1 h1) (fun s2 h2 => SkE ES (forLoop (.ref r) g b n (i + 1) s2 h2) N C R) (fun s2 h2 => SkE ES (forLoop (.ref r) g b n (i + 1) s2 h2) N C R) R := o
    dsimp only
    cases eb : b s1 h1 with
    | nx => rw [eb, Sk_nx] at o; exact o
    | ct => rw [eb, Sk_ct] at o; exact o
    | rt => rw [eb, Sk_rt] at o; rw [Sk_rt]; exact o
    | bk => rw [eb, Sk_bk] at o; exact o.elim
    | ex => rw [eb, Sk_ex] at o; rw [Sk_ex]; exact o
    | bad => rw [eb, Sk_bad] at o; exact o.elim
theorem k_lend {r i n : Nat} {xs : List CV} {g : MG} {b : MS} (e : h.at r = some (.lst xs)) (gv : xs[i]? = none) (o : N s h) : SkE ES (forLoop (.ref r) g b (n + 1) i s h) N C R := by
  unfold forLoop
  have : itemAt (.ref r) i h = some none := by simp [itemAt, lstOf, os_at, e, gv]
  rw [this]
  dsimp only
  rw [Sk_nx]
  exact o
end Cn
set_option Elab.async false
set_option maxRecDepth 100000
set_option linter.all false
namespace Cn
open Dw
variable {E : EX} {ES : CS → EX} {h : CH} {s : CS} {Q : CV → CH → Prop} {N C : CS → CH → Prop} {R : CV → CH → Prop} {α : Type}
theorem cut_to' {α : Type} (w : List α) (n : Nat) : cutC w none (some (n : Int)) = w.take n := by
  simp only [cutC, sixC]
  rw [if_neg (by omega)]
  simp only [List.drop_zero]
  by_cases c : n ≤ w.length
  · congr 1; omega
  · rw [List.take_of_length_le (by omega), List.take_of_length_le (by omega)]
theorem k_ord {c : Nat} (o : Q (.int c) h) : OkE E (ordV [.str [c]] h) Q := by unfold ordV; rw [Ok_ok]; exact o
theorem k_dget2 {d y z} (o : OkE E (d s h) fun x h1 => isD x h1 = true ∧ OkE E (y s h1) fun k h2 => OkE E (z s h2) fun w h3 => AsO (dGet x k h3) fun o => Q (o.getD w) h3) : OkE E (eDGet2 d y z s h) Q := by
  simp only [eDGet2, Ok_bind]
  refine o.mono fun x h1 ⟨e, o⟩ => ?_
  rw [if_pos e, Ok_bind]
  refine o.mono fun k h2 o => ?_
  rw [Ok_bind]
  refine o.mono fun w h3 o => ?_
  cases q : dGet x k h3 with
  | none => rw [q] at o; exact o.elim
  | some v => rw [q] at o; rw [Ok_ok]; exact o
theorem k_dget1 {d y} (o : OkE E (d s h) fun x h1 => isD x h1 = true ∧ OkE E (y s h1) fun k h2 => AsO (dGet x k h2) fun o => Q (o.getD .non) h2) : OkE E (eDGet1 d y s h) Q := by
  simp only [eDGet1, Ok_bind]
  refine o.mono fun x h1 ⟨e, o⟩ => ?_
  rw [if_pos e, Ok_bind]
  refine o.mono fun k h2 o => ?_
  cases q : dGet x k h2 with
  | none => rw [q] at o; exact o.elim
  | some v => rw [q] at o; rw [Ok_ok]; exact o
theorem k_fldaug {f cs k o v} (q : OkE (ES s) (o s h) fun x h1 => AsO (getF cs k x h1) fun u => OkE (ES s) (v s h1) fun y h2 => OkE (ES s) (f u y h2) fun z h3 => sameC x h1 h3 = true ∧ AsO (setF cs k z x h3) fun h4 => N s h4) : SkE ES (sFldAug f cs k o v s h) N C R := by
  simp only [sFldAug, Sk_rBind]
  refine q.mono fun x h1 q => ?_
  cases e : getF cs k x h1 with
  | none => rw [e] at q; exact q.elim
  | some u =>
    rw [e] at q
    simp only [Sk_rBind]
    refine OkE.mono q fun y h2 q => ?_
    refine q.mono fun z h3 ⟨q1, q⟩ => ?_
    rw [if_pos q1]
    cases e2 : setF cs k z x h3 with
    | none => rw [e2] at q; exact q.elim
    | some h4 => rw [e2] at q; rw [Sk_nx]; exact q
theorem k_same {r c : Nat} {fs gs : List (Nat × CV)} {h1 h3 : CH} {P : Prop} (e : h1.at r = some (.ins c fs)) (e3 : h3.at r = some (.ins c gs)) (o : P) : sameC (.ref r) h1 h3 = true ∧ P := by
  refine ⟨?_, o⟩
  simp [sameC, insC, e, e3]
theorem k_sw {a b : List Nat} (o : Q (.bl (b.isPrefixOf a)) h) : OkE E (swV [.str a, .str b] h) Q := by unfold swV; rw [Ok_ok]; exact o
theorem k_inC {x : CV} {ys : List CV} (f : (flatC x && ys.all flatC) = true) (o : Q (.bl (ys.any fun y => eqF y x)) h) : OkE E (inC ys x h) Q := k_int f o
theorem k_ninC {x : CV} {ys : List CV} (f : (flatC x && ys.all flatC) = true) (o : Q (.bl (!ys.any fun y => eqF y x)) h) : OkE E (ninC ys x h) Q := k_nint f o
theorem z_addI (i j : Int) : addI (.int i) (.int j) h = .ok (.int (i + j)) h := rfl
theorem k_seqN {a b} {s' : CS} (e : s = s') (o : SkE ES (a s' h) (fun s1 h1 => SkE ES (b s1 h1) N C R) C R) : SkE ES (sSeq a b s h) N C R := by rw [e, Sk_sSeq]; exact o
theorem k_ixt {i : Int} {xs : List CV} {v : CV} (hi : 0 ≤ i) (g : xs[i.toNat]? = some v) (o : Q v h) : OkE E (ixV (.tup xs) (.int i) h) Q := by
  refine Ok.eq (a := v) (h := h) ?_ o
  have := get_lt g
  simp only [ixV, atC, ixC]
  rw [if_pos hi, if_pos (by omega)]
  simp [g]
theorem k_newD {o : CO} (q : Q (.ref h.os.length) (h.new o)) : OkE E (eNewD o s h) Q := by unfold eNewD; rw [Ok_alloc]; exact q
theorem k_isDT {r : Nat} {kvs} {P : Prop} (e : h.at r = some (.dT kvs)) (o : P) : isD (.ref r) h = true ∧ P := ⟨by simp only [isD, os_at, e], o⟩
theorem k_isDK {r : Nat} {kvs} {P : Prop} (e : h.at r = some (.dK kvs)) (o : P) : isD (.ref r) h = true ∧ P := ⟨by simp only [isD, os_at, e], o⟩
theorem k_dgT {r : Nat} {kvs} {xs : List CV} {ks : List CK} {Q : Option CV → Prop} (e : h.at r = some (.dT kvs)) (hk : keysOf xs = some ks) (o : Q (valC kvs ks)) : AsO (dGet (.ref r) (.tup xs) h) Q := by
  simp only [dGet, os_at, e, hk]; exact o
theorem k_dgK {r : Nat} {kvs} {x : CV} {k : CK} {Q : Option CV → Prop} (e : h.at r = some (.dK kvs)) (hk : keyOf x = some k) (o : Q (valC kvs k)) : AsO (dGet (.ref r) x h) Q := by
  simp only [dGet, os_at, e, hk]; exact o
theorem k_isDF {r : Nat} {kvs} {P : Prop} (e : h.at r = some (.fz kvs)) (o : P) : isD (.ref r) h = true ∧ P := ⟨by simp only [isD, os_at, e], o⟩
theorem k_dgF {r : Nat} {kvs} {x : CV} {k : CK} {Q : Option CV → Prop} (e : h.at r = some (.fz kvs)) (hk : keyOf x = some k) (o : Q (valC kvs k)) : AsO (dGet (.ref r) x h) Q := by
  simp only [dGet, os_at, e, hk]; exact o
theorem k_dput {v d y} (o : OkE (ES s) (v s h) fun u h1 => OkE (ES s) (d s h1) fun x h2 => OkE (ES s) (y s h2) fun k h3 => AsO (dPut x k u h3) fun h4 => N s h4) : SkE ES (sDPut v d y s h) N C R := by
  simp only [sDPut, Sk_rBind]
  refine o.mono fun u h1 o => ?_
  refine o.mono fun x h2 o => ?_
  refine o.mono fun k h3 o => ?_
  cases q : dPut x k u h3 with
  | none => rw [q] at o; exact o.elim
  | some v => rw [q] at o; rw [Sk_nx]; exact o
theorem k_dpT {r : Nat} {kvs} {xs : List CV} {ks : List CK} {u : CV} {Q : CH → Prop} (e : h.at r = some (.dT kvs)) (hk : keysOf xs = some ks) (l : kvs.length < 16777216) (o : Q (h.set r (.dT (putD kvs ks u)))) : AsO (dPut (.ref r) (.tup xs) u h) Q := by
  simp only [dPut, os_at, e, hk]; rw [if_pos (show _ < LINE from l)]; exact o
theorem k_dpK {r : Nat} {kvs} {x : CV} {k : CK} {u : CV} {Q : CH → Prop} (e : h.at r = some (.dK kvs)) (hk : keyOf x = some k) (l : kvs.length < 16777216) (o : Q (h.set r (.dK (putD kvs k u)))) : AsO (dPut (.ref r) x u h) Q := by
  simp only [dPut, os_at, e, hk]; rw [if_pos (show _ < LINE from l)]; exact o
theorem k_dix {d y : CV} (o : AsO (dGet d y h) fun v => AsO v fun v => Q v h) : OkE E (dixV d y h) Q := by
  unfold dixV
  cases q : dGet d y h with
  | none => rw [q] at o; exact o.elim
  | some v => cases v with
    | none => rw [q] at o; exact o.elim
    | some v => rw [q] at o; rw [Ok_ok]; exact o
theorem k_din {d y : CV} (o : AsO (dGet d y h) fun v => Q (.bl v.isSome) h) : OkE E (dinV y d h) Q := by
  unfold dinV
  cases q : dGet d y h with
  | none => rw [q] at o; exact o.elim
  | some v => rw [q] at o; rw [Ok_ok]; exact o
theorem k_dnin {d y : CV} (o : AsO (dGet d y h) fun v => Q (.bl (!v.isSome)) h) : OkE E (dninV y d h) Q := by
  unfold dninV
  cases q : dGet d y h with
  | none => rw [q] at o; exact o.elim
  | some v => rw [q] at o; rw [Ok_ok]; exact o
theorem k_listl {r : Nat} {xs : List CV} (e : h.at r = some (.lst xs)) (o : Q (.ref h.os.length) (h.new (.lst xs))) : OkE E (listV [.ref r] h) Q := by
  simp only [listV, seq_lst e]; rw [Ok_alloc]; exact o
theorem k_listt {xs : List CV} (o : Q (.ref h.os.length) (h.new (.lst xs))) : OkE E (listV [.tup xs] h) Q := by
  simp only [listV, seqOf]; rw [Ok_alloc]; exact o
theorem k_tupl {r : Nat} {xs : List CV} (e : h.at r = some (.lst xs)) (o : Q (.tup xs) h) : OkE E (tupV [.ref r] h) Q := by
  simp only [tupV, seq_lst e]; rw [Ok_ok]; exact o
theorem k_isil {r k : Nat} {xs : List CV} (e : h.at r = some (.lst xs)) (o : Q (.bl (5 == k)) h) : OkE E (isiV k (.ref r) h) Q := by
  simp only [isiV, kind_lst (by rw [os_at]; exact e)]
  rw [if_pos (by omega), Ok_ok]; exact o
theorem k_slicel {r : Nat} {xs : List CV} {lo hi : Option Int} (e : h.at r = some (.lst xs)) (o : Q (.ref h.os.length) (h.new (.lst (cutC xs lo hi)))) : OkE E (sliceV (.ref r) lo hi h) Q := by
  simp only [sliceV, lstOf_ref (show h.os[r]? = _ by rw [os_at]; exact e)]; rw [Ok_alloc]; exact o
theorem Fx.at {S : List Nat} {h h' : CH} {k : Nat} {o : CO} (a : Fx S h h') (e : h.at k = some o) (n : k ∉ S) : h'.at k = some o := a.get e n
end Cn
namespace Dw
open Cn
theorem drawX {n c : Nat} {h : CH} {k : Nat} {Q : CV → CH → Prop} (d : Dr n c h) (k0 : 0 < k) (k1 : k < 1073741824)
    (q : ∀ (v : Nat) h', v < k → Dr n c h' → Fx [n, c] h h' → h'.os.length = h.os.length → Q (.int v) h') : OkE NoX (m_law_draw [.ref n, .int k] h) Q :=
  draw d k0 k1 fun v h' hv d' f' l' => q v h' hv d' (Fx.ofFr f') l'
end Dw
set_option Elab.async false
set_option maxRecDepth 100000
set_option linter.all false
set_option maxHeartbeats 1000000
namespace Sp
open Cn Mir Dw
def digits : List Nat := [48, 49, 50, 51, 52, 53, 54, 55, 56, 57]
def small : List Nat := [97, 98, 99, 100, 101, 102, 103, 104, 105, 106, 107, 108, 109, 110, 111, 112, 113, 114, 115, 116, 117, 118, 119, 120, 121, 122]
def allIn (w sg : List Nat) : Bool := w.all fun c => decide (c ∈ sg)
def made (w sg : List Nat) : Bool := decide (1 ≤ w.length) && decide (w.length ≤ 16) && allIn w sg
def isName (w : List Nat) : Bool := made w (small ++ digits) && (match w with
  | c :: _ => decide (c ∈ small)
  | [] => false)
def number (w : List Nat) (most : Int) : CV := if (1 ≤ w.length ∧ w.length ≤ 9) ∧ allIn w digits = true ∧ ¬ (w.head? = some 48 ∧ 1 < w.length) ∧ ¬ most < (digsVal w : Int) then .int (digsVal w) else .non
def split (w : List Nat) : CV := if 64 ∈ w ∧ isName (w.take (w.idxOf 64)) = true ∧ isName (w.drop (w.idxOf 64 + 1)) = true then .tup [.str (w.take (w.idxOf 64)), .str (w.drop (w.idxOf 64 + 1))] else .non
section
variable {h : CH} {w sg : List Nat}
end
end Sp
set_option Elab.async false
set_option maxRecDepth 100000
set_option linter.all false
namespace Cn
open Dw
abbrev Cell : Type := Nat × CO
def frozen : CO → Bool
  | .ins c fs => c == 3 && fs.length == 12
  | _ => false
abbrev HP : Type := List Cell → Prop
def SP : List HP → HP
  | [], cs => cs = []
  | p :: ps, cs => ∃ a b, cs = a ++ b ∧ p a ∧ SP ps b
def RC (a b : Cell) : Prop := a.1 = b.1 → frozen a.2 = true ∧ frozen b.2 = true
structure OwnC (z : List Int) (cs : List Cell) (h : CH) : Prop where
  sc : h.sc = z
  at_ : ∀ c ∈ cs, h.at c.1 = some c.2
  nd : cs.Pairwise RC
def Own (z : List Int) (ps : List HP) (h : CH) : Prop := ∃ cs, SP ps cs ∧ OwnC z cs h
def cell (r : Nat) (o : CO) : HP := fun cs => cs = [(r, o)]
def exP {α : Type} (f : α → HP) : HP := fun cs => ∃ a, f a cs
def sep (ps : List HP) : HP := SP ps
def pur (φ : Prop) : HP := fun cs => cs = [] ∧ φ
variable {z : List Int} {p q : HP} {ps ps' qs rs : List HP} {h h' : CH} {r : Nat} {o o' : CO}
theorem RC.symm {a b : Cell} (x : RC a b) : RC b a := fun e => let ⟨u, v⟩ := x e.symm; ⟨v, u⟩
theorem OwnC.perm {cs ds : List Cell} (x : OwnC z cs h) (e : cs.Perm ds) : OwnC z ds h := ⟨x.sc, fun c m => x.at_ c (e.mem_iff.mpr m), (e.pairwise_iff RC.symm).mp x.nd⟩
theorem OwnC.left {cs ds : List Cell} (x : OwnC z (cs ++ ds) h) : OwnC z cs h := ⟨x.sc, fun c m => x.at_ c (List.mem_append_left _ m), (List.pairwise_append.mp x.nd).1⟩
theorem SP_app : ∀ {ps : List HP} {cs : List Cell}, SP (ps ++ qs) cs ↔ ∃ a b, cs = a ++ b ∧ SP ps a ∧ SP qs b
  | [], cs => ⟨fun x => ⟨[], cs, rfl, rfl, x⟩, fun ⟨a, b, e, x, y⟩ => by cases x; subst e; exact y⟩
  | p :: ps, cs => by
    constructor
    · rintro ⟨a, b, rfl, x, y⟩
      obtain ⟨c, d, rfl, x2, y2⟩ := SP_app.mp y
      exact ⟨a ++ c, d, by rw [List.append_assoc], ⟨a, c, rfl, x, x2⟩, y2⟩
    · rintro ⟨a, b, rfl, ⟨c, d, rfl, x, y⟩, k⟩
      exact ⟨c, d ++ b, by rw [List.append_assoc], x, SP_app.mpr ⟨d, b, rfl, y, k⟩⟩
def Ent (ps qs : List HP) : Prop := ∀ cs, SP ps cs → ∃ ds rest, SP qs ds ∧ (ds ++ rest).Perm cs
def PickP (p : HP) (ps qs : List HP) : Prop := ∀ cs, SP ps cs → ∃ a b, p a ∧ SP qs b ∧ (a ++ b).Perm cs
theorem PickP.here : PickP p (p :: ps) ps := fun cs ⟨a, b, e, x, y⟩ => ⟨a, b, x, y, by rw [e]⟩
theorem PickP.there (k : PickP p ps qs) : PickP p (q :: ps) (q :: qs) := fun cs ⟨a, b, e, x, y⟩ => by
  obtain ⟨c, d, u, v, w⟩ := k b y
  refine ⟨c, a ++ d, u, ⟨a, d, rfl, x, v⟩, ?_⟩
  rw [e, ← List.append_assoc]
  exact ((List.perm_append_comm).append_right d).trans (by rw [List.append_assoc]; exact w.append_left a)
theorem PickP.eq (e : o' = o) : PickP (cell r o) (cell r o' :: ps) ps := e ▸ PickP.here
theorem Ent.rfl : Ent ps ps := fun cs x => ⟨cs, [], x, by rw [List.append_nil]⟩
theorem Ent.nil : Ent ps [] := fun cs x => ⟨[], cs, Eq.refl _, List.Perm.refl _⟩
theorem Ent.pick (k : PickP p ps ps') (e : Ent ps' qs) : Ent ps (p :: qs) := fun cs x => by
  obtain ⟨a, b, u, v, w⟩ := k cs x
  obtain ⟨ds, rest, u2, w2⟩ := e b v
  refine ⟨a ++ ds, rest, ⟨a, ds, Eq.refl _, u, u2⟩, ?_⟩
  rw [List.append_assoc]
  exact (w2.append_left a).trans w
theorem Ent.ex {α : Type} {f : α → HP} (a : α) (e : Ent ps (f a :: qs)) : Ent ps (exP f :: qs) := fun cs x => by
  obtain ⟨ds, rest, ⟨c, d, e1, u, v⟩, w⟩ := e cs x
  exact ⟨ds, rest, ⟨c, d, e1, ⟨a, u⟩, v⟩, w⟩
theorem Ent.sep (e : Ent ps (qs ++ rs)) : Ent ps (Cn.sep qs :: rs) := fun cs x => by
  obtain ⟨ds, rest, u, w⟩ := e cs x
  obtain ⟨a, b, e1, u, v⟩ := SP_app.mp u
  exact ⟨ds, rest, ⟨a, b, e1, u, v⟩, w⟩
theorem Ent.pur {φ : Prop} (k : φ) (e : Ent ps qs) : Ent ps (Cn.pur φ :: qs) := fun cs x => by
  obtain ⟨ds, rest, u, w⟩ := e cs x
  exact ⟨ds, rest, ⟨[], ds, Eq.refl _, ⟨Eq.refl _, k⟩, u⟩, w⟩
theorem Own.ent (O : Own z ps h) (e : Ent ps qs) : Own z qs h := by
  obtain ⟨cs, x, y⟩ := O
  obtain ⟨ds, rest, u, w⟩ := e cs x
  exact ⟨ds, u, (y.perm w.symm).left⟩
theorem Own.pick (O : Own z ps h) (k : PickP p ps qs) : Own z (p :: qs) h := O.ent (.pick k .rfl)
def mv : Nat → List HP → List HP
  | 0, ps => ps
  | _ + 1, [] => []
  | i + 1, p :: ps => match mv i ps with
    | q :: qs => q :: p :: qs
    | [] => [p]
theorem mv_pick : ∀ (i : Nat) (ps : List HP), match mv i ps with
    | q :: qs => PickP q ps qs
    | [] => ps = []
  | 0, ps => by cases ps with
    | nil => rfl
    | cons p ps => exact PickP.here
  | i + 1, [] => rfl
  | i + 1, p :: ps => by
    have := mv_pick i ps
    simp only [mv]
    cases e : mv i ps with
    | nil => rw [e] at this; subst this; exact PickP.here
    | cons q qs => rw [e] at this; exact this.there
theorem Own.sw (i : Nat) (O : Own z ps h) : Own z (mv i ps) h := by
  have := mv_pick i ps
  cases e : mv i ps with
  | nil => rw [e] at this; subst this; exact O
  | cons q qs => rw [e] at this; exact O.pick this
theorem Own.open {α : Type} {f : α → HP} (O : Own z (exP f :: ps) h) : ∃ a, Own z (f a :: ps) h := by
  obtain ⟨cs, ⟨c, d, e1, ⟨a, u⟩, v⟩, y⟩ := O
  exact ⟨a, cs, ⟨c, d, e1, u, v⟩, y⟩
theorem Own.flat (O : Own z (sep qs :: ps) h) : Own z (qs ++ ps) h := by
  obtain ⟨cs, ⟨c, d, e1, u, v⟩, y⟩ := O
  exact ⟨cs, SP_app.mpr ⟨c, d, e1, u, v⟩, y⟩
theorem Own.unpur {φ : Prop} (O : Own z (pur φ :: ps) h) : φ ∧ Own z ps h := by
  obtain ⟨cs, ⟨c, d, e1, ⟨e2, u⟩, v⟩, y⟩ := O
  subst e2 e1
  exact ⟨u, _, v, y⟩
theorem Ent.skip (e : Ent ps qs) : Ent (p :: ps) qs := fun cs ⟨a, b, e1, x, y⟩ => by
  obtain ⟨ds, rest, u, w⟩ := e b y
  refine ⟨ds, rest ++ a, u, ?_⟩
  rw [e1, ← List.append_assoc]
  exact (w.append_right a).trans List.perm_append_comm
theorem Own.drop (O : Own z (p :: ps) h) : Own z ps h := O.ent fun cs ⟨a, b, e, x, y⟩ => ⟨b, a, y, by rw [e]; exact List.perm_append_comm⟩
def InP (r : Nat) (o : CO) (ps : List HP) : Prop := ∀ cs, SP ps cs → (r, o) ∈ cs
theorem InP.here : InP r o (cell r o :: ps) := fun cs ⟨a, b, e, x, y⟩ => by rw [e, show a = _ from x]; simp
theorem InP.there (k : InP r o ps) : InP r o (p :: ps) := fun cs ⟨a, b, e, x, y⟩ => by rw [e]; exact List.mem_append_right _ (k b y)
theorem o_get (O : Own z ps h) (k : InP r o ps) : h.at r = some o := by
  obtain ⟨cs, x, y⟩ := O
  exact y.at_ _ (k cs x)
def UpP (r : Nat) (o o' : CO) (ps ps' : List HP) : Prop := frozen o = false ∧ ∀ cs, SP ps cs → ∃ a b, cs = a ++ (r, o) :: b ∧ SP ps' (a ++ (r, o') :: b)
theorem UpP.here (f : frozen o = false) : UpP r o o' (cell r o :: ps) (cell r o' :: ps) := ⟨f, fun cs ⟨a, b, e, x, y⟩ => ⟨[], b, by rw [e, show a = _ from x]; rfl, [(r, o')], b, rfl, rfl, y⟩⟩
theorem UpP.there (k : UpP r o o' ps ps') : UpP r o o' (p :: ps) (p :: ps') := ⟨k.1, fun cs ⟨a, b, e, x, y⟩ => by
  obtain ⟨c, d, e2, u⟩ := k.2 b y
  exact ⟨a ++ c, d, by rw [e, e2, List.append_assoc], a, c ++ (r, o') :: d, by rw [List.append_assoc], x, u⟩⟩
theorem Own.upd (O : Own z ps h) (u : UpP r o o' ps ps') : h.at r = some o ∧ Own z ps' (h.set r o') := by
  obtain ⟨cs, x, y⟩ := O
  obtain ⟨a, b, rfl, v⟩ := u.2 cs x
  have er : h.at r = some o := y.at_ (r, o) (by simp)
  have nd := (List.perm_middle.pairwise_iff RC.symm).mp y.nd
  have nd := List.pairwise_cons.mp nd
  have ne : ∀ c ∈ a ++ b, c.1 ≠ r := fun c m e => by
    have := (nd.1 c m e.symm).1
    rw [u.1] at this; cases this
  refine ⟨er, _, v, y.sc, fun c m => ?_, ?_⟩
  · have m2 := List.perm_middle.mem_iff.mp m
    rcases List.mem_cons.mp m2 with rfl | m2
    · exact set_eq rfl (at_lt er)
    · rw [set_ne (ne c m2)]
      exact y.at_ c (List.perm_middle.mem_iff.mpr (List.mem_cons_of_mem _ m2))
  · refine (List.perm_middle.pairwise_iff RC.symm).mpr (List.pairwise_cons.mpr ⟨fun c m e => absurd e.symm (ne c m), nd.2⟩)
theorem Own.new (O : Own z ps h) (o : CO) : Own z (cell h.os.length o :: ps) (h.new o) := by
  obtain ⟨cs, x, y⟩ := O
  refine ⟨(h.os.length, o) :: cs, ⟨[(h.os.length, o)], cs, rfl, rfl, x⟩, y.sc, fun c m => ?_, List.pairwise_cons.mpr ⟨fun c m e => ?_, y.nd⟩⟩
  · rcases List.mem_cons.mp m with rfl | m
    · exact new_eq rfl
    · exact at_new_lt (y.at_ c m)
  · have := at_lt (y.at_ c m)
    have e : h.os.length = c.1 := e
    omega
theorem Own.fresh (O : Own z ps h) (f : Fx [] h h') (l : h.os.length ≤ r) (e : h'.at r = some o) : Own z (cell r o :: ps) h' := by
  obtain ⟨cs, x, y⟩ := O
  refine ⟨(r, o) :: cs, ⟨[(r, o)], cs, rfl, rfl, x⟩, f.sc.trans y.sc, fun c m => ?_, List.pairwise_cons.mpr ⟨fun c m e => ?_, y.nd⟩⟩
  · rcases List.mem_cons.mp m with rfl | m
    · exact e
    · exact f.at (y.at_ c m) List.not_mem_nil
  · have := at_lt (y.at_ c m)
    have e : r = c.1 := e
    omega
def ClsP (r c : Nat) (nf : Option Nat) (ps : List HP) : Prop := ∀ cs, SP ps cs → ∃ fs, (r, CO.ins c fs) ∈ cs ∧ hasF nf fs = false
theorem ClsP.there {c : Nat} {nf : Option Nat} (k : ClsP r c nf ps) : ClsP r c nf (p :: ps) := fun cs ⟨a, b, e, x, y⟩ => by
  obtain ⟨fs, m, n⟩ := k b y
  exact ⟨fs, by rw [e]; exact List.mem_append_right _ m, n⟩
theorem ClsP.here {c : Nat} {nf : Option Nat} (k : ∀ cs, p cs → ∃ fs, (r, CO.ins c fs) ∈ cs ∧ hasF nf fs = false) : ClsP r c nf (p :: ps) := fun cs ⟨a, b, e, x, y⟩ => by
  obtain ⟨fs, m, n⟩ := k a x
  exact ⟨fs, by rw [e]; exact List.mem_append_left _ m, n⟩
theorem o_meth {c : Nat} {nf : Option Nat} {tb : List (Nat × Def)} {f : Def} {Q : Def → Prop} (O : Own z ps h) (m : ClsP r c nf ps) (l : lookD c tb = some f) (o : Q f) : AsO (methC tb nf (.ref r) h) Q := by
  obtain ⟨cs, x, y⟩ := O
  obtain ⟨fs, m, n⟩ := m cs x
  exact k_methC (y.at_ _ m) n l o
theorem sep_mem {cs : List Cell} (x : sep (cell r o :: ps) cs) : (r, o) ∈ cs := by
  obtain ⟨a, b, e, u, v⟩ := x
  rw [e, show a = _ from u]; simp
def allP {α : Type} (f : Nat → α → HP) (zs : List (Nat × α)) : HP := sep (zs.map fun z => f z.1 z.2)
section
variable {α : Type} {f : Nat → α → HP} {zs : List (Nat × α)}
theorem Own.allFlat (O : Own z (allP f zs :: ps) h) : Own z (zs.map (fun z => f z.1 z.2) ++ ps) h := O.flat
theorem Ent.all (e : Ent ps (zs.map (fun z => f z.1 z.2) ++ qs)) : Ent ps (allP f zs :: qs) := Ent.sep e
theorem pick_at : ∀ {ps : List HP} {i : Nat} (l : i < ps.length), PickP ps[i] (ps ++ qs) (ps.eraseIdx i ++ qs)
  | [], _, l => by simp at l
  | p :: ps, 0, _ => PickP.here
  | p :: ps, i + 1, l => (pick_at (ps := ps) (i := i) (by simpa using l)).there
theorem eraseMap {α β : Type} (f : α → β) : ∀ (l : List α) (i : Nat), (l.map f).eraseIdx i = (l.eraseIdx i).map f
  | [], i => by simp
  | a :: l, 0 => by simp
  | a :: l, i + 1 => by simp [eraseMap f l i]
theorem Own.focus {i : Nat} {r : Nat} {x : α} (O : Own z (allP f zs :: ps) h) (e : zs[i]? = some (r, x)) : Own z (f r x :: allP f (zs.eraseIdx i) :: ps) h := by
  have l := get_lt e
  have O := O.allFlat.pick (pick_at (ps := zs.map fun z => f z.1 z.2) (i := i) (by simpa using l))
  have ez : (zs.map fun z => f z.1 z.2)[i]'(by simpa using l) = f r x := by
    rw [List.getElem_map]
    rw [List.getElem?_eq_getElem l] at e
    have := Option.some.inj e
    rw [this]
  rw [ez] at O
  refine O.ent (.pick .here (.all ?_))
  rw [eraseMap]
  exact .rfl
theorem pick_back : ∀ {ps : List HP} {i : Nat} {p : HP} (l : i < ps.length), Ent (p :: (ps.eraseIdx i ++ qs)) (ps.set i p ++ qs)
  | [], _, _, l => by simp at l
  | p :: ps, 0, _, _ => .rfl
  | p :: ps, i + 1, q, l => .pick (.there .here) (pick_back (ps := ps) (i := i) (by simpa using l))
theorem Own.unfocus {i : Nat} {r : Nat} {x : α} (O : Own z (f r x :: allP f (zs.eraseIdx i) :: ps) h) (l : i < zs.length) : Own z (allP f (zs.set i (r, x)) :: ps) h := by
  have O := O.sw 1
  have O : Own z (allP f (zs.eraseIdx i) :: f r x :: ps) h := O
  have O := O.allFlat
  refine O.ent ?_
  refine .all ?_
  rw [List.map_set, ← eraseMap]
  have e : Ent ((zs.map fun z => f z.1 z.2).eraseIdx i ++ f r x :: ps) (f r x :: ((zs.map fun z => f z.1 z.2).eraseIdx i ++ ps)) := by
    have : ∀ qs : List HP, PickP (f r x) (qs ++ f r x :: ps) (qs ++ ps) := fun qs => by
      induction qs with
      | nil => exact PickP.here
      | cons q qs ih => exact ih.there
    exact .pick (this _) .rfl
  intro cs x
  obtain ⟨ds, rest, u, w⟩ := e cs x
  obtain ⟨ds2, rest2, u2, w2⟩ := pick_back (p := f r _) (ps := zs.map fun z => f z.1 z.2) (i := i) (by simpa using l) ds u
  exact ⟨ds2, rest2 ++ rest, u2, by rw [← List.append_assoc]; exact (w2.append_right rest).trans w⟩
theorem Own.snoc {r : Nat} {x : α} (O : Own z (f r x :: allP f zs :: ps) h) : Own z (allP f (zs ++ [(r, x)]) :: ps) h := by
  have O : Own z (allP f zs :: f r x :: ps) h := O.sw 1
  have O := O.allFlat
  refine O.ent (.all ?_)
  rw [List.map_append, List.append_assoc]
  exact .rfl
theorem ent_filter (p : Nat × α → Bool) : ∀ (zs : List (Nat × α)), Ent (zs.map (fun z => f z.1 z.2) ++ ps) ((zs.filter p).map (fun z => f z.1 z.2) ++ ps)
  | [] => .rfl
  | z :: zs => by
    rw [List.filter_cons]
    split
    · exact .pick .here (ent_filter p zs)
    · intro cs ⟨a, b, e, x, y⟩
      obtain ⟨ds, rest, u, w⟩ := ent_filter p zs b y
      refine ⟨ds, rest ++ a, u, ?_⟩
      rw [e, ← List.append_assoc]
      exact (w.append_right a).trans List.perm_append_comm
theorem Own.filter (p : Nat × α → Bool) (O : Own z (allP f zs :: ps) h) : Own z (allP f (zs.filter p) :: ps) h := O.allFlat.ent (by
  intro cs x
  obtain ⟨ds, rest, u, w⟩ := ent_filter p zs cs x
  obtain ⟨a, b, e1, u, v⟩ := SP_app.mp u
  exact ⟨ds, rest, ⟨a, b, e1, u, v⟩, w⟩)
theorem Own.allNil (O : Own z ps h) : Own z (allP f [] :: ps) h := O.ent (.all .rfl)
theorem Ent.allNil (e : Ent ps qs) : Ent ps (allP f [] :: qs) := .all e
theorem Ent.one {r : Nat} {x : α} (e : Ent ps (f r x :: qs)) : Ent ps (allP f [(r, x)] :: qs) := .all e
end
section
variable {E : EX} {ES : CS → EX} {s : CS} {Q : CV → CH → Prop} {N C : CS → CH → Prop} {R : CV → CH → Prop}
theorem o_setF {cs : List Nat} {k r c : Nat} {fs fs' : List (Nat × CV)} {v : CV} {Q : CH → Prop} (O : Own z ps h) (u : UpP r (.ins c fs) (.ins c fs') ps ps') (hc : (decide (c ∈ cs) && decide (fs.length < 800)) = true) (l : putC k v fs = fs') (o : ∀ h', Own z ps' h' → Q h') : AsO (setF cs k v (.ref r) h) Q := by
  obtain ⟨e, O⟩ := O.upd u
  exact k_setF e hc l (o _ O)
theorem o_setl {r : Nat} {i : Int} {xs ys : List CV} {v : CV} {Q : CH → Prop} (O : Own z ps h) (u : UpP r (.lst xs) (.lst ys) ps ps') (hi : 0 ≤ i) (l : i.toNat < xs.length) (g : xs.set i.toNat v = ys) (o : ∀ h', Own z ps' h' → Q h') : AsO (setIxV (.ref r) (.int i) v h) Q := by
  obtain ⟨e, O⟩ := O.upd u
  exact k_setl e hi l g (o _ O)
theorem o_app {r : Nat} {xs : List CV} {v : CV} (O : Own z ps h) (u : UpP r (.lst xs) (.lst (xs ++ [v])) ps ps') (l : xs.length < 16777216) (o : ∀ h', Own z ps' h' → Q .non h') : OkE E (appendV [.ref r, v] h) Q := by
  obtain ⟨e, O⟩ := O.upd u
  exact k_app e l (o _ O)
theorem o_ext {a b : Nat} {xs ys : List CV} (O : Own z ps h) (u : UpP a (.lst xs) (.lst (xs ++ ys)) ps ps') (m : InP b (.lst ys) ps) (l : xs.length + ys.length ≤ 16777216) (o : ∀ h', Own z ps' h' → Q .non h') : OkE E (extendV [.ref a, .ref b] h) Q := by
  have eb := o_get O m
  obtain ⟨e, O⟩ := O.upd u
  refine Ok.eq ?_ (o _ O)
  simp only [extendV, os_at, e, eb]
  exact if_pos l
theorem o_pop {a : Nat} {xs : List CV} {v : CV} (O : Own z ps h) (u : UpP a (.lst (v :: xs)) (.lst xs) ps ps') (o : ∀ h', Own z ps' h' → Q v h') : OkE E (popAtV [.ref a, .int 0] h) Q := by
  obtain ⟨e, O⟩ := O.upd u
  exact Ok.eq (popAt0 (by rw [os_at]; exact e)) (o _ O)
theorem o_dpT {r : Nat} {kvs} {xs : List CV} {ks : List CK} {u : CV} {Q : CH → Prop} (O : Own z ps h) (w : UpP r (.dT kvs) (.dT (putD kvs ks u)) ps ps') (hk : keysOf xs = some ks) (l : kvs.length < 16777216) (o : ∀ h', Own z ps' h' → Q h') : AsO (dPut (.ref r) (.tup xs) u h) Q := by
  obtain ⟨e, O⟩ := O.upd w
  exact k_dpT e hk l (o _ O)
theorem o_dpK {r : Nat} {kvs} {x : CV} {k : CK} {u : CV} {Q : CH → Prop} (O : Own z ps h) (w : UpP r (.dK kvs) (.dK (putD kvs k u)) ps ps') (hk : keyOf x = some k) (l : kvs.length < 16777216) (o : ∀ h', Own z ps' h' → Q h') : AsO (dPut (.ref r) x u h) Q := by
  obtain ⟨e, O⟩ := O.upd w
  exact k_dpK e hk l (o _ O)
theorem o_newD {c : CO} (O : Own z ps h) (o : ∀ r h', Own z (cell r c :: ps) h' → Q (.ref r) h') : OkE E (eNewD c s h) Q := k_newD (o _ _ (O.new _))
theorem o_listl {a : Nat} {xs : List CV} (O : Own z ps h) (m : InP a (.lst xs) ps) (o : ∀ r h', Own z (cell r (.lst xs) :: ps) h' → Q (.ref r) h') : OkE E (listV [.ref a] h) Q := k_listl (o_get O m) (o _ _ (O.new _))
theorem o_listt {xs : List CV} (O : Own z ps h) (o : ∀ r h', Own z (cell r (.lst xs) :: ps) h' → Q (.ref r) h') : OkE E (listV [.tup xs] h) Q := k_listt (o _ _ (O.new _))
theorem o_slicel {a : Nat} {xs : List CV} {lo hi : Option Int} (O : Own z ps h) (m : InP a (.lst xs) ps) (o : ∀ r h', Own z (cell r (.lst (cutC xs lo hi)) :: ps) h' → Q (.ref r) h') : OkE E (sliceV (.ref a) lo hi h) Q := k_slicel (o_get O m) (o _ _ (O.new _))
theorem o_addl {a b : Nat} {xs ys : List CV} (O : Own z ps h) (m : InP a (.lst xs) ps) (m2 : InP b (.lst ys) ps) (l : xs.length + ys.length ≤ 16777216) (o : ∀ r h', Own z (cell r (.lst (xs ++ ys)) :: ps) h' → Q (.ref r) h') : OkE E (addV (.ref a) (.ref b) h) Q := k_addl (o_get O m) (o_get O m2) l (o _ _ (O.new _))
theorem o_lstQ {as} (q : OkE E (as s h) fun xs h1 => ∃ z ps, Own z ps h1 ∧ xs.length ≤ 16777216 ∧ ∀ r h', Own z (cell r (.lst xs) :: ps) h' → Q (.ref r) h') : OkE E (eLst as s h) Q := by
  refine k_lst (q.mono fun xs h1 ⟨z, ps, O, l, o⟩ => ⟨l, o _ _ (O.new _)⟩)
theorem o_make {c f as} (q : OkE E (as s h) fun xs h1 => ∃ z ps, Own z ps h1 ∧ ∀ r h', Own z (cell r (.ins c []) :: ps) h' → OkE E (f (.ref r :: xs) h') fun v h2 => v = .non ∧ Q (.ref r) h2) : OkE E (eMake c f as s h) Q := by
  refine k_make (q.mono fun xs h1 ⟨z, ps, O, o⟩ => ?_)
  exact o _ _ (O.new _)
end
theorem o_turn {D i : Nat} {g : MG} {t : ME Bool} {e : ME CV} {v : CV} {s : CS} {zs : List CV} {J : Nat → List CV → List HP} (lz : zs.length ≤ i) (li : i < 16777216)
    (o : AsP (g v s h) fun s1 h1 => OkE NoX (t s1 h1) fun k h2 => if k = true then OkE NoX (e s1 h2) fun x h3 => Own z (cell D (.lst zs) :: J (i + 1) (zs ++ [x])) h3 else Own z (cell D (.lst zs) :: J (i + 1) zs) h2) :
    ∃ h2, lcTurn D g t e v s h = some h2 ∧ ∃ zs, zs.length ≤ i + 1 ∧ Own z (cell D (.lst zs) :: J (i + 1) zs) h2 := by
  cases eg : g v s h with
  | none => rw [eg] at o; exact o.elim
  | some p =>
    obtain ⟨s1, h1⟩ := p
    rw [eg] at o
    refine lc_turn eg (OkE.mono o fun k h2 o => ?_)
    cases k with
    | false => exact ⟨zs, by omega, o⟩
    | true =>
      refine OkE.mono o fun x h3 O => ⟨zs, by rw [os_at]; exact o_get O .here, by show _ < 16777216; omega, zs ++ [x], by simp; omega, (O.upd (.here rfl)).2⟩
theorem o_comp {E : EX} {s : CS} {Q : CV → CH → Prop} {r : Nat} {ys : List CV} {own : List Nat} {a e : ME CV} {g : MG} {t : ME Bool} (J : Nat → List CV → List HP) (ly : ys.length < 16777216)
    (ha : OkE E (a s h) fun x h1 => x = .ref r ∧ Own z (J 0 []) h1) (hm : ∀ i zs, InP r (.lst ys) (J i zs))
    (hs : ∀ i v D zs h, ys[i]? = some v → zs.length ≤ i → Own z (cell D (.lst zs) :: J i zs) h → AsP (g v (wipeC s own) h) fun s1 h1 => OkE NoX (t s1 h1) fun k h2 => if k = true then OkE NoX (e s1 h2) fun x h3 => Own z (cell D (.lst zs) :: J (i + 1) (zs ++ [x])) h3 else Own z (cell D (.lst zs) :: J (i + 1) zs) h2)
    (hq : ∀ D zs h, zs.length ≤ ys.length → Own z (cell D (.lst zs) :: J ys.length zs) h → Q (.ref D) h) : OkE E (eComp own a g t e s h) Q := by
  refine Ok_eComp (ha.mono fun x h1 ⟨e1, O⟩ => ?_)
  subst e1
  have e := o_get O (hm 0 [])
  refine ⟨ys, fun i h2 => ∃ zs, zs.length ≤ i ∧ Own z (cell h1.os.length (.lst zs) :: J i zs) h2, fun i h2 ⟨zs, _, O⟩ => ?_, by simp [lenAt, lstOf, os_at, e], ⟨[], by simp, O.new _⟩, fun i v h2 ev ⟨zs, lz, O⟩ => ?_, fun h2 ⟨zs, lz, O⟩ => hq _ zs h2 lz O⟩
  · have := o_get O (InP.there (hm i zs))
    simp only [itemAt, lstOf, os_at, this]
  · exact o_turn lz (by have := get_lt ev; omega) (hs i v _ zs h2 ev lz O)
theorem k_yes {E : EX} {s : CS} {Q : Bool → CH → Prop} (o : Q true h) : OkE E (tYes s h) Q := by rw [Ok_tYes]; exact o
theorem o_for {ES : CS → EX} {s : CS} {N C : CS → CH → Prop} {R : CV → CH → Prop} {a : ME CV} {g : MG} {b : MS} (o : OkE (ES s) (a s h) fun x h1 => ∃ (r : Nat) (xs : List CV) (I : Nat → CS → CH → Prop), x = .ref r ∧ h1.at r = some (.lst xs) ∧ I 0 s h1 ∧ (∀ i s h, I i s h → h.at r = some (.lst xs)) ∧
    (∀ i v s h, xs[i]? = some v → I i s h → AsP (g v s h) fun s1 h1 => SkE ES (b s1 h1) (I (i + 1)) (I (i + 1)) R) ∧ ∀ s h, I xs.length s h → N s h) : SkE ES (sFor a g b s h) N C R := by
  refine Sk_sFor (o.mono fun x h1 ⟨r, xs, I, ex, e, i0, hr, hb, hN⟩ => ?_)
  subst ex
  refine ⟨xs, I, fun i s h q => ?_, ?_, i0, fun i v s h ev q => ?_, hN⟩
  · simp only [itemAt, lstOf, os_at, hr i s h q]
  · simp only [lenAt, lstOf, os_at, e]
  · have z := hb i v s h ev q
    cases eg : g v s h with
    | none => rw [eg] at z; exact z.elim
    | some p => rw [eg] at z; exact ⟨p.1, p.2, rfl, z⟩
def drP (n : Nat) : HP := exP fun t : Nat × Int × List Int => sep [cell n (.lst [.ref t.1, .int t.2.1]), cell t.1 (.lst (t.2.2.map CV.int)), pur (t.2.2.length ≤ 63)]
theorem Own.drOpen {n : Nat} (O : Own z (drP n :: ps) h) : ∃ (c : Nat) (x : Int) (ys : List Int), ys.length ≤ 63 ∧ Own z (cell n (.lst [.ref c, .int x]) :: cell c (.lst (ys.map CV.int)) :: ps) h := by
  obtain ⟨⟨c, x, ys⟩, O⟩ := O.open
  have O : Own z (cell n (.lst [.ref c, .int x]) :: cell c (.lst (ys.map CV.int)) :: pur (ys.length ≤ 63) :: ps) h := O.flat
  have O2 : Own z (pur (ys.length ≤ 63) :: cell n (.lst [.ref c, .int x]) :: cell c (.lst (ys.map CV.int)) :: ps) h := O.sw 2
  exact ⟨c, x, ys, O2.unpur.1, O2.unpur.2⟩
theorem Own.drClose {n c : Nat} {x : Int} {ys : List Int} (O : Own z (cell n (.lst [.ref c, .int x]) :: cell c (.lst (ys.map CV.int)) :: ps) h) (l : ys.length ≤ 63) : Own z (drP n :: ps) h :=
  O.ent (.ex ⟨c, x, ys⟩ (.sep (.pick .here (.pick .here (.pur l .rfl)))))
theorem Own.two {a b : Nat} {o o' : CO} (O : Own z (cell a o :: cell b o' :: ps) h) (k : frozen o = false) : a ≠ b := by
  obtain ⟨cs, ⟨c, d, e1, x1, ⟨c2, d2, e2, x2, x⟩⟩, y⟩ := O
  have x1 : c = _ := x1
  have x2 : c2 = _ := x2
  subst x1 x2 e2 e1
  intro e
  have := (List.pairwise_cons.mp y.nd).1 (b, o') (by simp) e
  rw [show frozen (a, o).2 = false from k] at this; cases this.1
theorem Own.fx2 {a b : Nat} {oa ob oa' ob' : CO} (O : Own z (cell a oa :: cell b ob :: ps) h) (f : Fx [a, b] h h') (ka : frozen oa = false) (kb : frozen ob = false) (ea : h'.at a = some oa') (eb : h'.at b = some ob') : Own z (cell a oa' :: cell b ob' :: ps) h' := by
  have nab := O.two ka
  obtain ⟨cs, ⟨c, d, e1, x1, ⟨c2, d2, e2, x2, x⟩⟩, y⟩ := O
  have x1 : c = _ := x1
  have x2 : c2 = _ := x2
  subst x1 x2 e2 e1
  have y : OwnC z ((a, oa) :: (b, ob) :: d2) h := y
  have nd := List.pairwise_cons.mp y.nd
  have nd2 := List.pairwise_cons.mp nd.2
  have na : ∀ c ∈ d2, c.1 ≠ a := fun c m e => by
    have := (nd.1 c (by simp [m]) e.symm).1
    rw [show frozen (a, oa).2 = false from ka] at this; cases this
  have nb : ∀ c ∈ d2, c.1 ≠ b := fun c m e => by
    have := (nd2.1 c m e.symm).1
    rw [show frozen (b, ob).2 = false from kb] at this; cases this
  refine ⟨(a, oa') :: (b, ob') :: d2, ⟨[(a, oa')], _, rfl, rfl, [(b, ob')], d2, rfl, rfl, x⟩, f.sc.trans y.sc, fun c m => ?_, List.pairwise_cons.mpr ⟨fun c m e => ?_, List.pairwise_cons.mpr ⟨fun c m e => absurd e.symm (nb c m), nd2.2⟩⟩⟩
  · rcases List.mem_cons.mp m with rfl | m
    · exact ea
    · rcases List.mem_cons.mp m with rfl | m
      · exact eb
      · exact f.at (y.at_ c (by simp [m])) (by simpa using ⟨na c m, nb c m⟩)
  · rcases List.mem_cons.mp m with rfl | m
    · exact absurd e nab
    · exact absurd e.symm (na c m)
section
variable {Q : CV → CH → Prop}
theorem o_dr {n c : Nat} {x : Int} {ys : List Int} (O : Own z (cell n (.lst [.ref c, .int x]) :: cell c (.lst (ys.map CV.int)) :: ps) h) (l : ys.length ≤ 63) : Dr n c h :=
  ⟨O.two rfl, ⟨x, by rw [os_at]; exact o_get O .here⟩, ys, by rw [os_at]; exact o_get O (.there .here), l⟩
theorem o_after {n c : Nat} {x : Int} {ys : List Int} (O : Own z (cell n (.lst [.ref c, .int x]) :: cell c (.lst (ys.map CV.int)) :: ps) h) (f : Fx [n, c] h h') (d : Dr n c h') : Own z (drP n :: ps) h' := by
  obtain ⟨x2, e1⟩ := d.st
  obtain ⟨ys2, e2, l2⟩ := d.cs
  exact (O.fx2 f rfl rfl (by rw [← os_at]; exact e1) (by rw [← os_at]; exact e2)).drClose l2
theorem o_draw {n k : Nat} (O : Own z (drP n :: ps) h) (k0 : 0 < k) (k1 : k < 1073741824) (q : ∀ (v : Nat) h', v < k → Own z (drP n :: ps) h' → Q (.int v) h') : OkE NoX (m_law_draw [.ref n, .int k] h) Q := by
  obtain ⟨c, x, ys, l, O⟩ := O.drOpen
  exact drawX (o_dr O l) k0 k1 fun v h' hv d f _ => q v h' hv (o_after O f d)
theorem o_drawI {n : Nat} {k : Int} (O : Own z (drP n :: ps) h) (k0 : 0 < k) (k1 : k < 1073741824) (q : ∀ (v : Nat) h', (v : Int) < k → Own z (drP n :: ps) h' → Q (.int v) h') : OkE NoX (m_law_draw [.ref n, .int k] h) Q := by
  obtain ⟨j, rfl⟩ : ∃ j : Nat, k = (j : Int) := ⟨k.toNat, by omega⟩
  exact o_draw O (by omega) (by omega) fun v h' hv O => q v h' (by omega) O
theorem o_pickl {n a : Nat} {xs : List CV} (O : Own z (drP n :: cell a (.lst xs) :: ps) h) (l : 0 < xs.length) (l2 : xs.length < 1073741824) (q : ∀ v h', v ∈ xs → Own z (drP n :: cell a (.lst xs) :: ps) h' → Q v h') : OkE NoX (m_law_pick [.ref n, .ref a] h) Q := by
  obtain ⟨c, x, ys, l1, O⟩ := O.drOpen
  have na : n ≠ a := (show Own z (cell n (.lst [.ref c, .int x]) :: cell a (.lst xs) :: cell c (.lst (ys.map CV.int)) :: ps) h from O.ent (.pick .here (.pick (.there .here) .rfl))).two rfl
  have ca : c ≠ a := (show Own z (cell c (.lst (ys.map CV.int)) :: cell a (.lst xs) :: ps) h from O.drop).two rfl
  exact pick_lst (o_dr O l1) (by rw [os_at]; exact o_get O (.there (.there .here))) l l2 na.symm ca.symm fun i v h' ev d f _ => q v h' (List.mem_of_getElem? ev) (o_after O (Fx.ofFr f) d)
theorem o_state {Q : CV → CH → Prop} (l : h.sc.length ≤ 63) (q : ∀ n h', Own h.sc [drP n] h' → Q (.ref n) h') : OkE NoX (m_law_state [.scr] h) Q :=
  state l fun n c h' d l1 l2 e _ _ => by
    obtain ⟨x, e1⟩ := d.st
    obtain ⟨ys, e2, l3⟩ := d.cs
    refine q n h' (Own.drClose (c := c) (x := x) (ys := ys) ?_ l3)
    refine ⟨[(n, .lst [.ref c, .int x]), (c, .lst (ys.map CV.int))], ⟨[_], _, rfl, rfl, [_], [], rfl, rfl, rfl⟩, e, ?_, ?_⟩
    · intro k m
      simp only [List.mem_cons, List.not_mem_nil, or_false] at m
      rcases m with rfl | rfl
      · rw [← os_at]; exact e1
      · rw [← os_at]; exact e2
    · exact List.pairwise_cons.mpr ⟨fun k m e => by simp at m; subst m; exact absurd e d.ne, by simp⟩
end
end Cn
set_option Elab.async false
set_option maxRecDepth 100000
namespace Mir
open Cn
/- classes: {'Journal': 10}; fields: {'text': 23, 'synced': 48} -/
def m_checksum : Def := runD 3 1 (
    sSeq (sSet 1 (eC (.int 7)))
    (sSeq (sFor (eVar 0) (gSet 2)
    (sSet 1 (e2 modV (e2 addV (e2 mulV (eVar 1) (eC (.int 31))) (eCall ordV (aCons (eVar 2) (aNil)))) (eC (.int 9973)))))
    (sRet (eVar 1))))
def m_sealed : Def := runD 1 1 (
    sRet (e2 addV (e2 addV (e2 addV (eVar 0) (eC (.str [32]))) (eCall strV (aCons (eCall m_checksum (aCons (eVar 0) (aNil))) (aNil)))) (eC (.str [10]))))
def m_opened : Def := runD 4 1 (
    sSeq (sAsg (eBM 3 rpartitionV (eVar 0) (aCons (eC (.str [32])) (aNil))) (Cn.gTup 3 (gsCons (gSet 1) (gsCons (gSet 2) (gsCons (gSet 3) (gsNil))))))
    (sSeq (sIf (Cn.tOr (tV (e2 Cn.eqV (eVar 2) (eC (.str [])))) (tV (e2 neV (eCall m_read_number (aCons (eVar 3) (aCons (eC (.int 9973)) (aNil)))) (eCall m_checksum (aCons (eVar 1) (aNil)))))) (sRet (eC .non))
    (sNil))
    (sRet (eVar 1))))
def m_Journal_init : Def := runD 1 1 (
    sSeq (sFld [10] 23 (eVar 0) (eC (.str [])))
    (sFld [10] 48 (eVar 0) (eC (.int 0))))
def m_Journal_append : Def := runD 2 2 (
    sFld [10] 23 (eVar 0) (e2 addV (eFld [10] 23 (eVar 0)) (eCall m_sealed (aCons (eVar 1) (aNil)))))
def m_Journal_sync : Def := runD 1 1 (
    sFld [10] 48 (eVar 0) (eCall lenV (aCons (eFld [10] 23 (eVar 0)) (aNil))))
def m_Journal_after_crash : Def := runD 2 2 (
    sRet (eSlice (eFld [10] 23 (eVar 0)) oNone (oSome (e2 addV (eFld [10] 48 (eVar 0)) (eVar 1)))))
def m_read_journal : Def := runD 5 1 (
    sSeq (sSet 1 (eLst (aNil)))
    (sSeq (sSet 2 (eBM 3 splitV (eVar 0) (aCons (eC (.str [10])) (aNil))))
    (sSeq (sFor (eSlice (eVar 2) oNone (oSome (e1 negV (eC (.int 1))))) (gSet 3)
    (sSeq (sSet 4 (eCall m_opened (aCons (eVar 3) (aNil))))
    (sSeq (sIf (tV (e1 isNV (eVar 4))) (sRet (eVar 1))
    (sNil))
    (sE (eBM 5 appendV (eVar 1) (aCons (eVar 4) (aNil)))))))
    (sRet (eVar 1)))))
end Mir
set_option Elab.async false
set_option maxRecDepth 100000
namespace Mir
open Cn
/- classes: {'Bill': 11, 'Ledger': 12}; fields: {'end': 21, 'number': 49, 'caller': 50, 'callee': 51, 'answer': 52, 'cost': 53, 'tariff': 54, 'journal': 55, 'found': 56} -/
def m_Bill_init : Def := runD 5 5 (
    sSeq (sFld [11] 49 (eVar 0) (eVar 1))
    (sSeq (sFld [11] 50 (eVar 0) (eVar 2))
    (sSeq (sFld [11] 51 (eVar 0) (eVar 3))
    (sSeq (sFld [11] 52 (eVar 0) (eVar 4))
    (sSeq (sFld [11] 21 (eVar 0) (eC .non))
    (sFld [11] 53 (eVar 0) (eC .non)))))))
def m_Bill_row : Def := runD 1 1 (
    sRet (eTup (aCons (eFld [11] 49 (eVar 0)) (aCons (eFld [11] 50 (eVar 0)) (aCons (eFld [11] 51 (eVar 0)) (aCons (eFld [11] 52 (eVar 0)) (aCons (eFld [11] 21 (eVar 0)) (aCons (eFld [11] 53 (eVar 0)) (aNil)))))))))
def m_Ledger_init : Def := runD 2 2 (
    sSeq (sFld [12] 54 (eVar 0) (eVar 1))
    (sSeq (sFld [12] 55 (eVar 0) (eMake 10 (re id m_Journal_init) aNil))
    (sFld [12] 56 (eVar 0) (eNewD (.dK [])))))
def m_Ledger_begin : Def := runD 5 5 (
    sSeq (sDPut (eMake 11 (re id m_Bill_init) (aCons (eVar 1) (aCons (eVar 2) (aCons (eVar 3) (aCons (eVar 4) (aNil)))))) (eFld [12] 56 (eVar 0)) (eVar 1))
    (sSeq (sE (eMeth [(10, re id m_Journal_append)] (none) (eFld [12] 55 (eVar 0)) (aCons (e2 addV (e2 addV (e2 addV (e2 addV (e2 addV (e2 addV (e2 addV (eC (.str [111, 112, 101, 110, 32])) (eCall strV (aCons (eVar 1) (aNil)))) (eC (.str [32]))) (eVar 2)) (eC (.str [32]))) (eVar 3)) (eC (.str [32]))) (eCall strV (aCons (eVar 4) (aNil)))) (aNil))))
    (sE (eMeth [(10, re id m_Journal_sync)] (none) (eFld [12] 55 (eVar 0)) aNil))))
def m_Ledger_finish : Def := runD 4 3 (
    sSeq (sSet 3 (e2 dixV (eFld [12] 56 (eVar 0)) (eVar 1)))
    (sSeq (sFld [11] 21 (eVar 3) (eVar 2))
    (sSeq (sFld [11] 53 (eVar 3) (eMeth [(9, re id m_Tariff_cost)] (some 53) (eFld [12] 54 (eVar 0)) (aCons (e2 subV (eVar 2) (eFld [11] 52 (eVar 3))) (aNil))))
    (sE (eMeth [(10, re id m_Journal_append)] (none) (eFld [12] 55 (eVar 0)) (aCons (e2 addV (e2 addV (e2 addV (e2 addV (e2 addV (eC (.str [99, 108, 111, 115, 101, 32])) (eCall strV (aCons (eVar 1) (aNil)))) (eC (.str [32]))) (eCall strV (aCons (eVar 2) (aNil)))) (eC (.str [32]))) (eCall strV (aCons (eFld [11] 53 (eVar 3)) (aNil)))) (aNil)))))))
def m_Ledger_is_open : Def := runD 2 2 (
    sRet (eAnd (e2 dinV (eVar 1) (eFld [12] 56 (eVar 0))) (e1 isNV (eFld [11] 21 (e2 dixV (eFld [12] 56 (eVar 0)) (eVar 1))))))
def m_Ledger_bills : Def := runD 2 1 (
    sRet (eComp [1] (eCall sortDV (aCons (eFld [12] 56 (eVar 0)) (aNil))) (gSet 1) (tV (e1 notNV (eFld [11] 21 (e2 dixV (eFld [12] 56 (eVar 0)) (eVar 1))))) (eMeth [(11, re id m_Bill_row)] (none) (e2 dixV (eFld [12] 56 (eVar 0)) (eVar 1)) aNil)))
def m_Ledger_pending : Def := runD 2 1 (
    sRet (eComp [1] (eCall sortDV (aCons (eFld [12] 56 (eVar 0)) (aNil))) (gSet 1) (tV (e1 isNV (eFld [11] 21 (e2 dixV (eFld [12] 56 (eVar 0)) (eVar 1))))) (eVar 1)))
def m_Ledger_greatest : Def := runD 1 1 (
    sRet (eMaxD 0 (eCall listDV (aCons (eFld [12] 56 (eVar 0)) (aNil)))))
def m_read_open : Def := runD 3 1 (
    sSeq (sIf (Cn.tOr (tV (e2 neV (eCall lenV (aCons (eVar 0) (aNil))) (eC (.int 5)))) (Cn.tOr (tV (e2 neV (e2 ixV (eVar 0) (eC (.int 0))) (eC (.str [111, 112, 101, 110])))) (Cn.tOr (Cn.tNot (tV (eCall m_is_address (aCons (e2 ixV (eVar 0) (eC (.int 2))) (aNil))))) (Cn.tNot (tV (eCall m_is_address (aCons (e2 ixV (eVar 0) (eC (.int 3))) (aNil)))))))) (sRet (eC .non))
    (sNil))
    (sSeq (sSet 1 (eCall m_read_number (aCons (e2 ixV (eVar 0) (eC (.int 1))) (aCons (eC (.int 999999999)) (aNil)))))
    (sSeq (sSet 2 (eCall m_read_number (aCons (e2 ixV (eVar 0) (eC (.int 4))) (aCons (eC (.int 999999999)) (aNil)))))
    (sSeq (sIf (Cn.tOr (tV (e1 isNV (eVar 1))) (tV (e1 isNV (eVar 2)))) (sRet (eC .non))
    (sNil))
    (sRet (eMake 11 (re id m_Bill_init) (aCons (eVar 1) (aCons (e2 ixV (eVar 0) (eC (.int 2))) (aCons (e2 ixV (eVar 0) (eC (.int 3))) (aCons (eVar 2) (aNil)))))))))))
def m_read_close : Def := runD 3 1 (
    sSeq (sIf (Cn.tOr (tV (e2 neV (eCall lenV (aCons (eVar 0) (aNil))) (eC (.int 4)))) (tV (e2 neV (e2 ixV (eVar 0) (eC (.int 0))) (eC (.str [99, 108, 111, 115, 101]))))) (sRet (eC .non))
    (sNil))
    (sSeq (sSet 1 (eComp [2] (eSlice (eVar 0) (oSome (eC (.int 1))) oNone) (gSet 2) (Cn.tYes) (eCall m_read_number (aCons (eVar 2) (aCons (eC (.int 999999999)) (aNil))))))
    (sSeq (sIf (tV (e2 Cn.inV (eC .non) (eVar 1))) (sRet (eC .non))
    (sNil))
    (sRet (eTup (aCons (e2 ixV (eVar 1) (eC (.int 0))) (aCons (e2 ixV (eVar 1) (eC (.int 1))) (aCons (e2 ixV (eVar 1) (eC (.int 2))) (aNil)))))))))
def m_replay : Def := runD 6 2 (
    sFor (eCall m_read_journal (aCons (eVar 1) (aNil))) (gSet 2)
    (sSeq (sSet 3 (eBM 3 splitV (eVar 2) (aCons (eC (.str [32])) (aNil))))
    (sSeq (sSet 4 (eCall m_read_open (aCons (eVar 3) (aNil))))
    (sSeq (sSet 5 (eCall m_read_close (aCons (eVar 3) (aNil))))
    (sIf (Cn.tAnd (tV (e1 notNV (eVar 4))) (tV (e2 dninV (eFld [11] 49 (eVar 4)) (eFld [12] 56 (eVar 0))))) (sSeq (sDPut (eVar 4) (eFld [12] 56 (eVar 0)) (eFld [11] 49 (eVar 4)))
    (sE (eMeth [(10, re id m_Journal_append)] (none) (eFld [12] 55 (eVar 0)) (aCons (eVar 2) (aNil)))))
    (sIf (Cn.tAnd (tV (e1 notNV (eVar 5))) (tV (eMeth [(12, re id m_Ledger_is_open)] (none) (eVar 0) (aCons (e2 ixV (eVar 5) (eC (.int 0))) (aNil))))) (sSeq (sFld [11] 21 (e2 dixV (eFld [12] 56 (eVar 0)) (e2 ixV (eVar 5) (eC (.int 0)))) (e2 ixV (eVar 5) (eC (.int 1))))
    (sSeq (sFld [11] 53 (e2 dixV (eFld [12] 56 (eVar 0)) (e2 ixV (eVar 5) (eC (.int 0)))) (e2 ixV (eVar 5) (eC (.int 2))))
    (sE (eMeth [(10, re id m_Journal_append)] (none) (eFld [12] 55 (eVar 0)) (aCons (eVar 2) (aNil))))))
    (sNil)))))))
def m_recover : Def := runD 5 3 (
    sSeq (sSet 3 (eMake 12 (re id m_Ledger_init) (aCons (eVar 0) (aNil))))
    (sSeq (sE (eCall m_replay (aCons (eVar 3) (aCons (eVar 1) (aNil)))))
    (sSeq (sFor (eMeth [(12, re id m_Ledger_pending)] (none) (eVar 3) aNil) (gSet 4)
    (sE (eMeth [(12, re id m_Ledger_finish)] (none) (eVar 3) (aCons (eVar 4) (aCons (eCall maxV (aCons (eVar 2) (aCons (eFld [11] 52 (e2 dixV (eFld [12] 56 (eVar 3)) (eVar 4))) (aNil)))) (aNil))))))
    (sSeq (sE (eMeth [(10, re id m_Journal_sync)] (none) (eFld [12] 55 (eVar 3)) aNil))
    (sRet (eVar 3))))))
end Mir
set_option Elab.async false
set_option maxRecDepth 100000
section
open Cn Mir Dw
local macro_rules | `(tactic| get_elem_tactic_trivial) => `(tactic| ((with_reducible apply Fx.at); assumption; get_elem_tactic_trivial; (first | exact List.not_mem_nil | (first | omega | focus (simp <;> omega)))))
local macro_rules | `(tactic| get_elem_tactic_trivial) => `(tactic| ((with_reducible apply at_new_lt); get_elem_tactic_trivial))
local macro_rules | `(tactic| get_elem_tactic_trivial) => `(tactic| ((with_reducible apply at_set_eq); get_elem_tactic_trivial))
local macro_rules | `(tactic| get_elem_tactic_trivial) => `(tactic| ((with_reducible apply at_set_ne); (first | assumption | omega | focus (simp only [len_new', len_set']; omega)); get_elem_tactic_trivial))
local macro_rules | `(tactic| get_elem_tactic_trivial) => `(tactic| ((with_reducible apply at_new_eq); (first | with_reducible rfl | focus (simp only [len_new', len_set']; done) | focus (simp only [len_new', len_set']; omega))))
local macro_rules | `(tactic| get_elem_tactic_trivial) => `(tactic| with_reducible assumption)
local macro_rules | `(tactic| fail "q") => `(tactic| ((with_reducible refine k_ifn ?_ ?_); (first | exact Bool.false_ne_true | decide | assumption)))
local macro_rules | `(tactic| fail "q") => `(tactic| ((with_reducible refine k_ifp ?_ ?_); (first | rfl | trivial | assumption)))
local macro_rules | `(tactic| fail "q") => `(tactic| ((with_reducible refine k_aso rfl ?_)))
local macro_rules | `(tactic| fail "q") => `(tactic| ((with_reducible apply k_dpK); get_elem_tactic_trivial; rfl; omega))
local macro_rules | `(tactic| fail "q") => `(tactic| ((with_reducible apply k_dpT); get_elem_tactic_trivial; rfl; omega))
local macro_rules | `(tactic| fail "q") => `(tactic| ((with_reducible apply k_dgK); get_elem_tactic_trivial; rfl))
local macro_rules | `(tactic| fail "q") => `(tactic| ((with_reducible apply k_dgT); get_elem_tactic_trivial; rfl))
local macro_rules | `(tactic| fail "q") => `(tactic| ((with_reducible apply k_slicel); get_elem_tactic_trivial))
local macro_rules | `(tactic| fail "q") => `(tactic| ((with_reducible apply k_isil); get_elem_tactic_trivial))
local macro_rules | `(tactic| fail "q") => `(tactic| ((with_reducible apply k_tupl); get_elem_tactic_trivial))
local macro_rules | `(tactic| fail "q") => `(tactic| ((with_reducible apply k_listl); get_elem_tactic_trivial))
local macro_rules | `(tactic| fail "q") => `(tactic| ((with_reducible apply k_isDK); get_elem_tactic_trivial))
local macro_rules | `(tactic| fail "q") => `(tactic| ((with_reducible apply k_isDT); get_elem_tactic_trivial))
local macro_rules | `(tactic| fail "q") => `(tactic| ((with_reducible apply k_asp); rfl))
local macro_rules | `(tactic| fail "q") => `(tactic| ((with_reducible apply k_ninl); get_elem_tactic_trivial; rfl))
local macro_rules | `(tactic| fail "q") => `(tactic| ((with_reducible apply k_inl); get_elem_tactic_trivial; rfl))
local macro_rules | `(tactic| fail "q") => `(tactic| ((with_reducible refine k_nint ?_ ?_); rfl))
local macro_rules | `(tactic| fail "q") => `(tactic| ((with_reducible refine k_ninC ?_ ?_); rfl))
local macro_rules | `(tactic| fail "q") => `(tactic| ((with_reducible refine k_inC ?_ ?_); rfl))
local macro_rules | `(tactic| fail "q") => `(tactic| ((with_reducible refine k_int ?_ ?_); rfl))
local macro_rules | `(tactic| fail "q") => `(tactic| ((with_reducible apply k_lend); get_elem_tactic_trivial; rfl))
local macro_rules | `(tactic| fail "q") => `(tactic| ((with_reducible apply k_lcons); get_elem_tactic_trivial; rfl))
local macro_rules | `(tactic| fail "q") => `(tactic| ((with_reducible apply k_addl); get_elem_tactic_trivial; get_elem_tactic_trivial; (first | omega | focus (simp <;> omega))))
local macro_rules | `(tactic| fail "q") => `(tactic| ((with_reducible refine Ok.eq (z_str _ ?_ ?_) ?_); omega; omega))
local macro_rules | `(tactic| fail "q") => `(tactic| ((with_reducible refine Ok.eq (z_lens _ ?_) ?_); omega))
local macro_rules | `(tactic| fail "q") => `(tactic| ((with_reducible refine Ok.eq (z_mul' _ _ ?_) ?_); omega))
local macro_rules | `(tactic| fail "q") => `(tactic| ((with_reducible refine Ok.eq (z_mul _ _ ?_) ?_); omega))
local macro_rules | `(tactic| fail "q") => `(tactic| ((with_reducible refine Ok.eq (z_adds _ _ ?_) ?_); (first | omega | focus (simp <;> omega))))
local macro_rules | `(tactic| fail "q") => `(tactic| ((with_reducible refine Ok.eq (z_inti _) ?_)))
local macro_rules | `(tactic| fail "q") => `(tactic| ((with_reducible refine Ok.eq (z_isNt _) ?_)))
local macro_rules | `(tactic| fail "q") => `(tactic| ((with_reducible refine Ok.eq (z_isNr _) ?_)))
local macro_rules | `(tactic| fail "q") => `(tactic| ((with_reducible refine Ok.eq (z_isNs _) ?_)))
local macro_rules | `(tactic| fail "q") => `(tactic| ((with_reducible refine Ok.eq (z_isNi _) ?_)))
local macro_rules | `(tactic| fail "q") => `(tactic| ((with_reducible refine Ok.eq (z_isN) ?_)))
local macro_rules | `(tactic| fail "q") => `(tactic| ((with_reducible refine Ok.eq (z_notNt _) ?_)))
local macro_rules | `(tactic| fail "q") => `(tactic| ((with_reducible refine Ok.eq (z_notNr _) ?_)))
local macro_rules | `(tactic| fail "q") => `(tactic| ((with_reducible refine Ok.eq (z_notNs _) ?_)))
local macro_rules | `(tactic| fail "q") => `(tactic| ((with_reducible refine Ok.eq (z_notNi _) ?_)))
local macro_rules | `(tactic| fail "q") => `(tactic| ((with_reducible refine Ok.eq (z_notN) ?_)))
local macro_rules | `(tactic| fail "q") => `(tactic| ((with_reducible refine Ok.eq (z_neb _ _) ?_)))
local macro_rules | `(tactic| fail "q") => `(tactic| ((with_reducible refine Ok.eq (z_eqb _ _) ?_)))
local macro_rules | `(tactic| fail "q") => `(tactic| ((with_reducible refine Ok.eq (z_isi_b _ _) ?_)))
local macro_rules | `(tactic| fail "q") => `(tactic| ((with_reducible refine Ok.eq (z_nes _ _) ?_)))
local macro_rules | `(tactic| fail "q") => `(tactic| ((with_reducible refine Ok.eq (z_nei _ _) ?_)))
local macro_rules | `(tactic| fail "q") => `(tactic| ((with_reducible refine Ok.eq (z_eqs _ _) ?_)))
local macro_rules | `(tactic| fail "q") => `(tactic| ((with_reducible refine Ok.eq (z_eqi _ _) ?_)))
local macro_rules | `(tactic| fail "q") => `(tactic| ((with_reducible refine Ok.eq (z_ge _ _) ?_)))
local macro_rules | `(tactic| fail "q") => `(tactic| ((with_reducible refine Ok.eq (z_gt _ _) ?_)))
local macro_rules | `(tactic| fail "q") => `(tactic| ((with_reducible refine Ok.eq (z_le _ _) ?_)))
local macro_rules | `(tactic| fail "q") => `(tactic| ((with_reducible refine Ok.eq (z_lt _ _) ?_)))
local macro_rules | `(tactic| fail "q") => `(tactic| ((with_reducible refine Ok.eq (z_neg _) ?_)))
local macro_rules | `(tactic| fail "q") => `(tactic| ((with_reducible refine Ok.eq (z_sub _ _) ?_)))
local macro_rules | `(tactic| fail "q") => `(tactic| ((with_reducible refine Ok.eq (z_addI _ _) ?_)))
local macro_rules | `(tactic| fail "q") => `(tactic| ((with_reducible refine Ok.eq (z_add _ _) ?_)))
local macro_rules | `(tactic| fail "q") => `(tactic| ((with_reducible refine k_le ?_ ?_); (first | omega | focus (simp <;> omega))))
local macro_rules | `(tactic| fail "q") => `(tactic| ((with_reducible apply k_kind); get_elem_tactic_trivial))
local macro_rules | `(tactic| fail "q") => `(tactic| ((with_reducible apply k_same); get_elem_tactic_trivial; get_elem_tactic_trivial))
local macro_rules | `(tactic| fail "q") => `(tactic| ((with_reducible apply k_lenl); get_elem_tactic_trivial))
local macro_rules | `(tactic| fail "q") => `(tactic| ((with_reducible apply k_app); get_elem_tactic_trivial; (first | omega | focus (simp <;> omega))))
local macro_rules | `(tactic| fail "q") => `(tactic| ((with_reducible apply k_setl); get_elem_tactic_trivial; (first | decide | omega | (first | omega | focus (simp <;> omega))); (first | omega | focus (simp <;> omega)); rfl))
local macro_rules | `(tactic| fail "q") => `(tactic| ((with_reducible apply k_ixln); get_elem_tactic_trivial; (first | decide | omega | (first | omega | focus (simp <;> omega))); rfl))
local macro_rules | `(tactic| fail "q") => `(tactic| ((with_reducible apply k_ixt); decide; rfl))
local macro_rules | `(tactic| fail "q") => `(tactic| ((with_reducible apply k_methC); get_elem_tactic_trivial; rfl; rfl))
local macro_rules | `(tactic| fail "q") => `(tactic| ((with_reducible apply k_setF); get_elem_tactic_trivial; rfl; rfl))
local macro_rules | `(tactic| fail "q") => `(tactic| ((with_reducible apply k_getF); get_elem_tactic_trivial; rfl; rfl))
local macro_rules | `(tactic| fail "q") => `(tactic| ((with_reducible refine k_ord ?_)))
local macro_rules | `(tactic| fail "q") => `(tactic| ((with_reducible refine k_sw ?_)))
local macro_rules | `(tactic| fail "q") => `(tactic| ((with_reducible refine k_fldaug ?_)))
local macro_rules | `(tactic| fail "q") => `(tactic| ((with_reducible refine k_newD ?_)))
local macro_rules | `(tactic| fail "q") => `(tactic| ((with_reducible refine k_listt ?_)))
local macro_rules | `(tactic| fail "q") => `(tactic| ((with_reducible refine k_dnin ?_)))
local macro_rules | `(tactic| fail "q") => `(tactic| ((with_reducible refine k_din ?_)))
local macro_rules | `(tactic| fail "q") => `(tactic| ((with_reducible refine k_dix ?_)))
local macro_rules | `(tactic| fail "q") => `(tactic| ((with_reducible refine k_dput ?_)))
local macro_rules | `(tactic| fail "q") => `(tactic| ((with_reducible refine k_dget2 ?_)))
local macro_rules | `(tactic| fail "q") => `(tactic| ((with_reducible refine k_dget1 ?_)))
local macro_rules | `(tactic| fail "q") => `(tactic| ((with_reducible refine k_min ?_)))
local macro_rules | `(tactic| fail "q") => `(tactic| ((with_reducible refine k_re ?_)))
local macro_rules | `(tactic| fail "q") => `(tactic| ((with_reducible refine k_kinds ?_)))
local macro_rules | `(tactic| fail "q") => `(tactic| ((with_reducible refine k_asi ?_)))
local macro_rules | `(tactic| fail "q") => `(tactic| ((with_reducible refine k_asb ?_)))
local macro_rules | `(tactic| fail "q") => `(tactic| ((with_reducible refine k_cont ?_)))
local macro_rules | `(tactic| fail "q") => `(tactic| ((with_reducible refine k_retN ?_)))
local macro_rules | `(tactic| fail "q") => `(tactic| ((with_reducible refine k_aapp ?_)))
local macro_rules | `(tactic| fail "q") => `(tactic| ((with_reducible refine k_eif ?_)))
local macro_rules | `(tactic| fail "q") => `(tactic| ((with_reducible refine k_osome ?_)))
local macro_rules | `(tactic| fail "q") => `(tactic| ((with_reducible refine k_onone ?_)))
local macro_rules | `(tactic| fail "q") => `(tactic| ((with_reducible refine k_slice ?_)))
local macro_rules | `(tactic| fail "q") => `(tactic| ((with_reducible refine k_ix ?_)))
local macro_rules | `(tactic| fail "q") => `(tactic| ((with_reducible refine k_asg ?_)))
local macro_rules | `(tactic| fail "q") => `(tactic| ((with_reducible refine k_chain ?_)))
local macro_rules | `(tactic| fail "q") => `(tactic| ((with_reducible refine k_enot ?_)))
local macro_rules | `(tactic| fail "q") => `(tactic| ((with_reducible refine k_eor ?_)))
local macro_rules | `(tactic| fail "q") => `(tactic| ((with_reducible refine k_eand ?_)))
local macro_rules | `(tactic| fail "q") => `(tactic| ((with_reducible refine k_tnot ?_)))
local macro_rules | `(tactic| fail "q") => `(tactic| ((with_reducible refine k_tor ?_)))
local macro_rules | `(tactic| fail "q") => `(tactic| ((with_reducible refine k_tand ?_)))
local macro_rules | `(tactic| fail "q") => `(tactic| ((with_reducible refine k_make ?_)))
local macro_rules | `(tactic| fail "q") => `(tactic| ((with_reducible refine k_meth ?_)))
local macro_rules | `(tactic| fail "q") => `(tactic| ((with_reducible refine k_tup ?_)))
local macro_rules | `(tactic| fail "q") => `(tactic| ((with_reducible refine k_lst ?_)))
local macro_rules | `(tactic| fail "q") => `(tactic| ((with_reducible refine k_nil ?_)))
local macro_rules | `(tactic| fail "q") => `(tactic| ((with_reducible refine k_e1 ?_)))
local macro_rules | `(tactic| fail "q") => `(tactic| ((with_reducible refine k_bm ?_)))
local macro_rules | `(tactic| fail "q") => `(tactic| ((with_reducible refine k_fld ?_)))
local macro_rules | `(tactic| fail "q") => `(tactic| ((with_reducible refine k_e ?_)))
local macro_rules | `(tactic| fail "q") => `(tactic| ((with_reducible refine k_tv ?_)))
local macro_rules | `(tactic| fail "q") => `(tactic| ((with_reducible refine k_if ?_)))
local macro_rules | `(tactic| fail "q") => `(tactic| ((with_reducible refine k_ret ?_)))
local macro_rules | `(tactic| fail "q") => `(tactic| ((with_reducible refine k_efld ?_)))
local macro_rules | `(tactic| fail "q") => `(tactic| ((with_reducible refine k_e2 ?_)))
local macro_rules | `(tactic| fail "q") => `(tactic| ((with_reducible refine k_call ?_)))
local macro_rules | `(tactic| fail "q") => `(tactic| ((with_reducible refine k_anil ?_)))
local macro_rules | `(tactic| fail "q") => `(tactic| ((with_reducible refine k_acons ?_)))
local macro_rules | `(tactic| fail "q") => `(tactic| ((with_reducible refine k_c ?_)))
local macro_rules | `(tactic| fail "q") => `(tactic| ((with_reducible apply k_var); rfl))
local macro_rules | `(tactic| fail "q") => `(tactic| ((with_reducible refine k_set ?_)))
local macro_rules | `(tactic| fail) => `(tactic| first
  | ((with_reducible apply k_seqN); focus (first | (simp only [List.set_cons_zero, List.set_cons_succ, List.map_cons, List.map_nil, List.length_cons, List.length_nil, List.replicate_succ, List.replicate_zero, List.cons_append, List.nil_append, Nat.reduceAdd, Nat.reduceSub, Nat.zero_add]; done) | (simp only [List.set_cons_zero, List.set_cons_succ, List.map_cons, List.map_nil, List.length_cons, List.length_nil, List.replicate_succ, List.replicate_zero, List.cons_append, List.nil_append, Nat.reduceAdd, Nat.reduceSub, Nat.zero_add]; rfl) | rfl))
  | fail "q"
  | (fail_if_success skip))
local macro_rules | `(tactic| exfalso) => `(tactic| first
  | exact Fx.rfl
  | ((with_reducible refine Fx.newf ?_); exfalso)
  | ((with_reducible refine Fx.setf ?_ ?_); exfalso; (first | omega | focus (simp only [len_new', len_set']; omega)))
  | ((with_reducible refine Fx.sets ?_ ?_); exfalso; simp))
set_option Elab.async false
set_option maxRecDepth 100000
set_option linter.all false
set_option maxHeartbeats 1000000
namespace Sp
open Cn Mir Dw
variable {h : CH}
theorem splC_no {c : Nat} : ∀ {w : List Nat}, c ∉ w → splC c w = [w]
  | [], _ => rfl
  | x :: r, m => by
    simp at m
    unfold splC
    rw [if_neg (fun e => m.1 e.symm), splC_no m.2]
theorem splC_app {c : Nat} : ∀ {w : List Nat} (r : List Nat), c ∉ w → splC c (w ++ c :: r) = w :: splC c r
  | [], r, _ => by simp [splC]
  | x :: w, r, m => by
    simp at m
    have e : splC c (x :: (w ++ c :: r)) = if x = c then [] :: splC c (w ++ c :: r) else match splC c (w ++ c :: r) with
      | p :: ps => (x :: p) :: ps
      | [] => [[x]] := rfl
    rw [List.cons_append, e, if_neg (fun e => m.1 e.symm), splC_app r m.2]
theorem splC_join {c : Nat} : ∀ {ws : List (List Nat)}, ws ≠ [] → (∀ w ∈ ws, c ∉ w) → splC c (joinC [c] ws) = ws
  | [], n, _ => absurd rfl n
  | [w], _, m => by simp only [joinC]; exact splC_no (m w (by simp))
  | w :: v :: r, _, m => by
    simp only [joinC]
    rw [List.append_assoc]
    show splC c (w ++ c :: joinC [c] (v :: r)) = _
    rw [splC_app _ (m w (by simp)), splC_join (by simp) (fun x hx => m x (List.mem_cons_of_mem _ hx))]
theorem joinC_len (c : Nat) : ∀ {ws : List (List Nat)} {k : Nat}, (∀ w ∈ ws, w.length ≤ k) → (joinC [c] ws).length ≤ ws.length * (k + 1)
  | [], k, _ => by simp [joinC]
  | [w], k, m => by simp only [joinC]; have := m w (by simp); simp; omega
  | w :: v :: r, k, m => by
    have e := joinC_len c (ws := v :: r) (k := k) fun x hx => m x (List.mem_cons_of_mem _ hx)
    have := m w (by simp)
    simp only [joinC, List.length_append, List.length_cons, List.length_nil] at e ⊢
    rw [Nat.add_mul]
    omega
theorem numC_len {n k : Nat} (k0 : 0 < k) (l : n < 10 ^ k) : (numC n).length ≤ k := by
  unfold numC
  rw [List.length_map]
  exact (Nat.length_toDigits_le_iff (by omega) k0).mpr l
structure Let where
  verb : List Nat
  code : Option Int
  call : List Nat
  origin : List Nat
  otag : List Nat
  target : List Nat
  ttag : List Nat
  seq : Int
  way : List Nat
  offer : Option (Int × List Nat × List (List Nat))
  stay : Option Int
  goal : Option (List Nat)
def oI : Option Int → CV
  | some i => .int i
  | none => .non
theorem oI_none : oI none = CV.non := rfl
theorem oI_some (i : Int) : oI (some i) = CV.int i := rfl
def oS : Option (List Nat) → CV
  | some i => .str i
  | none => .non
theorem oS_none : oS none = CV.non := rfl
theorem oS_some (i : List Nat) : oS (some i) = CV.str i := rfl
abbrev offV (o : Int × List Nat × List (List Nat)) : CV := .tup [.int o.1, .str o.2.1, .tup (o.2.2.map CV.str)]
def oO : Option (Int × List Nat × List (List Nat)) → CV
  | some o => offV o
  | none => .non
theorem oO_none : oO none = CV.non := rfl
theorem oO_some (o : Int × List Nat × List (List Nat)) : oO (some o) = offV o := rfl
abbrev letF (l : Let) : List (Nat × CV) := [(2, .str l.verb), (3, oI l.code), (4, .str l.call), (5, .str l.origin), (6, .str l.otag), (7, .str l.target), (8, .str l.ttag), (9, .int l.seq), (10, .str l.way), (11, oO l.offer), (12, oI l.stay), (13, oS l.goal)]
abbrev letO (l : Let) : CO := .ins 3 (letF l)
def offW (o : Int × List Nat × List (List Nat)) : List (List Nat) := [numC o.1.toNat, o.2.1, joinC [44] o.2.2]
def headP (v : List Nat) : Option Int → List (List Nat)
  | none => [[114, 101, 113, 117, 101, 115, 116], v]
  | some c => [[114, 101, 112, 108, 121], numC c.toNat, v]
def toP (a t : List Nat) : List (List Nat) := if t = [] then [[116, 111], a] else [[116, 111], a, t]
def offP : Option (Int × List Nat × List (List Nat)) → List (List (List Nat))
  | none => []
  | some o => [[111, 102, 102, 101, 114] :: offW o]
def stayP : Option Int → List (List (List Nat))
  | none => []
  | some i => [[[115, 116, 97, 121], numC i.toNat]]
def goalP : Option (List Nat) → List (List (List Nat))
  | none => []
  | some g => [[[103, 111, 97, 108], g]]
def wwords (l : Let) : List (List (List Nat)) :=
  [headP l.verb l.code, [[99, 97, 108, 108], l.call], [[102, 114, 111, 109], l.origin, l.otag], toP l.target l.ttag, [[115, 101, 113], numC l.seq.toNat], [[119, 97, 121], l.way]] ++ (offP l.offer ++ (stayP l.stay ++ goalP l.goal))
def wlines (l : Let) : List (List Nat) := (wwords l).map (joinC [32])
def wtext (l : Let) : List Nat := joinC [10] (wlines l) ++ [10]
structure LetW (l : Let) : Prop where
  verb : l.verb.length ≤ 100
  code : ∀ c, l.code = some c → 0 ≤ c ∧ c < 1000000000
  call : l.call.length ≤ 100
  origin : l.origin.length ≤ 100
  otag : l.otag.length ≤ 100
  target : l.target.length ≤ 100
  ttag : l.ttag.length ≤ 100
  seq : 0 ≤ l.seq ∧ l.seq < 1000000000
  way : l.way.length ≤ 100
  offer : ∀ o, l.offer = some o → 0 ≤ o.1 ∧ o.1 < 1000000000 ∧ o.2.1.length ≤ 100 ∧ o.2.2.length ≤ 100 ∧ ∀ x ∈ o.2.2, x.length ≤ 100
  stay : ∀ c, l.stay = some c → 0 ≤ c ∧ c < 1000000000
  goal : ∀ g, l.goal = some g → g.length ≤ 100
abbrev Let.rep (l : Let) (code : Option Int) (tag : List Nat) (offer : Option (Int × List Nat × List (List Nat))) (stay : Option Int) : Let := ⟨l.verb, code, l.call, l.origin, l.otag, l.target, tag, l.seq, l.way, offer, stay, none⟩
theorem join_at {r : Nat} {zs : List (List Nat)} {a : List Nat} (e : h.at r = some (.lst (zs.map CV.str))) (l : (zs.map (·.length)).sum + zs.length * a.length ≤ 16777216) : joinV [.str a, .ref r] h = .ok (.str (joinC a zs)) h := by
  simp only [joinV, seqOf, lstOf, os_at, e, strsOf_map]
  exact if_pos l
theorem join_tup {zs : List (List Nat)} {a : List Nat} (l : (zs.map (·.length)).sum + zs.length * a.length ≤ 16777216) : joinV [.str a, .tup (zs.map CV.str)] h = .ok (.str (joinC a zs)) h := by
  simp only [joinV, seqOf, strsOf_map]
  exact if_pos l
theorem sum_le {zs : List (List Nat)} {k : Nat} (m : ∀ z ∈ zs, z.length ≤ k) : (zs.map (·.length)).sum ≤ zs.length * k := by
  induction zs with
  | nil => simp
  | cons z zs ih =>
    have := ih fun x hx => m x (List.mem_cons_of_mem _ hx)
    have := m z (by simp)
    simp only [List.map_cons, List.sum_cons, List.length_cons, Nat.add_mul]
    omega
theorem numC_len10 {c : Int} (h1 : 0 ≤ c ∧ c < 1000000000) : (numC c.toNat).length ≤ 9 := numC_len (by omega) (by omega)
theorem write_offer {o : Int × List Nat × List (List Nat)} (w : 0 ≤ o.1 ∧ o.1 < 1000000000 ∧ o.2.1.length ≤ 100 ∧ o.2.2.length ≤ 100 ∧ ∀ x ∈ o.2.2, x.length ≤ 100) : m_write_offer [offV o] h = .ok (.str (joinC [32] (offW o))) h := by
  obtain ⟨w1, w2, w3, w4, w5⟩ := w
  have n1 := numC_len10 ⟨w1, w2⟩
  have js := sum_le w5
  have jl := joinC_len 44 w5
  have k1 : o.2.2.length * 100 ≤ 100 * 100 := Nat.mul_le_mul w4 (Nat.le_refl _)
  have k2 : o.2.2.length * (100 + 1) ≤ 100 * 101 := Nat.mul_le_mul w4 (Nat.le_refl _)
  refine ev_defH rfl ?_
  repeat fail
  refine Ok.eq (join_tup (by simp; omega)) ?_
  repeat fail
  exact ⟨by simp [offW, joinC], rfl⟩
theorem wlines_le {l : Let} (w : LetW l) : (∀ z ∈ wlines l, z.length ≤ 20000) ∧ (wlines l).length ≤ 9 := by
  obtain ⟨w1, w2, w3, w4, w5, w6, w7, w8, w9, w10, w11, w12⟩ := w
  have n8 := numC_len10 w8
  have a1 : (joinC [32] (headP l.verb l.code)).length ≤ 20000 := by
    cases e : l.code with
    | none => simp [headP, joinC]; omega
    | some c => have n2 := numC_len10 (w2 c e); simp [headP, joinC]; omega
  have a2 : (joinC [32] (toP l.target l.ttag)).length ≤ 20000 := by unfold toP; split <;> simp [joinC] <;> omega
  have a3 : (∀ z ∈ (offP l.offer).map (joinC [32]), z.length ≤ 20000) ∧ (offP l.offer).length ≤ 1 := by
    cases e : l.offer with
    | none => simp [offP]
    | some o =>
      have w10 := w10 o e
      have n10 := numC_len10 ⟨w10.1, w10.2.1⟩
      have jl := joinC_len 44 w10.2.2.2.2
      have k2 : o.2.2.length * (100 + 1) ≤ 100 * 101 := Nat.mul_le_mul w10.2.2.2.1 (Nat.le_refl _)
      have k3 := w10.2.2.1
      simp [offP, offW, joinC]; omega
  have a4 : (∀ z ∈ (stayP l.stay).map (joinC [32]), z.length ≤ 20000) ∧ (stayP l.stay).length ≤ 1 := by
    cases e : l.stay with
    | none => simp [stayP]
    | some o => have n11 := numC_len10 (w11 o e); simp [stayP, joinC]; omega
  have a5 : (∀ z ∈ (goalP l.goal).map (joinC [32]), z.length ≤ 20000) ∧ (goalP l.goal).length ≤ 1 := by
    cases e : l.goal with
    | none => simp [goalP]
    | some o => have n12 := w12 o e; simp [goalP, joinC]; omega
  refine ⟨?_, by simp [wlines, wwords]; omega⟩
  intro z hz
  simp only [wlines, wwords, List.map_append, List.map_cons, List.map_nil, List.mem_append, List.mem_cons, List.not_mem_nil, or_false] at hz
  rcases hz with (rfl | rfl | rfl | rfl | rfl | rfl) | hz | hz | hz
  · exact a1
  · simp [joinC]; omega
  · simp [joinC]; omega
  · exact a2
  · simp [joinC]; omega
  · simp [joinC]; omega
  · exact a3.1 z hz
  · exact a4.1 z hz
  · exact a5.1 z hz
theorem write {r : Nat} {l : Let} (hl : h.at r = some (letO l)) (w : LetW l) : m_write [.ref r] h = .ok (.str (wtext l)) (h.new (.lst ((wlines l).map CV.str))) := by
  have lr := at_lt hl
  obtain ⟨wl1, wl2⟩ := wlines_le w
  obtain ⟨w1, w2, w3, w4, w5, w6, w7, w8, w9, w10, w11, w12⟩ := w
  have n8 := numC_len10 w8
  refine ev_defH rfl ?_
  refine Sk_seq (fun s1 h1 => s1 = [some (.ref r), some (.str ([114, 101, 113, 117, 101, 115, 116, 32] ++ l.verb)), none, none] ∧ h1 = h) ?_ ?_
  · repeat fail
    exact ⟨rfl, rfl⟩
  rintro s1 h1 ⟨rfl, rfl⟩
  refine Sk_seq (fun s2 h2 => s2 = [some (.ref r), some (.str (joinC [32] (headP l.verb l.code))), none, none] ∧ h2 = h1) ?_ ?_
  · cases e : l.code with
    | none =>
      repeat fail
      rw [e, oI_none]
      repeat fail
      exact ⟨by simp [headP, joinC], rfl⟩
    | some c =>
      have w2 := w2 c e
      have n2 := numC_len10 w2
      repeat fail
      rw [e, oI_some]
      repeat fail
      rw [e, oI_some]
      repeat fail
      exact ⟨by simp [headP, joinC], rfl⟩
  rintro s2 h2 ⟨rfl, rfl⟩
  have lh : (joinC [32] (headP l.verb l.code)).length ≤ 200 := by
    cases e : l.code with
    | none => simp [headP, joinC]; omega
    | some c =>
      have n2 := numC_len10 (w2 c e)
      simp [headP, joinC]; omega
  generalize hhd : joinC [32] (headP l.verb l.code) = hd at *
  refine Sk_seq (fun s3 h3 => s3 = [some (.ref r), some (.str hd), some (.str ([116, 111, 32] ++ l.target)), none] ∧ h3 = h2) ?_ ?_
  · repeat fail
    exact ⟨rfl, rfl⟩
  rintro s3 h3 ⟨rfl, rfl⟩
  refine Sk_seq (fun s4 h4 => s4 = [some (.ref r), some (.str hd), some (.str (joinC [32] (toP l.target l.ttag))), none] ∧ h4 = h3) ?_ ?_
  · repeat fail
    by_cases e : l.ttag = []
    · rw [if_neg (by simp [e])]
      repeat fail
      exact ⟨by simp [toP, e, joinC], rfl⟩
    · rw [if_pos (by simp [e])]
      repeat fail
      exact ⟨by simp [toP, e, joinC], rfl⟩
  rintro s4 h4 ⟨rfl, rfl⟩
  have lt : (joinC [32] (toP l.target l.ttag)).length ≤ 300 := by
    unfold toP
    split <;> simp [joinC] <;> omega
  generalize htl : joinC [32] (toP l.target l.ttag) = tl at *
  refine Sk_seq (fun s5 h5 => s5 = [some (.ref r), some (.str hd), some (.str tl), some (.ref h4.os.length)] ∧ h5 = h4.new (.lst [.str hd, .str (joinC [32] [[99, 97, 108, 108], l.call]), .str (joinC [32] [[102, 114, 111, 109], l.origin, l.otag]), .str tl])) ?_ ?_
  · repeat fail
    exact ⟨rfl, by simp [joinC]⟩
  rintro s5 h5 ⟨rfl, rfl⟩
  refine Sk_seq (fun s5 h5 => s5 = [some (.ref r), some (.str hd), some (.str tl), some (.ref h4.os.length)] ∧ h5 = h4.new (.lst ([.str hd, .str (joinC [32] [[99, 97, 108, 108], l.call]), .str (joinC [32] [[102, 114, 111, 109], l.origin, l.otag]), .str tl] ++ [.str (joinC [32] [[115, 101, 113], numC l.seq.toNat])]))) ?_ ?_
  · repeat fail
    rw [new_set rfl]
    exact ⟨rfl, by simp [joinC]⟩
  rintro s5 h5 ⟨rfl, rfl⟩
  generalize hb0 : ([.str hd, .str (joinC [32] [[99, 97, 108, 108], l.call]), .str (joinC [32] [[102, 114, 111, 109], l.origin, l.otag]), .str tl] ++ [.str (joinC [32] [[115, 101, 113], numC l.seq.toNat])] : List CV) = b0
  have lb0 : b0.length = 5 := by rw [← hb0]; rfl
  refine Sk_seq (fun s5 h5 => s5 = [some (.ref r), some (.str hd), some (.str tl), some (.ref h4.os.length)] ∧ h5 = h4.new (.lst (b0 ++ [.str (joinC [32] [[119, 97, 121], l.way])]))) ?_ ?_
  · repeat fail
    rw [new_set rfl]
    exact ⟨rfl, by simp [joinC]⟩
  rintro s5 h5 ⟨rfl, rfl⟩
  generalize hb1 : b0 ++ [.str (joinC [32] [[119, 97, 121], l.way])] = b1
  have lb1 : b1.length = 6 := by rw [← hb1]; simp [lb0]
  refine Sk_seq (fun s5 h5 => s5 = [some (.ref r), some (.str hd), some (.str tl), some (.ref h4.os.length)] ∧ h5 = h4.new (.lst (b1 ++ ((offP l.offer).map (joinC [32])).map CV.str))) ?_ ?_
  · cases e : l.offer with
    | none =>
      repeat fail
      rw [e, oO_none]
      repeat fail
      exact ⟨rfl, by simp [offP]⟩
    | some o =>
      have w10 := w10 o e
      have n10 := numC_len10 ⟨w10.1, w10.2.1⟩
      have jl := joinC_len 44 w10.2.2.2.2
      have k2 : o.2.2.length * (100 + 1) ≤ 100 * 101 := Nat.mul_le_mul w10.2.2.2.1 (Nat.le_refl _)
      have k3 := w10.2.2.1
      repeat fail
      rw [e, oO_some]
      repeat fail
      rw [e, oO_some]
      refine Ok.eq (write_offer w10) ?_
      repeat fail
      refine Ok.eq (z_adds _ _ (by simp [offW, joinC]; omega)) ?_
      repeat fail
      rw [new_set rfl]
      exact ⟨rfl, by simp [offP, offW, joinC]⟩
  rintro s5 h5 ⟨rfl, rfl⟩
  generalize hb2 : b1 ++ ((offP l.offer).map (joinC [32])).map CV.str = b2
  have lb2 : b2.length ≤ 7 := by rw [← hb2]; cases l.offer <;> simp [offP, lb1]
  refine Sk_seq (fun s5 h5 => s5 = [some (.ref r), some (.str hd), some (.str tl), some (.ref h4.os.length)] ∧ h5 = h4.new (.lst (b2 ++ ((stayP l.stay).map (joinC [32])).map CV.str))) ?_ ?_
  · cases e : l.stay with
    | none =>
      repeat fail
      rw [e, oI_none]
      repeat fail
      exact ⟨rfl, by simp [stayP]⟩
    | some o =>
      have w11 := w11 o e
      have n11 := numC_len10 w11
      repeat fail
      rw [e, oI_some]
      repeat fail
      rw [e, oI_some]
      repeat fail
      rw [new_set rfl]
      exact ⟨rfl, by simp [stayP, joinC]⟩
  rintro s5 h5 ⟨rfl, rfl⟩
  generalize hb3 : b2 ++ ((stayP l.stay).map (joinC [32])).map CV.str = b3
  have lb3 : b3.length ≤ 8 := by rw [← hb3]; cases l.stay <;> simp [stayP] <;> omega
  refine Sk_seq (fun s5 h5 => s5 = [some (.ref r), some (.str hd), some (.str tl), some (.ref h4.os.length)] ∧ h5 = h4.new (.lst (b3 ++ ((goalP l.goal).map (joinC [32])).map CV.str))) ?_ ?_
  · cases e : l.goal with
    | none =>
      repeat fail
      rw [e, oS_none]
      repeat fail
      exact ⟨rfl, by simp [goalP]⟩
    | some o =>
      have w12 := w12 o e
      repeat fail
      rw [e, oS_some]
      repeat fail
      rw [e, oS_some]
      repeat fail
      rw [new_set rfl]
      exact ⟨rfl, by simp [goalP, joinC]⟩
  rintro s5 h5 ⟨rfl, rfl⟩
  have el : b3 ++ ((goalP l.goal).map (joinC [32])).map CV.str = (wlines l).map CV.str := by
    rw [← hb3, ← hb2, ← hb1, ← hb0, ← hhd, ← htl]
    simp [wlines, wwords]
  rw [el]
  repeat fail
  refine Ok.eq (join_at (new_eq rfl) ?_) ?_
  · have := sum_le wl1
    have : (wlines l).length * 20000 ≤ 9 * 20000 := Nat.mul_le_mul wl2 (Nat.le_refl _)
    simp; omega
  have jl := joinC_len 10 wl1
  have : (wlines l).length * (20000 + 1) ≤ 9 * 20001 := Nat.mul_le_mul wl2 (Nat.le_refl _)
  repeat fail
  exact ⟨rfl, rfl⟩
abbrev rdO (lr : Nat) (i : Int) : CO := .ins 4 [(14, .ref lr), (0, .int i)]
structure Rd (h : CH) (r lr : Nat) (L : List (List Nat)) (i : Nat) : Prop where
  hr : h.at r = some (rdO lr i)
  hl : h.at lr = some (.lst (L.map CV.str))
  ne : r ≠ lr
variable {r lr i : Nat} {L : List (List Nat)}
structure Ln (L : List (List Nat)) (i : Nat) (ws : List (List Nat)) : Prop where
  e : L[i]? = some (joinC [32] ws)
  lt : i + 1 < L.length
  lz : (joinC [32] ws).length < 1000000
  no : ∀ w ∈ ws, 32 ∉ w
  lL : L.length < 1000000
theorem Ln.es {ws : List (List Nat)} (l : Ln L i ws) (n : ws ≠ []) : splC 32 (joinC [32] ws) = ws := splC_join n l.no
end Sp
set_option Elab.async false
set_option maxRecDepth 100000
set_option linter.all false
set_option maxHeartbeats 1000000
namespace Sp
open Cn Mir Dw
variable {h : CH}
theorem splC_ne (c : Nat) (x : List Nat) : splC c x ≠ [] := by
  cases x with
  | nil => simp [splC]
  | cons a r =>
    unfold splC
    split
    · simp
    · split <;> simp
theorem splC_mem {c : Nat} : ∀ {x z : List Nat}, z ∈ splC c x → z.length ≤ x.length
  | [], z, m => by simp [splC] at m; subst m; simp
  | a :: r, z, m => by
    unfold splC at m
    split at m
    · rcases List.mem_cons.mp m with rfl | m
      · simp
      · have := splC_mem m; simp; omega
    · split at m
      · next p ps e =>
        rcases List.mem_cons.mp m with rfl | m
        · have := splC_mem (x := r) (z := p) (c := c) (by rw [e]; simp); simp; omega
        · have := splC_mem (x := r) (z := z) (c := c) (by rw [e]; exact List.mem_cons_of_mem _ m); simp; omega
      · simp at m; subst m; simp
end Sp
end
set_option Elab.async false
set_option maxRecDepth 100000
section
open Cn Mir Dw
set_option hygiene false in
local macro_rules | `(tactic| get_elem_tactic_trivial) => `(tactic| with_reducible assumption)
set_option hygiene false in
local macro_rules | `(tactic| get_elem_tactic_trivial) => `(tactic| ((with_reducible apply ClsP.there); get_elem_tactic_trivial))
set_option hygiene false in
local macro_rules | `(tactic| get_elem_tactic_trivial) => `(tactic| ((with_reducible refine ClsP.legP)))
set_option hygiene false in
local macro_rules | `(tactic| get_elem_tactic_trivial) => `(tactic| ((with_reducible refine ClsP.rd49)))
set_option hygiene false in
local macro_rules | `(tactic| get_elem_tactic_trivial) => `(tactic| ((with_reducible refine ClsP.rd24)))
set_option hygiene false in
local macro_rules | `(tactic| get_elem_tactic_trivial) => `(tactic| ((with_reducible refine ClsP.rd)))
set_option hygiene false in
local macro_rules | `(tactic| get_elem_tactic_trivial) => `(tactic| ((with_reducible refine ClsP.legR)))
set_option hygiene false in
local macro_rules | `(tactic| get_elem_tactic_trivial) => `(tactic| ((with_reducible refine ClsP.sv)))
set_option hygiene false in
local macro_rules | `(tactic| get_elem_tactic_trivial) => `(tactic| ((with_reducible refine ClsP.phR0)))
set_option hygiene false in
local macro_rules | `(tactic| get_elem_tactic_trivial) => `(tactic| ((with_reducible refine ClsP.phR18)))
set_option hygiene false in
local macro_rules | `(tactic| get_elem_tactic_trivial) => `(tactic| ((with_reducible refine ClsP.phR)))
set_option hygiene false in
local macro_rules | `(tactic| get_elem_tactic_trivial) => `(tactic| ((with_reducible refine ClsP.cl)))
set_option hygiene false in
local macro_rules | `(tactic| get_elem_tactic_trivial) => `(tactic| ((with_reducible refine Cn.o_get O ?_); get_elem_tactic_trivial))
set_option hygiene false in
local macro_rules | `(tactic| get_elem_tactic_trivial) => `(tactic| ((with_reducible apply PickP.there); get_elem_tactic_trivial))
set_option hygiene false in
local macro_rules | `(tactic| get_elem_tactic_trivial) => `(tactic| ((with_reducible apply PickP.eq); exact rfl))
set_option hygiene false in
local macro_rules | `(tactic| get_elem_tactic_trivial) => `(tactic| ((with_reducible refine PickP.here)))
set_option hygiene false in
local macro_rules | `(tactic| get_elem_tactic_trivial) => `(tactic| ((with_reducible apply UpP.there); get_elem_tactic_trivial))
set_option hygiene false in
local macro_rules | `(tactic| get_elem_tactic_trivial) => `(tactic| ((with_reducible refine UpP.here ?_); rfl))
set_option hygiene false in
local macro_rules | `(tactic| get_elem_tactic_trivial) => `(tactic| ((with_reducible refine InP.there ?_); get_elem_tactic_trivial))
set_option hygiene false in
local macro_rules | `(tactic| get_elem_tactic_trivial) => `(tactic| ((with_reducible refine InP.here)))
set_option hygiene false in
local macro_rules | `(tactic| fail "q") => `(tactic| ((with_reducible refine k_ifn ?_ ?_); (first | exact Bool.false_ne_true | decide | assumption)))
set_option hygiene false in
local macro_rules | `(tactic| fail "q") => `(tactic| ((with_reducible refine k_ifp ?_ ?_); (first | rfl | trivial | assumption)))
set_option hygiene false in
local macro_rules | `(tactic| fail "q") => `(tactic| ((with_reducible refine k_aso rfl ?_)))
set_option hygiene false in
local macro_rules | `(tactic| fail "q") => `(tactic| ((with_reducible refine Cn.k_yes ?_)))
set_option hygiene false in
local macro_rules | `(tactic| fail "q") => `(tactic| ((with_reducible apply o_dpK O); get_elem_tactic_trivial; rfl; omega; intro h O))
set_option hygiene false in
local macro_rules | `(tactic| fail "q") => `(tactic| ((with_reducible apply o_dpT O); get_elem_tactic_trivial; rfl; omega; intro h O))
set_option hygiene false in
local macro_rules | `(tactic| fail "q") => `(tactic| ((with_reducible apply k_dgF); get_elem_tactic_trivial; rfl))
set_option hygiene false in
local macro_rules | `(tactic| fail "q") => `(tactic| ((with_reducible apply k_dgK); get_elem_tactic_trivial; rfl))
set_option hygiene false in
local macro_rules | `(tactic| fail "q") => `(tactic| ((with_reducible apply k_dgT); get_elem_tactic_trivial; rfl))
set_option hygiene false in
local macro_rules | `(tactic| fail "q") => `(tactic| ((with_reducible apply o_slicel O); get_elem_tactic_trivial; intro fr h O))
set_option hygiene false in
local macro_rules | `(tactic| fail "q") => `(tactic| ((with_reducible apply o_listt O); intro fr h O))
set_option hygiene false in
local macro_rules | `(tactic| fail "q") => `(tactic| ((with_reducible apply o_listl O); get_elem_tactic_trivial; intro fr h O))
set_option hygiene false in
local macro_rules | `(tactic| fail "q") => `(tactic| ((with_reducible apply k_isil); get_elem_tactic_trivial))
set_option hygiene false in
local macro_rules | `(tactic| fail "q") => `(tactic| ((with_reducible apply k_tupl); get_elem_tactic_trivial))
set_option hygiene false in
local macro_rules | `(tactic| fail "q") => `(tactic| ((with_reducible apply k_isDF); get_elem_tactic_trivial))
set_option hygiene false in
local macro_rules | `(tactic| fail "q") => `(tactic| ((with_reducible apply k_isDK); get_elem_tactic_trivial))
set_option hygiene false in
local macro_rules | `(tactic| fail "q") => `(tactic| ((with_reducible apply k_isDT); get_elem_tactic_trivial))
set_option hygiene false in
local macro_rules | `(tactic| fail "q") => `(tactic| ((with_reducible apply k_asp); rfl))
set_option hygiene false in
local macro_rules | `(tactic| fail "q") => `(tactic| ((with_reducible apply k_ninl); get_elem_tactic_trivial; rfl))
set_option hygiene false in
local macro_rules | `(tactic| fail "q") => `(tactic| ((with_reducible apply k_inl); get_elem_tactic_trivial; rfl))
set_option hygiene false in
local macro_rules | `(tactic| fail "q") => `(tactic| ((with_reducible refine k_nint ?_ ?_); rfl))
set_option hygiene false in
local macro_rules | `(tactic| fail "q") => `(tactic| ((with_reducible refine k_ninC ?_ ?_); rfl))
set_option hygiene false in
local macro_rules | `(tactic| fail "q") => `(tactic| ((with_reducible refine k_inC ?_ ?_); rfl))
set_option hygiene false in
local macro_rules | `(tactic| fail "q") => `(tactic| ((with_reducible refine k_int ?_ ?_); rfl))
set_option hygiene false in
local macro_rules | `(tactic| fail "q") => `(tactic| ((with_reducible apply k_lend); get_elem_tactic_trivial; rfl))
set_option hygiene false in
local macro_rules | `(tactic| fail "q") => `(tactic| ((with_reducible apply k_lcons); get_elem_tactic_trivial; rfl))
set_option hygiene false in
local macro_rules | `(tactic| fail "q") => `(tactic| ((with_reducible apply o_pop O); get_elem_tactic_trivial; intro h O))
set_option hygiene false in
local macro_rules | `(tactic| fail "q") => `(tactic| ((with_reducible apply o_addl O); get_elem_tactic_trivial; get_elem_tactic_trivial; (first | omega | focus (simp <;> omega)); intro fr h O))
set_option hygiene false in
local macro_rules | `(tactic| fail "q") => `(tactic| ((with_reducible refine Ok.eq (z_str _ ?_ ?_) ?_); omega; omega))
set_option hygiene false in
local macro_rules | `(tactic| fail "q") => `(tactic| ((with_reducible refine Ok.eq (z_lens _ ?_) ?_); omega))
set_option hygiene false in
local macro_rules | `(tactic| fail "q") => `(tactic| ((with_reducible refine Ok.eq (z_mul' _ _ ?_) ?_); omega))
set_option hygiene false in
local macro_rules | `(tactic| fail "q") => `(tactic| ((with_reducible refine Ok.eq (z_mul _ _ ?_) ?_); omega))
set_option hygiene false in
local macro_rules | `(tactic| fail "q") => `(tactic| ((with_reducible refine Ok.eq (z_adds _ _ ?_) ?_); (first | omega | focus (simp <;> omega))))
set_option hygiene false in
local macro_rules | `(tactic| fail "q") => `(tactic| ((with_reducible refine Ok.eq (z_lent _) ?_)))
set_option hygiene false in
local macro_rules | `(tactic| fail "q") => `(tactic| ((with_reducible refine Ok.eq (z_inti _) ?_)))
set_option hygiene false in
local macro_rules | `(tactic| fail "q") => `(tactic| ((with_reducible refine Ok.eq (z_isNt _) ?_)))
set_option hygiene false in
local macro_rules | `(tactic| fail "q") => `(tactic| ((with_reducible refine Ok.eq (z_isNr _) ?_)))
set_option hygiene false in
local macro_rules | `(tactic| fail "q") => `(tactic| ((with_reducible refine Ok.eq (z_isNs _) ?_)))
set_option hygiene false in
local macro_rules | `(tactic| fail "q") => `(tactic| ((with_reducible refine Ok.eq (z_isNi _) ?_)))
set_option hygiene false in
local macro_rules | `(tactic| fail "q") => `(tactic| ((with_reducible refine Ok.eq (z_isN) ?_)))
set_option hygiene false in
local macro_rules | `(tactic| fail "q") => `(tactic| ((with_reducible refine Ok.eq (z_notNt _) ?_)))
set_option hygiene false in
local macro_rules | `(tactic| fail "q") => `(tactic| ((with_reducible refine Ok.eq (z_notNr _) ?_)))
set_option hygiene false in
local macro_rules | `(tactic| fail "q") => `(tactic| ((with_reducible refine Ok.eq (z_notNs _) ?_)))
set_option hygiene false in
local macro_rules | `(tactic| fail "q") => `(tactic| ((with_reducible refine Ok.eq (z_notNi _) ?_)))
set_option hygiene false in
local macro_rules | `(tactic| fail "q") => `(tactic| ((with_reducible refine Ok.eq (z_notN) ?_)))
set_option hygiene false in
local macro_rules | `(tactic| fail "q") => `(tactic| ((with_reducible refine Ok.eq (z_neb _ _) ?_)))
set_option hygiene false in
local macro_rules | `(tactic| fail "q") => `(tactic| ((with_reducible refine Ok.eq (z_eqb _ _) ?_)))
set_option hygiene false in
local macro_rules | `(tactic| fail "q") => `(tactic| ((with_reducible refine Ok.eq (z_isi_b _ _) ?_)))
set_option hygiene false in
local macro_rules | `(tactic| fail "q") => `(tactic| ((with_reducible refine Ok.eq (z_nes _ _) ?_)))
set_option hygiene false in
local macro_rules | `(tactic| fail "q") => `(tactic| ((with_reducible refine Ok.eq (z_nei _ _) ?_)))
set_option hygiene false in
local macro_rules | `(tactic| fail "q") => `(tactic| ((with_reducible refine Ok.eq (z_eqs _ _) ?_)))
set_option hygiene false in
local macro_rules | `(tactic| fail "q") => `(tactic| ((with_reducible refine Ok.eq (z_eqi _ _) ?_)))
set_option hygiene false in
local macro_rules | `(tactic| fail "q") => `(tactic| ((with_reducible refine Ok.eq (z_ge _ _) ?_)))
set_option hygiene false in
local macro_rules | `(tactic| fail "q") => `(tactic| ((with_reducible refine Ok.eq (z_gt _ _) ?_)))
set_option hygiene false in
local macro_rules | `(tactic| fail "q") => `(tactic| ((with_reducible refine Ok.eq (z_le _ _) ?_)))
set_option hygiene false in
local macro_rules | `(tactic| fail "q") => `(tactic| ((with_reducible refine Ok.eq (z_lt _ _) ?_)))
set_option hygiene false in
local macro_rules | `(tactic| fail "q") => `(tactic| ((with_reducible refine Ok.eq (z_neg _) ?_)))
set_option hygiene false in
local macro_rules | `(tactic| fail "q") => `(tactic| ((with_reducible refine Ok.eq (z_sub _ _) ?_)))
set_option hygiene false in
local macro_rules | `(tactic| fail "q") => `(tactic| ((with_reducible refine Ok.eq (z_addI _ _) ?_)))
set_option hygiene false in
local macro_rules | `(tactic| fail "q") => `(tactic| ((with_reducible refine Ok.eq (z_add _ _) ?_)))
set_option hygiene false in
local macro_rules | `(tactic| fail "q") => `(tactic| ((with_reducible refine k_le ?_ ?_); (first | omega | focus (simp <;> omega))))
set_option hygiene false in
local macro_rules | `(tactic| fail "q") => `(tactic| ((with_reducible apply k_kind); get_elem_tactic_trivial))
set_option hygiene false in
local macro_rules | `(tactic| fail "q") => `(tactic| ((with_reducible apply k_same); get_elem_tactic_trivial; get_elem_tactic_trivial))
set_option hygiene false in
local macro_rules | `(tactic| fail "q") => `(tactic| ((with_reducible apply k_lenl); get_elem_tactic_trivial))
set_option hygiene false in
local macro_rules | `(tactic| fail "q") => `(tactic| ((with_reducible apply o_ext O); get_elem_tactic_trivial; get_elem_tactic_trivial; (first | omega | focus (simp <;> omega)); intro h O))
set_option hygiene false in
local macro_rules | `(tactic| fail "q") => `(tactic| ((with_reducible apply o_app O); get_elem_tactic_trivial; (first | omega | focus (simp <;> omega)); intro h O))
set_option hygiene false in
local macro_rules | `(tactic| fail "q") => `(tactic| ((with_reducible apply o_setl O); get_elem_tactic_trivial; (first | decide | omega | (first | omega | focus (simp <;> omega))); (first | omega | focus (simp <;> omega)); rfl; intro h O))
set_option hygiene false in
local macro_rules | `(tactic| fail "q") => `(tactic| ((with_reducible apply k_ixln); get_elem_tactic_trivial; (first | decide | omega | (first | omega | focus (simp <;> omega))); rfl))
set_option hygiene false in
local macro_rules | `(tactic| fail "q") => `(tactic| ((with_reducible apply k_ixt); decide; rfl))
set_option hygiene false in
local macro_rules | `(tactic| fail "q") => `(tactic| ((with_reducible refine o_newD O (fun fr h O => ?_))))
set_option hygiene false in
local macro_rules | `(tactic| fail "q") => `(tactic| ((with_reducible refine ⟨_, _, O, fun fr h O => ?_⟩)))
set_option hygiene false in
local macro_rules | `(tactic| fail "q") => `(tactic| ((with_reducible refine ⟨_, _, O, ?_, fun fr h O => ?_⟩); (first | omega | focus (simp <;> omega))))
set_option hygiene false in
local macro_rules | `(tactic| fail "q") => `(tactic| ((with_reducible apply o_make)))
set_option hygiene false in
local macro_rules | `(tactic| fail "q") => `(tactic| ((with_reducible apply o_lstQ)))
set_option hygiene false in
local macro_rules | `(tactic| fail "q") => `(tactic| ((with_reducible apply o_setF O); get_elem_tactic_trivial; rfl; (first | (simp only [putC, Nat.reduceEqDiff, if_false, reduceIte]; rfl) | rfl); intro h O))
set_option hygiene false in
local macro_rules | `(tactic| fail "q") => `(tactic| ((with_reducible apply o_meth O); get_elem_tactic_trivial; rfl))
set_option hygiene false in
local macro_rules | `(tactic| fail "q") => `(tactic| ((with_reducible apply k_methC); get_elem_tactic_trivial; rfl; rfl))
set_option hygiene false in
local macro_rules | `(tactic| fail "q") => `(tactic| ((with_reducible apply k_getF); get_elem_tactic_trivial; rfl; rfl))
set_option hygiene false in
local macro_rules | `(tactic| fail "q") => `(tactic| ((with_reducible refine k_ord ?_)))
set_option hygiene false in
local macro_rules | `(tactic| fail "q") => `(tactic| ((with_reducible refine k_sw ?_)))
set_option hygiene false in
local macro_rules | `(tactic| fail "q") => `(tactic| ((with_reducible refine k_fldaug ?_)))
set_option hygiene false in
local macro_rules | `(tactic| fail "q") => `(tactic| ((with_reducible refine k_dnin ?_)))
set_option hygiene false in
local macro_rules | `(tactic| fail "q") => `(tactic| ((with_reducible refine k_din ?_)))
set_option hygiene false in
local macro_rules | `(tactic| fail "q") => `(tactic| ((with_reducible refine k_dix ?_)))
set_option hygiene false in
local macro_rules | `(tactic| fail "q") => `(tactic| ((with_reducible refine k_dput ?_)))
set_option hygiene false in
local macro_rules | `(tactic| fail "q") => `(tactic| ((with_reducible refine k_dget2 ?_)))
set_option hygiene false in
local macro_rules | `(tactic| fail "q") => `(tactic| ((with_reducible refine k_dget1 ?_)))
set_option hygiene false in
local macro_rules | `(tactic| fail "q") => `(tactic| ((with_reducible refine k_min ?_)))
set_option hygiene false in
local macro_rules | `(tactic| fail "q") => `(tactic| ((with_reducible refine k_re ?_)))
set_option hygiene false in
local macro_rules | `(tactic| fail "q") => `(tactic| ((with_reducible refine k_kinds ?_)))
set_option hygiene false in
local macro_rules | `(tactic| fail "q") => `(tactic| ((with_reducible refine k_asi ?_)))
set_option hygiene false in
local macro_rules | `(tactic| fail "q") => `(tactic| ((with_reducible refine k_asb ?_)))
set_option hygiene false in
local macro_rules | `(tactic| fail "q") => `(tactic| ((with_reducible refine k_cont ?_)))
set_option hygiene false in
local macro_rules | `(tactic| fail "q") => `(tactic| ((with_reducible refine k_retN ?_)))
set_option hygiene false in
local macro_rules | `(tactic| fail "q") => `(tactic| ((with_reducible refine k_aapp ?_)))
set_option hygiene false in
local macro_rules | `(tactic| fail "q") => `(tactic| ((with_reducible refine k_eif ?_)))
set_option hygiene false in
local macro_rules | `(tactic| fail "q") => `(tactic| ((with_reducible refine k_osome ?_)))
set_option hygiene false in
local macro_rules | `(tactic| fail "q") => `(tactic| ((with_reducible refine k_onone ?_)))
set_option hygiene false in
local macro_rules | `(tactic| fail "q") => `(tactic| ((with_reducible refine k_slice ?_)))
set_option hygiene false in
local macro_rules | `(tactic| fail "q") => `(tactic| ((with_reducible refine k_ix ?_)))
set_option hygiene false in
local macro_rules | `(tactic| fail "q") => `(tactic| ((with_reducible refine k_asg ?_)))
set_option hygiene false in
local macro_rules | `(tactic| fail "q") => `(tactic| ((with_reducible refine k_chain ?_)))
set_option hygiene false in
local macro_rules | `(tactic| fail "q") => `(tactic| ((with_reducible refine k_enot ?_)))
set_option hygiene false in
local macro_rules | `(tactic| fail "q") => `(tactic| ((with_reducible refine k_eor ?_)))
set_option hygiene false in
local macro_rules | `(tactic| fail "q") => `(tactic| ((with_reducible refine k_eand ?_)))
set_option hygiene false in
local macro_rules | `(tactic| fail "q") => `(tactic| ((with_reducible refine k_tnot ?_)))
set_option hygiene false in
local macro_rules | `(tactic| fail "q") => `(tactic| ((with_reducible refine k_tor ?_)))
set_option hygiene false in
local macro_rules | `(tactic| fail "q") => `(tactic| ((with_reducible refine k_tand ?_)))
set_option hygiene false in
local macro_rules | `(tactic| fail "q") => `(tactic| ((with_reducible refine k_meth ?_)))
set_option hygiene false in
local macro_rules | `(tactic| fail "q") => `(tactic| ((with_reducible refine k_tup ?_)))
set_option hygiene false in
local macro_rules | `(tactic| fail "q") => `(tactic| ((with_reducible refine k_nil ?_)))
set_option hygiene false in
local macro_rules | `(tactic| fail "q") => `(tactic| ((with_reducible refine k_e1 ?_)))
set_option hygiene false in
local macro_rules | `(tactic| fail "q") => `(tactic| ((with_reducible refine k_bm ?_)))
set_option hygiene false in
local macro_rules | `(tactic| fail "q") => `(tactic| ((with_reducible refine k_fld ?_)))
set_option hygiene false in
local macro_rules | `(tactic| fail "q") => `(tactic| ((with_reducible refine k_e ?_)))
set_option hygiene false in
local macro_rules | `(tactic| fail "q") => `(tactic| ((with_reducible refine k_tv ?_)))
set_option hygiene false in
local macro_rules | `(tactic| fail "q") => `(tactic| ((with_reducible refine k_if ?_)))
set_option hygiene false in
local macro_rules | `(tactic| fail "q") => `(tactic| ((with_reducible refine k_ret ?_)))
set_option hygiene false in
local macro_rules | `(tactic| fail "q") => `(tactic| ((with_reducible refine k_efld ?_)))
set_option hygiene false in
local macro_rules | `(tactic| fail "q") => `(tactic| ((with_reducible refine k_e2 ?_)))
set_option hygiene false in
local macro_rules | `(tactic| fail "q") => `(tactic| ((with_reducible refine k_call ?_)))
set_option hygiene false in
local macro_rules | `(tactic| fail "q") => `(tactic| ((with_reducible refine k_anil ?_)))
set_option hygiene false in
local macro_rules | `(tactic| fail "q") => `(tactic| ((with_reducible refine k_acons ?_)))
set_option hygiene false in
local macro_rules | `(tactic| fail "q") => `(tactic| ((with_reducible refine k_c ?_)))
set_option hygiene false in
local macro_rules | `(tactic| fail "q") => `(tactic| ((with_reducible apply k_var); rfl))
set_option hygiene false in
local macro_rules | `(tactic| fail "q") => `(tactic| ((with_reducible refine k_set ?_)))
set_option hygiene false in
local macro_rules | `(tactic| fail) => `(tactic| first
  | ((with_reducible apply k_seqN); focus (first | (simp only [List.set_cons_zero, List.set_cons_succ, List.map_cons, List.map_nil, List.length_cons, List.length_nil, List.replicate_succ, List.replicate_zero, List.cons_append, List.nil_append, Nat.reduceAdd, Nat.reduceSub, Nat.zero_add]; done) | (simp only [List.set_cons_zero, List.set_cons_succ, List.map_cons, List.map_nil, List.length_cons, List.length_nil, List.replicate_succ, List.replicate_zero, List.cons_append, List.nil_append, Nat.reduceAdd, Nat.reduceSub, Nat.zero_add]; rfl) | rfl))
  | fail "q"
  | (fail_if_success skip))
set_option hygiene false in
local macro_rules | `(tactic| exfalso) => `(tactic| first
  | with_reducible exact Cn.Ent.rfl
  | with_reducible exact Cn.Ent.nil
  | ((with_reducible apply Cn.Ent.pick); get_elem_tactic_trivial; exfalso)
  | ((with_reducible refine Cn.Ent.allNil ?_); exfalso)
  | ((with_reducible refine Cn.Ent.one ?_); exfalso)
  | ((with_reducible refine Sp.ent_live ?_); exfalso)
  | ((with_reducible refine Sp.ent_no ?_); exfalso)
  | ((with_reducible apply Cn.Ent.sep); (with_reducible show Cn.Ent _ _); (try simp only [List.cons_append, List.nil_append]); exfalso)
  | ((with_reducible apply Cn.Ent.skip); exfalso))
set_option Elab.async false
set_option maxRecDepth 100000
set_option linter.all false
set_option maxHeartbeats 2000000
namespace Sp
open Cn Mir Dw
variable {z : List Int} {ps F : List HP} {h h' : CH} {r b a i : Nat} {now : Int} {E : EX} {Q : CV → CH → Prop}
theorem o_mapQ {α : Type} {E : EX} {s : CS} {Q : CV → CH → Prop} {r : Nat} {ys : List CV} {own : List Nat} {a e : ME CV} {g : MG} {t : ME Bool} (xs : List α) (p : α → Bool) (f : α → CV) (lb : ys.length = xs.length) (ly : ys.length < 16777216) (O : Own z ps h) (m : InP r (.lst ys) ps)
    (ha : OkE E (a s h) fun x h1 => x = .ref r ∧ h1 = h)
    (hs : ∀ (i : Nat) (v : CV) (x : α) (h : CH), ys[i]? = some v → xs[i]? = some x → (∀ {a : Nat} {o : CO}, InP a o ps → h.at a = some o) → (∀ {q : HP} {qs : List HP}, PickP q ps qs → ∃ D : HP, Own z (q :: D :: qs) h) → AsP (g v (wipeC s own) h) fun s1 h1 => h1 = h ∧ OkE NoX (t s1 h) fun k h2 => k = p x ∧ h2 = h ∧ (p x = true → OkE NoX (e s1 h) fun y h3 => y = f x ∧ h3 = h))
    (hq : ∀ D h, Own z (cell D (.lst ((xs.filter p).map f)) :: ps) h → Q (.ref D) h) : OkE E (eComp own a g t e s h) Q := by
  refine o_comp (z := z) (r := r) (ys := ys) (fun i zs => pur (zs = ((xs.take i).filter p).map f) :: ps) ly (ha.mono fun x h1 ⟨e1, e2⟩ => ⟨e1, by subst e2; exact O.ent (.pur (by simp) .rfl)⟩) (fun i zs => .there m) ?_ ?_
  · intro i v D zs h ev lz O
    obtain ⟨ez, O1⟩ := (O.sw 1).unpur
    have O1 : Own z (cell D (.lst zs) :: ps) h := O1
    obtain ⟨x, ex⟩ : ∃ x, xs[i]? = some x := ⟨_, List.getElem?_eq_getElem (by rw [← lb]; exact get_lt ev)⟩
    have k := hs i v x h ev ex (fun m => o_get O1 (.there m)) (fun {p qs} pk => ⟨cell D (.lst zs), O1.pick (.there pk)⟩)
    cases eg : g v (wipeC s own) h with
    | none => rw [eg] at k; exact k.elim
    | some w =>
      obtain ⟨s1, h1⟩ := w
      rw [eg] at k
      obtain ⟨rfl, k⟩ := k
      refine OkE.mono k fun kk h2 ⟨k1, k2, k3⟩ => ?_
      subst k1 k2
      by_cases c : p x = true
      · rw [if_pos c]
        refine OkE.mono (k3 c) fun y h3 ⟨y1, y2⟩ => ?_
        subst y1 y2
        exact O1.ent (.pick .here (.pur (by rw [List.take_succ, ex, ez, List.filter_append, List.map_append]; simp [c]) .rfl))
      · rw [if_neg c]
        exact O1.ent (.pick .here (.pur (by rw [List.take_succ, ex, ez, List.filter_append, List.map_append]; simp [c]) .rfl))
  · intro D zs h lz O
    obtain ⟨ez, O1⟩ := (O.sw 1).unpur
    have O1 : Own z (cell D (.lst zs) :: ps) h := O1
    rw [lb, List.take_length] at ez
    subst ez
    exact hq D h O1
structure PRc where
  num : Int
  caller : List Nat
  callee : List Nat
  begun : Int
  rang : Option Int
  ans : Option Int
  en : Option Int
  why : Option (List Nat)
  m0 : List Nat
  m1 : List Nat
  moves : Int
inductive EK where
  | begin (a b : List Nat) | ring | answer (w : List Nat) | turn (s : Int) (m : List Nat) | move (s : Int) (w : List Nat) | moved (s : Int) | fin (w : List Nat)
structure LE where
  t : Int
  n : Int
  k : EK
abbrev nBEGIN : List Nat := [98, 101, 103, 105, 110]
abbrev nRING : List Nat := [114, 105, 110, 103]
abbrev nANSWER : List Nat := [97, 110, 115, 119, 101, 114]
abbrev nTURN : List Nat := [116, 117, 114, 110]
abbrev nMOVE : List Nat := [109, 111, 118, 101]
abbrev nMOVED : List Nat := [109, 111, 118, 101, 100]
abbrev nEND : List Nat := [101, 110, 100]
abbrev nBOTH : List Nat := [98, 111, 116, 104]
def LE.cv (e : LE) : CV := match e.k with
  | .begin a b => .tup [.str nBEGIN, .int e.t, .int e.n, .str a, .str b]
  | .ring => .tup [.str nRING, .int e.t, .int e.n]
  | .answer w => .tup [.str nANSWER, .int e.t, .int e.n, .str w]
  | .turn s m => .tup [.str nTURN, .int e.t, .int e.n, .int s, .str m]
  | .move s w => .tup [.str nMOVE, .int e.t, .int e.n, .int s, .str w]
  | .moved s => .tup [.str nMOVED, .int e.t, .int e.n, .int s]
  | .fin w => .tup [.str nEND, .int e.t, .int e.n, .str w]
def EK.isB : EK → Bool
  | .begin _ _ => true
  | _ => false
def sideB (s : Int) : Bool := decide (s = 0) || decide (s = 1)
def chgB (p : PRc) : EK → Bool
  | .begin _ _ => false
  | .ring => p.rang.isNone && p.ans.isNone
  | .answer _ => p.ans.isNone
  | .fin _ => true
  | .turn s _ => p.ans.isSome && sideB s
  | .move s _ => p.ans.isSome && sideB s
  | .moved s => p.ans.isSome && sideB s
def chg (p : PRc) (t : Int) : EK → PRc
  | .begin _ _ => p
  | .ring => {p with rang := some t}
  | .answer _ => {p with ans := some t}
  | .fin w => {p with en := some t, why := some w}
  | .turn s m => if s = 0 then {p with m0 := m} else {p with m1 := m}
  | .move _ _ => p
  | .moved _ => {p with moves := p.moves + 1, m0 := nBOTH, m1 := nBOTH}
def newRc (n : Int) (a b : List Nat) (t : Int) : PRc := ⟨n, a, b, t, none, none, none, none, nBOTH, nBOTH, 0⟩
abbrev atN (e : LE) : Nat := (e.n - 1).toNat
def standB (rs : List PRc) (now : Int) (e : LE) : Bool := if e.t < now then false else
  match e.k with
  | .begin _ _ => decide (e.n = (rs.length : Int) + 1)
  | k => if 1 ≤ e.n ∧ e.n ≤ rs.length then (match rs[atN e]? with
    | none => false
    | some p => p.en.isNone && chgB p k) else false
def applyB (rs : List PRc) (e : LE) : List PRc := match e.k with
  | .begin a b => rs ++ [newRc e.n a b e.t]
  | k => match rs[atN e]? with
    | none => rs
    | some p => rs.set (atN e) (chg p e.t k)
abbrev recFs (p : PRc) (ml : Nat) : CO := .ins 14 [(49, .int p.num), (50, .str p.caller), (51, .str p.callee), (61, .int p.begun), (62, oI p.rang), (63, oI p.ans), (64, oI p.en), (65, oS p.why), (66, .ref ml), (67, .int p.moves)]
def recP (r : Nat) (p : PRc) : HP := exP fun ml : Nat => sep [cell r (recFs p ml), cell ml (.lst [.str p.m0, .str p.m1])]
variable {p : PRc} {rs : List PRc} {e : LE}
theorem rc_open (O : Own z (recP r p :: F) h) : ∃ ml, Own z (cell r (recFs p ml) :: cell ml (.lst [.str p.m0, .str p.m1]) :: F) h := let ⟨ml, O⟩ := O.open; ⟨ml, O.flat⟩
theorem ent_rc {ml : Nat} {qs : List HP} (x : Ent ps (cell r (recFs p ml) :: cell ml (.lst [.str p.m0, .str p.m1]) :: qs)) : Ent ps (recP r p :: qs) := .ex ml (.sep x)
theorem recC : ClsP r 14 none (recP r p :: ps) := .here fun cs ⟨_, x⟩ => ⟨_, sep_mem x, rfl⟩
theorem isN_I (o : Option Int) : isNV (oI o) h = .ok (.bl o.isNone) h := by cases o <;> rfl
theorem notN_I (o : Option Int) : notNV (oI o) h = .ok (.bl o.isSome) h := by cases o <;> rfl
theorem nside (s : Int) : (!([CV.int 0, .int 1].any fun y => eqF y (.int s))) = !sideB s := by
  unfold sideB
  congr 1
  simp only [List.any_cons, List.any_nil, eqF, Bool.or_false]
  rw [Bool.eq_iff_iff, Bool.or_eq_true, Bool.or_eq_true, beq_iff_eq, beq_iff_eq, decide_eq_true_iff, decide_eq_true_iff]
  omega
theorem b_change (O : Own z (recP r p :: F) h) (nb : e.k.isB = false) : OkE NoX (m_Book_change [.ref b, e.cv, .ref r] h) fun y h' => y = .bl (chgB p e.k) ∧ Own z (recP r (if chgB p e.k = true then chg p e.t e.k else p) :: F) h' := by
  obtain ⟨ml, O⟩ := rc_open O
  obtain ⟨t, n, k⟩ := e
  obtain ⟨num, caller, callee, begun, rang, ans, en, why, m0, m1, moves⟩ := p
  have side : ∀ s : Int, sideB s = true → s = 0 ∨ s = 1 := fun s x => by
    unfold sideB at x
    rw [Bool.or_eq_true, decide_eq_true_iff, decide_eq_true_iff] at x
    exact x
  cases k with
  | begin a b => cases nb
  | ring =>
    cases rang <;> cases ans <;>
    · refine Ok_runD _ _ _ _ rfl ?_
      simp only [LE.cv]
      repeat (first | fail | (refine Ok.eq (notN_I _) ?_))
      exact ⟨rfl, O.ent (ent_rc (ml := ml) (by exfalso))⟩
  | answer w =>
    cases ans <;>
    · refine Ok_runD _ _ _ _ rfl ?_
      simp only [LE.cv]
      repeat (first | fail | (refine Ok.eq (notN_I _) ?_))
      exact ⟨rfl, O.ent (ent_rc (ml := ml) (by exfalso))⟩
  | fin w =>
    refine Ok_runD _ _ _ _ rfl ?_
    simp only [LE.cv]
    repeat (first | fail | (refine Ok.eq (notN_I _) ?_))
    exact ⟨rfl, O.ent (ent_rc (ml := ml) (by exfalso))⟩
  | turn s m =>
    cases ans with
    | none =>
      refine Ok_runD _ _ _ _ rfl ?_
      simp only [LE.cv]
      repeat (first | fail | (refine Ok.eq (isN_I _) ?_))
      exact ⟨rfl, O.ent (ent_rc (ml := ml) (by exfalso))⟩
    | some t0 =>
      refine Ok_runD _ _ _ _ rfl ?_
      simp only [LE.cv]
      repeat (first | fail | (refine Ok.eq (isN_I _) ?_))
      rw [nside]
      cases hs : sideB s with
      | false =>
        repeat fail
        refine ⟨by simp [chgB, hs], O.ent (ent_rc (ml := ml) ?_)⟩
        rw [if_neg (by simp [chgB, hs])]
        exfalso
      | true =>
        have ct : chgB ⟨num, caller, callee, begun, rang, some t0, en, why, m0, m1, moves⟩ (.turn s m) = true := by simp [chgB, hs]
        rcases side s hs with rfl | rfl <;>
        · repeat fail
          refine ⟨by rw [ct], O.ent (ent_rc (ml := ml) ?_)⟩
          rw [if_pos ct]
          simp only [chg]
          exfalso
  | move s w =>
    cases ans with
    | none =>
      refine Ok_runD _ _ _ _ rfl ?_
      simp only [LE.cv]
      repeat (first | fail | (refine Ok.eq (isN_I _) ?_))
      exact ⟨rfl, O.ent (ent_rc (ml := ml) (by exfalso))⟩
    | some t0 =>
      refine Ok_runD _ _ _ _ rfl ?_
      simp only [LE.cv]
      repeat (first | fail | (refine Ok.eq (isN_I _) ?_))
      rw [nside]
      cases hs : sideB s with
      | false =>
        repeat fail
        refine ⟨by simp [chgB, hs], O.ent (ent_rc (ml := ml) ?_)⟩
        rw [if_neg (by simp [chgB, hs])]
        exfalso
      | true =>
        have ct : chgB ⟨num, caller, callee, begun, rang, some t0, en, why, m0, m1, moves⟩ (.move s w) = true := by simp [chgB, hs]
        repeat fail
        refine ⟨by rw [ct], O.ent (ent_rc (ml := ml) ?_)⟩
        rw [if_pos ct]
        simp only [chg]
        exfalso
  | moved s =>
    cases ans with
    | none =>
      refine Ok_runD _ _ _ _ rfl ?_
      simp only [LE.cv]
      repeat (first | fail | (refine Ok.eq (isN_I _) ?_))
      exact ⟨rfl, O.ent (ent_rc (ml := ml) (by exfalso))⟩
    | some t0 =>
      refine Ok_runD _ _ _ _ rfl ?_
      simp only [LE.cv]
      repeat (first | fail | (refine Ok.eq (isN_I _) ?_))
      rw [nside]
      cases hs : sideB s with
      | false =>
        repeat fail
        refine ⟨by simp [chgB, hs], O.ent (ent_rc (ml := ml) ?_)⟩
        rw [if_neg (by simp [chgB, hs])]
        exfalso
      | true =>
        have ct : chgB ⟨num, caller, callee, begun, rang, some t0, en, why, m0, m1, moves⟩ (.moved s) = true := by simp [chgB, hs]
        repeat fail
        obtain ⟨d, ed⟩ : ∃ x, x = fr := ⟨_, rfl⟩
        rw [← ed] at O
        refine ⟨by rw [ct], O.ent (ent_rc (ml := d) ?_)⟩
        rw [if_pos ct]
        simp only [chg]
        exfalso
def bookP (b : Nat) (rs : List PRc) (now : Int) : HP := exP fun t : Nat × List Nat => sep [pur (t.2.length = rs.length), cell b (.ins 15 [(68, .ref t.1), (69, .int now)]), cell t.1 (.lst (t.2.map CV.ref)), allP recP (t.2.zip rs)]
theorem bk_open (O : Own z (bookP b rs now :: F) h) : ∃ (rl : Nat) (ri : List Nat), ri.length = rs.length ∧ Own z (cell b (.ins 15 [(68, .ref rl), (69, .int now)]) :: cell rl (.lst (ri.map CV.ref)) :: allP recP (ri.zip rs) :: F) h := by
  obtain ⟨⟨rl, ri⟩, O⟩ := O.open
  have O : Own z (pur (ri.length = rs.length) :: cell b (.ins 15 [(68, .ref rl), (69, .int now)]) :: cell rl (.lst (ri.map CV.ref)) :: allP recP (ri.zip rs) :: F) h := O.flat
  obtain ⟨l, O⟩ := O.unpur
  exact ⟨rl, ri, l, O⟩
theorem ent_bk {rl : Nat} {ri : List Nat} {qs : List HP} (l : ri.length = rs.length) (x : Ent ps (cell b (.ins 15 [(68, .ref rl), (69, .int now)]) :: cell rl (.lst (ri.map CV.ref)) :: allP recP (ri.zip rs) :: qs)) : Ent ps (bookP b rs now :: qs) := .ex (rl, ri) (.sep (.pur l x))
theorem bookC : ClsP b 15 none (bookP b rs now :: ps) := .here fun cs ⟨t, x⟩ => by
  obtain ⟨a1, b1, rfl, ⟨rfl, _⟩, x⟩ := x
  exact ⟨_, sep_mem x, rfl⟩
theorem rc_init {n t : Int} {ca ce : List Nat} (O : Own z (cell r (.ins 14 []) :: F) h) : OkE NoX (m_Record_init [.ref r, .int n, .str ca, .str ce, .int t] h) fun y h' => y = .non ∧ Own z (recP r (newRc n ca ce t) :: F) h' := by
  refine Ok_runD _ _ _ _ rfl ?_
  repeat fail
  obtain ⟨d, ed⟩ : ∃ x, x = fr := ⟨_, rfl⟩
  rw [← ed] at O
  exact ⟨rfl, O.ent (ent_rc (p := newRc n ca ce t) (ml := d) (by
    show Ent _ (cell r (.ins 14 [(49, .int n), (50, .str ca), (51, .str ce), (61, .int t), (62, .non), (63, .non), (64, .non), (65, .non), (66, .ref d), (67, .int 0)]) :: cell d (.lst [.str nBOTH, .str nBOTH]) :: F)
    exfalso))⟩
theorem b_begin {ca ce : List Nat} (O : Own z (bookP b rs now :: F) h) (l : rs.length < 1000) (ek : e.k = .begin ca ce) : OkE NoX (m_Book_begin [.ref b, e.cv] h) fun y h' => y = .bl (decide (e.n = (rs.length : Int) + 1)) ∧ Own z (bookP b (if e.n = (rs.length : Int) + 1 then applyB rs e else rs) now :: F) h' := by
  obtain ⟨rl, ri, lr, O⟩ := bk_open O
  obtain ⟨t, n, k⟩ := e
  have ek : k = .begin ca ce := ek
  subst ek
  have l1 : (ri.map CV.ref).length = rs.length := by rw [List.length_map]; exact lr
  have l2 : (ri.map CV.ref).length < 1000 := by rw [l1]; exact l
  refine Ok_runD _ _ _ _ rfl ?_
  simp only [LE.cv]
  repeat fail
  rw [l1]
  by_cases hn : n = (rs.length : Int) + 1
  · rw [if_pos hn, decide_eq_true hn]
    repeat fail
    refine (rc_init O).mono ?_
    rintro y h ⟨rfl, O⟩
    refine ⟨rfl, ?_⟩
    obtain ⟨a, ea⟩ : ∃ x, x = fr := ⟨_, rfl⟩
    rw [← ea] at O ⊢
    clear ea
    repeat fail
    have O : Own z (recP a (newRc n ca ce t) :: allP recP (ri.zip rs) :: cell b (.ins 15 [(68, .ref rl), (69, .int now)]) :: cell rl (.lst (ri.map CV.ref ++ [.ref a])) :: F) h := O.ent (by exfalso)
    have O := O.snoc
    rw [show ri.zip rs ++ [(a, newRc n ca ce t)] = (ri ++ [a]).zip (rs ++ [newRc n ca ce t]) by rw [List.zip_append lr]; rfl, show ri.map CV.ref ++ [CV.ref a] = (ri ++ [a]).map CV.ref by simp] at O
    exact ⟨rfl, O.ent (ent_bk (rs := rs ++ [newRc n ca ce t]) (rl := rl) (ri := ri ++ [a]) (by simp [lr]) (by exfalso))⟩
  · rw [if_neg hn, decide_eq_false hn]
    repeat fail
    exact ⟨rfl, O.ent (ent_bk lr (by exfalso))⟩
theorem at_ok {n : Int} (h : 1 ≤ n ∧ n ≤ rs.length) : ∃ p, rs[(n - 1).toNat]? = some p := ⟨_, List.getElem?_eq_getElem (by omega)⟩
theorem zipSetQ {α : Type} {ri : List Nat} {bs : List α} {i r : Nat} {x y : α} (e : (ri.zip bs)[i]? = some (r, x)) : (ri.zip bs).set i (r, y) = ri.zip (bs.set i y) := by
  obtain ⟨h1, h2⟩ := List.getElem?_zip_eq_some.mp e
  apply List.ext_getElem?
  intro j
  by_cases c : i = j
  · subst c
    rw [List.getElem?_set_self (get_lt e), (List.getElem?_zip_eq_some (z := (r, y))).mpr ⟨h1, List.getElem?_set_self (get_lt h2)⟩]
  · rw [List.getElem?_set_ne c, List.zip_eq_zipWith, List.zip_eq_zipWith, List.getElem?_zipWith, List.getElem?_zipWith, List.getElem?_set_ne c]
theorem lsetSame {α : Type} {l : List α} {i : Nat} {x : α} (e : l[i]? = some x) : l.set i x = l := by
  apply List.ext_getElem?
  intro j
  by_cases c : i = j
  · subst c; rw [List.getElem?_set_self (get_lt e), e]
  · rw [List.getElem?_set_ne c]
theorem b_take (O : Own z (bookP b rs now :: F) h) (l : rs.length < 1000) : OkE NoX (m_Book_take [.ref b, e.cv] h) fun y h' => y = .bl (standB rs now e) ∧ Own z (bookP b (if standB rs now e = true then applyB rs e else rs) (if standB rs now e = true then e.t else now) :: F) h' := by
  have O0 := O
  obtain ⟨rl, ri, lr, O⟩ := bk_open O
  have l1 : (ri.map CV.ref).length = rs.length := by rw [List.length_map]; exact lr
  have cv1 : ∀ {E : EX} {Q : CV → CH → Prop} {h : CH}, Q (.int e.t) h → OkE E (ixV e.cv (.int 1) h) Q := fun {E Q h} o => by
    obtain ⟨t, n, k⟩ := e
    cases k <;> exact k_ixt (by decide) rfl o
  have cv2 : ∀ {E : EX} {Q : CV → CH → Prop} {h : CH}, Q (.int e.n) h → OkE E (ixV e.cv (.int 2) h) Q := fun {E Q h} o => by
    obtain ⟨t, n, k⟩ := e
    cases k <;> exact k_ixt (by decide) rfl o
  have cv0 : ∀ {E : EX} {Q : CV → CH → Prop} {h : CH}, (∀ w, (w = nBEGIN ↔ e.k.isB = true) → Q (.str w) h) → OkE E (ixV e.cv (.int 0) h) Q := fun {E Q h} o => by
    obtain ⟨t, n, k⟩ := e
    cases k <;> refine k_ixt (by decide) rfl (o _ ?_) <;> first | exact ⟨fun _ => rfl, fun _ => rfl⟩ | exact ⟨fun x => absurd x (by decide), fun x => by cases x⟩
  refine Ok_runD _ _ _ _ rfl ?_
  repeat fail
  refine cv1 ?_
  repeat fail
  by_cases ht : e.t < now
  · have es : standB rs now e = false := if_pos ht
    rw [decide_eq_true ht, if_pos rfl, es]
    repeat fail
    exact ⟨rfl, O0⟩
  · have es : standB rs now e = match e.k with
        | .begin _ _ => decide (e.n = (rs.length : Int) + 1)
        | k => if 1 ≤ e.n ∧ e.n ≤ rs.length then (match rs[atN e]? with
          | none => false
          | some p => p.en.isNone && chgB p k) else false := if_neg ht
    rw [decide_eq_false ht]
    have fin : ∀ {h : CH} {s4 s5 : Option CV} {N C : CS → CH → Prop} {st : Bool}, st = standB rs now e → Own z (bookP b (if standB rs now e = true then applyB rs e else rs) now :: F) h → SkE (fun _ => NoX) (sSeq (sIf (tV (eVar 2)) (sFld [15] 69 (eVar 0) (Cn.e2 ixV (eVar 1) (eC (.int 1)))) (sNil)) (sRet (eVar 2)) [some (.ref b), some e.cv, some (.bl st)] h) N C fun y h' => y = .bl (standB rs now e) ∧ Own z (bookP b (if standB rs now e = true then applyB rs e else rs) (if standB rs now e = true then e.t else now) :: F) h' := by
      intro h s4 s5 N C st est O
      subst est
      obtain ⟨rl, ri, lr, O⟩ := bk_open O
      cases hs : standB rs now e with
      | false =>
        rw [hs] at O lr
        repeat fail
        exact ⟨rfl, O.ent (ent_bk lr (by exfalso))⟩
      | true =>
        rw [hs] at O lr
        repeat fail
        refine cv1 ?_
        repeat fail
        exact ⟨rfl, O.ent (ent_bk lr (by exfalso))⟩
    repeat fail
    refine cv0 fun w hw => ?_
    repeat fail
    by_cases hb : e.k.isB = true
    · obtain ⟨ca, ce, ek⟩ : ∃ ca ce, e.k = .begin ca ce := by
        cases hk : e.k with
        | begin a b => exact ⟨a, b, rfl⟩
        | _ => rw [hk] at hb; cases hb
      have es2 : standB rs now e = decide (e.n = (rs.length : Int) + 1) := by rw [es, ek]
      rw [decide_eq_true (hw.mpr hb), if_pos rfl]
      have O := O0
      repeat fail
      refine o_meth O bookC rfl ?_
      repeat fail
      refine (b_begin O l ek).mono ?_
      rintro y h ⟨rfl, O⟩
      repeat fail "q"
      refine fin (s4 := none) (s5 := none) es2.symm ?_
      rw [es2]
      by_cases hn : e.n = (rs.length : Int) + 1
      · rw [if_pos hn] at O
        rw [if_pos (decide_eq_true hn)]
        exact O
      · rw [if_neg hn] at O
        rw [if_neg (by simpa using hn)]
        exact O
    · have hb2 : e.k.isB = false := by simpa using hb
      have es2 : standB rs now e = if 1 ≤ e.n ∧ e.n ≤ rs.length then (match rs[atN e]? with
          | none => false
          | some p => p.en.isNone && chgB p e.k) else false := by
        rw [es]
        cases hk : e.k with
        | begin a b => rw [hk] at hb2; cases hb2
        | _ => rfl
      rw [decide_eq_false (fun x => hb (hw.mp x))]
      repeat fail
      refine cv2 ?_
      repeat fail
      have no : ¬ (1 ≤ e.n ∧ e.n ≤ rs.length) → standB rs now e = false := fun x => by rw [es2, if_neg x]
      by_cases h1 : 1 ≤ e.n
      · rw [decide_eq_true h1]
        repeat fail
        rw [l1]
        by_cases h2 : e.n ≤ (rs.length : Int)
        · rw [decide_eq_true h2]
          obtain ⟨p, ep⟩ := at_ok ⟨h1, h2⟩
          have es3 : standB rs now e = (p.en.isNone && chgB p e.k) := by rw [es2, if_pos ⟨h1, h2⟩, ep]
          obtain ⟨a, ea⟩ : ∃ a, ri[(e.n - 1).toNat]? = some a := ⟨_, List.getElem?_eq_getElem (by omega)⟩
          have ez : (ri.zip rs)[(e.n - 1).toNat]? = some (a, p) := (List.getElem?_zip_eq_some (z := (a, p))).mpr ⟨ea, ep⟩
          have em : (ri.map CV.ref)[(e.n - 1).toNat]? = some (.ref a) := by rw [List.getElem?_map, ea]; rfl
          have O := (O.pick (p := allP recP (ri.zip rs)) (by get_elem_tactic_trivial)).focus ez
          obtain ⟨ml, O⟩ := rc_open O
          repeat fail
          refine cv2 ?_
          repeat fail
          refine k_ixln (o_get O (by get_elem_tactic_trivial)) (by omega) em ?_
          repeat fail
          refine Ok.eq (notN_I _) ?_
          refine k_asb ?_
          cases he : p.en with
          | some t0 =>
            have est : standB rs now e = false := by rw [es3, he]; rfl
            rw [est]
            repeat fail
            exact ⟨rfl, O0⟩
          | none =>
            repeat fail
            refine cv2 ?_
            repeat fail
            refine k_ixln (o_get O (by get_elem_tactic_trivial)) (by omega) em ?_
            repeat fail
            have O : Own z (recP a p :: allP recP ((ri.zip rs).eraseIdx (e.n - 1).toNat) :: cell b (.ins 15 [(68, .ref rl), (69, .int now)]) :: cell rl (.lst (ri.map CV.ref)) :: F) h := O.ent (ent_rc (ml := ml) (by exfalso))
            refine (b_change O hb2).mono ?_
            rintro y h ⟨rfl, O⟩
            rw [he] at es3
            have es4 : standB rs now e = chgB p e.k := es3.trans (by rfl)
            have O := O.unfocus (get_lt ez)
            rw [zipSetQ ez] at O
            repeat fail "q"
            refine fin (s4 := none) (s5 := none) es4.symm ?_
            have eA : applyB rs e = rs.set (e.n - 1).toNat (chg p e.t e.k) := by
              unfold applyB
              cases hk : e.k with
              | begin a b => rw [hk] at hb2; cases hb2
              | _ => simp only [ep]
            have eR : (if standB rs now e = true then applyB rs e else rs) = rs.set (e.n - 1).toNat (if chgB p e.k = true then chg p e.t e.k else p) := by
              rw [es4, eA]
              by_cases hc : chgB p e.k = true
              · rw [if_pos hc, if_pos hc]
              · rw [if_neg hc, if_neg hc]
                exact (lsetSame ep).symm
            rw [eR]
            exact O.ent (ent_bk (rl := rl) (ri := ri) (by rw [List.length_set]; exact lr) (by exfalso))
        · have est := no fun x => h2 x.2
          rw [decide_eq_false h2]
          rw [est]
          repeat fail
          exact ⟨rfl, O0⟩
      · have est := no fun x => h1 x.1
        rw [decide_eq_false h1, est]
        repeat fail
        exact ⟨rfl, O0⟩
end Sp
set_option Elab.async false
set_option maxRecDepth 100000
set_option linter.all false
set_option maxHeartbeats 2000000
namespace Cn
open Dw
variable {z : List Int} {ps : List HP} {h : CH} {ES : CS → EX} {s : CS} {N C : CS → CH → Prop} {R : CV → CH → Prop}
theorem Sk_forE {x : CV} {g : MG} {b : MS} {xs : List CV} (I : Nat → CS → CH → Prop) (hx : ∀ i s h, I i s h → lstOf h x = some xs)
    (hb : ∀ i v s h, xs[i]? = some v → I i s h → ∃ s1 h1, g (.tup [.int (i : Nat), v]) s h = some (s1, h1) ∧ SkE ES (b s1 h1) (I (i + 1)) (I (i + 1)) R) (hN : ∀ s h, I xs.length s h → N s h) :
    ∀ (n i : Nat) (s : CS) (h : CH), i + n = xs.length + 1 → i ≤ xs.length → I i s h → SkE ES (forLoopE x g b n i s h) N C R
  | 0, i, s, h, e, l, _ => by omega
  | n + 1, i, s, h, e, l, q => by
    with_unfolding_all
    unfold forLoopE itemE
    rw [hx i s h q]
    dsimp only
    by_cases c : i < xs.length
    · have e1 : xs[i]? = some xs[i] := List.getElem?_eq_getElem c
      rw [e1]
      obtain ⟨s1, h1, eg, k⟩ := hb i _ s h e1 q
      dsimp only [Option.map_some]
      rw [eg]
      dsimp only
      cases eb : b s1 h1 <;> rw [eb] at k
      · exact Sk_forE I hx hb hN n (i + 1) _ _ (by omega) (by omega) k
      · exact k
      · first | exact k | exact k.elim
      · exact Sk_forE I hx hb hN n (i + 1) _ _ (by omega) (by omega) k
      · first | exact k | exact k.elim
      · first | exact k | exact k.elim
    · have e1 : xs[i]? = none := List.getElem?_eq_none (by omega)
      rw [e1]
      have : i = xs.length := by omega
      subst this
      exact hN s h q
theorem o_forE {a : ME CV} {g : MG} {b : MS} (o : OkE (ES s) (a s h) fun x h1 => ∃ (r : Nat) (xs : List CV) (I : Nat → CS → CH → Prop), x = .ref r ∧ h1.at r = some (.lst xs) ∧ I 0 s h1 ∧ (∀ i s h, I i s h → h.at r = some (.lst xs)) ∧
    (∀ i v s h, xs[i]? = some v → I i s h → AsP (g (.tup [.int (i : Nat), v]) s h) fun s1 h1 => SkE ES (b s1 h1) (I (i + 1)) (I (i + 1)) R) ∧ ∀ s h, I xs.length s h → N s h) : SkE ES (sForE a g b s h) N C R := by
  with_unfolding_all
  unfold sForE
  rw [Sk_rBind]
  refine o.mono fun x h1 ⟨r, xs, I, ex, e, i0, hr, hb, hN⟩ => ?_
  subst ex
  have hl : lenAt (.ref r) h1 = xs.length := by simp only [lenAt, lstOf, os_at, e]
  rw [hl]
  refine Sk_forE I (fun i s h q => by simp only [lstOf, os_at, hr i s h q]) (fun i v s h ev q => ?_) hN _ 0 s h1 (by omega) (by omega) i0
  have z := hb i v s h ev q
  cases eg : g (.tup [.int (i : Nat), v]) s h with
  | none => rw [eg] at z; exact z.elim
  | some p => rw [eg] at z; exact ⟨p.1, p.2, rfl, z⟩
end Cn
namespace Sp
open Cn Mir Dw
variable {z : List Int} {ps F : List HP} {h h' : CH} {r b a i q : Nat} {now : Int} {E : EX} {Q : CV → CH → Prop} {p : PRc} {rs : List PRc} {e : LE} {es : List LE}
abbrev BS : Type := List PRc × Int × List Nat
def stepB (st : BS) (i : Nat) (e : LE) : BS := if standB st.1 st.2.1 e = true then (applyB st.1 e, e.t, st.2.2) else (st.1, st.2.1, st.2.2 ++ [i])
def tellN (es : List LE) : Nat → BS
  | 0 => ([], 0, [])
  | i + 1 => match es[i]? with
    | none => tellN es i
    | some e => stepB (tellN es i) i e
theorem apply_len : (applyB rs e).length ≤ rs.length + 1 := by
  unfold applyB
  split
  · simp
  · split
    · omega
    · rw [List.length_set]; omega
theorem tell_len (es : List LE) : ∀ i, (tellN es i).1.length ≤ i ∧ (tellN es i).2.2.length ≤ i
  | 0 => ⟨Nat.le_refl _, Nat.le_refl _⟩
  | i + 1 => by
    obtain ⟨h1, h2⟩ := tell_len es i
    unfold tellN
    split
    · omega
    · unfold stepB
      split
      · rename_i e _ _
        exact ⟨by have := apply_len (rs := (tellN es i).1) (e := e); dsimp only; omega, by dsimp only; omega⟩
      · exact ⟨by dsimp only; omega, by dsimp only; rw [List.length_append]; simp; omega⟩
theorem tell_app (e : LE) : ∀ i, i ≤ es.length → tellN (es ++ [e]) i = tellN es i
  | 0, _ => rfl
  | i + 1, l => by
    unfold tellN
    rw [List.getElem?_append_left (by omega), tell_app e i (by omega)]
theorem tell_succ (e : LE) : tellN (es ++ [e]) (es.length + 1) = stepB (tellN es es.length) es.length e := by
  show (match (es ++ [e])[es.length]? with
    | none => tellN (es ++ [e]) es.length
    | some e' => stepB (tellN (es ++ [e]) es.length) es.length e') = _
  rw [List.getElem?_append_right (Nat.le_refl _), Nat.sub_self, tell_app e _ (Nat.le_refl _)]
  rfl
def rowT (p : PRc) : CV := .tup [.int p.num, .str p.caller, .str p.callee, .int p.begun, oI p.rang, oI p.ans, oI p.en, oS p.why, .str p.m0, .str p.m1, .int p.moves]
theorem k_addT2 {xs ys : List CV} (n1 : xs ≠ []) (n2 : ys ≠ []) (l : xs.length + ys.length ≤ 1000) (o : Q (.tup (xs ++ ys)) h) : OkE E (addV (.tup xs) (.tup ys) h) Q := Ok.eq (a := .tup (xs ++ ys)) (h := h) (by simp only [addV]; exact if_pos ⟨n1, n2, by simp [LINE]; omega⟩) o
theorem rc_row (O : Own z (recP r p :: F) h) : OkE NoX (m_Record_row [.ref r] h) fun y h' => y = rowT p ∧ h' = h := by
  obtain ⟨ml, O⟩ := rc_open O
  refine Ok_runD _ _ _ _ rfl ?_
  repeat fail
  refine k_addT2 (by simp) (by simp) (by simp) ?_
  exact ⟨rfl, rfl⟩
theorem o_compQ {own : List Nat} {a e : ME CV} {g : MG} {t : ME Bool} {s : CS} (o : OkE E (a s h) fun x h1 => OkE E (eComp own (eC x) g t e s h1) Q) : OkE E (eComp own a g t e s h) Q := by
  unfold eComp at *
  rw [Ok_bind]
  refine o.mono fun x h1 o => ?_
  rw [Ok_bind] at o
  unfold eC at o
  rw [Ok_ok] at o
  exact o
theorem b_init (O : Own z (cell b (.ins 15 []) :: F) h) : OkE NoX (m_Book_init [.ref b] h) fun y h' => y = .non ∧ Own z (bookP b [] 0 :: F) h' := by
  refine Ok_runD _ _ _ _ rfl ?_
  repeat fail
  obtain ⟨d, ed⟩ : ∃ x, x = fr := ⟨_, rfl⟩
  rw [← ed] at O
  exact ⟨rfl, O.ent (ent_bk (rl := d) (ri := []) rfl (by
    show Ent _ (cell b (.ins 15 [(68, .ref d), (69, .int 0)]) :: cell d (.lst []) :: allP recP [] :: F)
    exfalso))⟩
theorem tell_ (O : Own z (cell q (.lst (es.map LE.cv)) :: F) h) (l : es.length < 900) : OkE NoX (m_tell [.ref q] h) fun y h' => ∃ a c, y = .tup [.ref a, .ref c] ∧ Own z (cell a (.lst ((tellN es es.length).1.map rowT)) :: cell c (.lst ((tellN es es.length).2.2.map fun k : Nat => CV.int k)) :: cell q (.lst (es.map LE.cv)) :: F) h' := by
  refine Ok_runD _ _ _ _ rfl ?_
  repeat fail
  refine (b_init O).mono ?_
  rintro y h ⟨rfl, O⟩
  refine ⟨rfl, ?_⟩
  obtain ⟨b, e1⟩ : ∃ x, x = fr := ⟨_, rfl⟩
  rw [← e1] at O ⊢
  clear e1
  fail
  repeat fail "q"
  obtain ⟨c, e1⟩ : ∃ x, x = fr := ⟨_, rfl⟩
  rw [← e1] at O ⊢
  clear e1
  fail
  refine o_forE ?_
  repeat fail
  refine ⟨q, es.map LE.cv, fun i s1 h1 => (∃ o3 o4 o5, s1 = [some (.ref q), some (.ref b), some (.ref c), o3, o4, o5]) ∧ Own z (cell q (.lst (es.map LE.cv)) :: cell c (.lst ((tellN es i).2.2.map fun k : Nat => CV.int k)) :: bookP b (tellN es i).1 (tellN es i).2.1 :: F) h1, rfl, o_get O (by get_elem_tactic_trivial), ⟨⟨_, _, _, rfl⟩, O.ent (by
    show Ent _ (cell q (.lst (es.map LE.cv)) :: cell c (.lst []) :: bookP b [] 0 :: F)
    exfalso)⟩, fun i s h x => by obtain ⟨_, O⟩ := x; exact o_get O .here, ?_, ?_⟩
  · rintro i v s h ev ⟨⟨o3, o4, o5, rfl⟩, O⟩
    rw [List.getElem?_map] at ev
    obtain ⟨e, ee, rfl⟩ := Option.map_eq_some_iff.mp ev
    have li := get_lt ee
    obtain ⟨l1, l2⟩ := tell_len es i
    have eN : tellN es (i + 1) = stepB (tellN es i) i e := by
      show (match es[i]? with
        | none => tellN es i
        | some e => stepB (tellN es i) i e) = _
      rw [ee]
    refine k_asp rfl ?_
    repeat fail
    refine o_meth O (by repeat first | exact bookC | apply ClsP.there) rfl ?_
    repeat fail
    refine (b_take (e := e) (F := cell q (.lst (es.map LE.cv)) :: cell c (.lst ((tellN es i).2.2.map fun k : Nat => CV.int k)) :: F) (O.ent (by exfalso)) (by omega)).mono ?_
    rintro y h ⟨rfl, O⟩
    have l3 : ((tellN es i).2.2.map fun k : Nat => CV.int k).length < 1000 := by rw [List.length_map]; omega
    cases hs : standB (tellN es i).1 (tellN es i).2.1 e with
    | true =>
      rw [hs, if_pos rfl, if_pos rfl] at O
      repeat fail
      refine ⟨⟨_, _, _, rfl⟩, ?_⟩
      rw [eN]
      unfold stepB
      rw [hs, if_pos rfl]
      exact O.ent (by exfalso)
    | false =>
      rw [hs, if_neg Bool.false_ne_true, if_neg Bool.false_ne_true] at O
      repeat fail
      refine ⟨⟨_, _, _, rfl⟩, ?_⟩
      rw [eN]
      unfold stepB
      rw [hs, if_neg Bool.false_ne_true]
      rw [show ((tellN es i).2.2.map fun k : Nat => CV.int k) ++ [CV.int (i : Nat)] = ((tellN es i).2.2 ++ [i]).map fun k : Nat => CV.int k by simp] at O
      exact O.ent (by exfalso)
  · rintro s h ⟨⟨o3, o4, o5, rfl⟩, O⟩
    rw [List.length_map] at O
    obtain ⟨l1, l2⟩ := tell_len es es.length
    obtain ⟨rs, ers⟩ : ∃ rs, rs = (tellN es es.length).1 := ⟨_, rfl⟩
    obtain ⟨nw, enw⟩ : ∃ rs, rs = (tellN es es.length).2.1 := ⟨_, rfl⟩
    rw [← ers] at l1 ⊢
    rw [← ers, ← enw] at O
    obtain ⟨rl, ri, lr, O⟩ := bk_open (O.pick (p := bookP b rs nw) (by get_elem_tactic_trivial))
    repeat fail
    refine o_compQ ?_
    repeat fail
    refine o_mapQ (z := z) (r := rl) (ys := ri.map CV.ref) (ri.zip rs) (fun _ => true) (fun x => rowT x.2) (by rw [List.length_map, List.length_zip, lr, Nat.min_self]) (by rw [List.length_map, lr]; omega) O (by get_elem_tactic_trivial) ?_ ?_ fun d h O => ?_
    · exact k_c ⟨rfl, rfl⟩
    · intro i v x h ev ex hI hP
      rw [List.getElem?_map] at ev
      obtain ⟨a, ea, rfl⟩ := Option.map_eq_some_iff.mp ev
      obtain ⟨a2, p⟩ := x
      have e2 := (List.getElem?_zip_eq_some.mp ex).1
      rw [ea] at e2
      cases e2
      obtain ⟨D, O⟩ := hP (q := allP recP (ri.zip rs)) (by get_elem_tactic_trivial)
      have O := O.focus ex
      refine k_asp rfl ⟨rfl, ?_⟩
      refine k_yes ⟨rfl, rfl, fun _ => ?_⟩
      repeat fail
      refine o_meth O recC rfl ?_
      repeat fail
      refine (rc_row O).mono ?_
      rintro y h ⟨rfl, rfl⟩
      exact ⟨rfl, rfl⟩
    have em : (((ri.zip rs).filter fun _ => true).map fun x => rowT x.2) = rs.map rowT := by
      rw [List.filter_eq_self.mpr fun _ _ => rfl]
      conv => rhs; rw [← List.map_snd_zip (Nat.le_of_eq lr.symm)]
      rw [List.map_map]
      rfl
    rw [em] at O
    repeat fail
    exact ⟨d, c, rfl, O.ent (by exfalso)⟩
end Sp
set_option Elab.async false
set_option maxRecDepth 100000
set_option linter.all false
set_option maxHeartbeats 2000000
namespace Sp
open Cn Mir Dw
variable {z : List Int} {ps F : List HP} {h h' : CH} {r q jr tr : Nat} {now n : Int} {E : EX} {Q : CV → CH → Prop}
structure PT where
  unit : Int
  bands : List (Int × Int)
  last : Int
structure PT.W (T : PT) : Prop where
  u : 0 < T.unit ∧ T.unit < 20000
  b : ∀ x ∈ T.bands, 0 ≤ x.2 ∧ x.2 ≤ 10000
  l : 0 ≤ T.last ∧ T.last ≤ 10000
def pairV (x : Int × Int) : CV := .tup [.int x.1, .int x.2]
def tarP (r : Nat) (T : PT) : HP := exP fun br : Nat => sep [cell r (.ins 9 [(45, .int T.unit), (46, .ref br), (47, .int T.last)]), cell br (.lst (T.bands.map pairV))]
def PT.run : List (Int × Int) → Int × Int → Int × Int
  | [], s => s
  | x :: r, s => PT.run r (s.1 + (if s.2 < x.1 then s.2 else x.1) * x.2, s.2 - (if s.2 < x.1 then s.2 else x.1))
def PT.units (T : PT) (span : Int) : Int := (span + T.unit - 1) / T.unit
def PT.cost (T : PT) (span : Int) : Int := (PT.run T.bands (0, T.units span)).1 + (PT.run T.bands (0, T.units span)).2 * T.last
theorem tar_open {T : PT} (O : Own z (tarP r T :: F) h) : ∃ br, Own z (cell r (.ins 9 [(45, .int T.unit), (46, .ref br), (47, .int T.last)]) :: cell br (.lst (T.bands.map pairV)) :: F) h := let ⟨br, O⟩ := O.open; ⟨br, O.flat⟩
theorem ent_tar {T : PT} {br : Nat} {qs : List HP} (e : Ent ps (cell r (.ins 9 [(45, .int T.unit), (46, .ref br), (47, .int T.last)]) :: cell br (.lst (T.bands.map pairV)) :: qs)) : Ent ps (tarP r T :: qs) := .ex br (.sep e)
theorem t_units {T : PT} {span : Int} (O : Own z (tarP r T :: F) h) (W : T.W) : OkE NoX (m_Tariff_units [.ref r, .int span] h) fun y h' => y = .int (T.units span) ∧ Own z (tarP r T :: F) h' := by
  obtain ⟨br, O⟩ := tar_open O
  have u := W.u
  refine Ok_runD _ _ _ _ rfl ?_
  repeat fail
  refine Ok.eq (a := .int ((span + T.unit - 1) / T.unit)) (h := h) (if_pos ⟨u.1, by omega⟩) ?_
  exact ⟨rfl, O.ent (ent_tar (by exfalso))⟩
theorem k_aug {g : CV → CV → CH → Res CV} {i : Nat} {ma : ME CV} {c : CV} {ES : CS → EX} {s : CS} {N C : CS → CH → Prop} {R : CV → CH → Prop} (e : s[i]? = some (some c)) (o : OkE (ES s) (ma s h) fun y h1 => OkE (ES s) (g c y h1) fun x h2 => N (s.set i (some x)) h2) : SkE ES (sAug g i ma s h) N C R := by
  unfold sAug
  rw [e]
  dsimp only
  rw [Sk_rBind]
  refine o.mono fun y h1 o => ?_
  rw [Sk_rBind]
  refine o.mono fun x h2 o => ?_
  rw [Sk_nx]
  exact o
theorem k_mulr {i j : Int} {Q : CV → CH → Prop} (l : -20000 < j ∧ j < 20000) (o : Q (.int (i * j)) h) : OkE E (mulV (.int i) (.int j) h) Q := Ok.eq (a := .int (i * j)) (h := h) (if_pos (.inr ⟨by unfold B64; omega, by unfold B64; omega⟩)) o
theorem tarC {T : PT} : ClsP r 9 none (tarP r T :: ps) := .here fun cs ⟨_, x⟩ => ⟨_, sep_mem x, rfl⟩
theorem tarC53 {T : PT} : ClsP r 9 (some 53) (tarP r T :: ps) := .here fun cs ⟨_, x⟩ => ⟨_, sep_mem x, rfl⟩
theorem run_app : ∀ (a b : List (Int × Int)) (s : Int × Int), PT.run (a ++ b) s = PT.run b (PT.run a s)
  | [], b, s => rfl
  | x :: a, b, s => by simp only [List.cons_append, PT.run]; exact run_app a b _
theorem t_cost {T : PT} {span : Int} (O : Own z (tarP r T :: F) h) (W : T.W) : OkE NoX (m_Tariff_cost [.ref r, .int span] h) fun y h' => y = .int (T.cost span) ∧ Own z (tarP r T :: F) h' := by
  refine Ok_runD _ _ _ _ rfl ?_
  repeat fail
  refine o_meth O tarC rfl ?_
  repeat fail
  refine (t_units O W).mono ?_
  rintro y h ⟨rfl, O⟩
  obtain ⟨br, O⟩ := tar_open O
  repeat fail
  refine SkE.mono (N := fun s1 h1 => (∃ x y u, s1 = [some (.ref r), some (.int span), some (.int (PT.run T.bands (0, T.units span)).2), some (.int (PT.run T.bands (0, T.units span)).1), x, y, u]) ∧ Own z (cell r (.ins 9 [(45, .int T.unit), (46, .ref br), (47, .int T.last)]) :: cell br (.lst (T.bands.map pairV)) :: F) h1) ?_ ?_ (fun _ _ x => x) (fun _ _ x => x)
  · refine o_for ?_
    repeat fail
    refine ⟨br, T.bands.map pairV, fun i s1 h1 => (∃ x y u, s1 = [some (.ref r), some (.int span), some (.int (PT.run (T.bands.take i) (0, T.units span)).2), some (.int (PT.run (T.bands.take i) (0, T.units span)).1), x, y, u]) ∧ Own z (cell r (.ins 9 [(45, .int T.unit), (46, .ref br), (47, .int T.last)]) :: cell br (.lst (T.bands.map pairV)) :: F) h1, rfl, o_get O (by get_elem_tactic_trivial), ⟨⟨_, _, _, rfl⟩, O⟩, fun i s h x => o_get x.2 (.there .here), ?_, fun s h x => ?_⟩
    · rintro i v s1 h ev ⟨⟨x, y, u, rfl⟩, O⟩
      rw [List.getElem?_map] at ev
      obtain ⟨⟨a, b⟩, ex, rfl⟩ := Option.map_eq_some_iff.mp ev
      have wb := W.b _ (List.mem_of_getElem? ex)
      have wb : 0 ≤ b ∧ b ≤ 10000 := wb
      have er : PT.run (T.bands.take (i + 1)) (0, T.units span) = PT.run [(a, b)] (PT.run (T.bands.take i) (0, T.units span)) := by
        rw [List.take_succ, ex, run_app]; rfl
      refine k_asp rfl ?_
      repeat fail
      refine k_aug rfl ?_
      repeat fail
      refine k_aug rfl ?_
      repeat fail
      exact ⟨⟨_, _, _, by rw [er]; rfl⟩, O⟩
    · rw [List.length_map, List.take_length] at x
      exact x
  rintro s1 h ⟨⟨x, y, u, rfl⟩, O⟩
  repeat fail
  have wl := W.l
  refine k_mulr (by omega) ?_
  repeat fail
  exact ⟨rfl, O.ent (ent_tar (by exfalso))⟩
end Sp
end
set_option Elab.async false
set_option maxRecDepth 100000
set_option linter.all false
set_option maxHeartbeats 2000000
namespace Sp
open Cn Mir Dw
variable {h : CH} {e : LE} {es : List LE}
theorem join_len : ∀ (xs : List (List Nat)) (m : Nat), (∀ x ∈ xs, x.length ≤ m) → (joinR xs).length ≤ xs.length * (m + 2)
  | [], m, _ => by simp [joinR]
  | [x], m, k => by have := k x (by simp); show x.length ≤ _; simp; omega
  | x :: y :: r, m, k => by
    have h1 := k x (by simp)
    have h2 := join_len (y :: r) m fun w hw => k w (by simp [hw])
    show (x ++ [44, 32] ++ joinR (y :: r)).length ≤ _
    rw [List.length_append, List.length_append, List.length_cons (as := y :: r), Nat.succ_mul]
    simp only [List.length_cons, List.length_nil] at h2 ⊢
    omega
theorem reprCs_mem : ∀ {ds : List CD} {w : List Nat}, w ∈ reprCs ds → ∃ d ∈ ds, w = reprC d
  | [], w, m => by cases m
  | d :: r, w, m => by
    have m : w ∈ reprC d :: reprCs r := m
    rcases List.mem_cons.mp m with rfl | m
    · exact ⟨d, List.mem_cons_self .., rfl⟩
    · obtain ⟨c, mc, e⟩ := reprCs_mem m
      exact ⟨c, List.mem_cons_of_mem _ mc, e⟩
theorem reprCs_len : ∀ ds : List CD, (reprCs ds).length = ds.length
  | [] => rfl
  | d :: r => by show (reprCs r).length + 1 = _; rw [reprCs_len r]; rfl
theorem okRs_all : ∀ ds : List CD, (∀ d ∈ ds, okR d = true) → okRs ds = true
  | [], _ => rfl
  | d :: r, k => by
    show (okR d && okRs r) = true
    rw [k d (List.mem_cons_self ..), okRs_all r fun c hc => k c (List.mem_cons_of_mem _ hc)]; rfl
theorem repr_lst {ds : List CD} {m : Nat} (k : ∀ d ∈ ds, (reprC d).length ≤ m) : (reprC (.lst ds)).length ≤ ds.length * (m + 2) + 2 := by
  show (91 :: joinR (reprCs ds) ++ [93]).length ≤ _
  have := join_len (reprCs ds) m fun x hx => by obtain ⟨d, md, rfl⟩ := reprCs_mem hx; exact k d md
  rw [reprCs_len] at this
  simp; omega
theorem repr_tup {ds : List CD} {m : Nat} (k : ∀ d ∈ ds, (reprC d).length ≤ m) : (reprC (.tup ds)).length ≤ ds.length * (m + 2) + 3 := by
  show (40 :: joinR (reprCs ds) ++ (if ds.length = 1 then [44, 41] else [41])).length ≤ _
  have := join_len (reprCs ds) m fun x hx => by obtain ⟨d, md, rfl⟩ := reprCs_mem hx; exact k d md
  rw [reprCs_len] at this
  split <;> simp <;> omega
def Sml (d : CD) : Prop := okR d = true ∧ (reprC d).length ≤ 40
theorem sml_str {w : List Nat} (h : w.all plainC = true) (l : w.length ≤ 30) : Sml (.str w) := ⟨h, by show (39 :: w ++ [39]).length ≤ 40; simp; omega⟩
theorem sml_int {i : Int} (h : 0 ≤ i ∧ i < 1000000000) : Sml (.int i) := ⟨by show decide _ = true; exact decide_eq_true ⟨h.1, by omega⟩, by
  have : (numC i.toNat).length ≤ 9 := numC_len (by omega) (by omega)
  show (numC i.toNat).length ≤ 40
  omega⟩
theorem sml_tup {ds : List CD} (k : ∀ d ∈ ds, Sml d) (l : ds.length ≤ 12) : okR (.tup ds) = true ∧ (reprC (.tup ds)).length ≤ 510 := ⟨okRs_all ds fun d m => (k d m).1, by have := repr_tup fun d m => (k d m).2; have : ds.length * (40 + 2) ≤ 12 * 42 := Nat.mul_le_mul_right _ l; omega⟩
def LE.cd (e : LE) : CD := match e.k with
  | .begin a b => .tup [.str nBEGIN, .int e.t, .int e.n, .str a, .str b]
  | .ring => .tup [.str nRING, .int e.t, .int e.n]
  | .answer w => .tup [.str nANSWER, .int e.t, .int e.n, .str w]
  | .turn s m => .tup [.str nTURN, .int e.t, .int e.n, .int s, .str m]
  | .move s w => .tup [.str nMOVE, .int e.t, .int e.n, .int s, .str w]
  | .moved s => .tup [.str nMOVED, .int e.t, .int e.n, .int s]
  | .fin w => .tup [.str nEND, .int e.t, .int e.n, .str w]
theorem le_data (k : Nat) (e : LE) : dataC h (k + 1) e.cv = some e.cd := by
  obtain ⟨t, n, ek⟩ := e
  cases ek <;> simp [LE.cv, LE.cd, dataC, dataCs]
theorem les_data (k : Nat) : ∀ es : List LE, dataCs h (k + 1) (es.map LE.cv) = some (es.map LE.cd)
  | [] => by simp [dataCs]
  | e :: es => by rw [List.map_cons]; simp [dataCs, le_data, les_data k es]
abbrev SW (w : List Nat) : Prop := w.all plainC = true ∧ w.length ≤ 30
structure LE.G (e : LE) : Prop where
  t : 0 ≤ e.t ∧ e.t < 1000000
  n : 0 ≤ e.n ∧ e.n < 1000000
  k : match e.k with
    | .begin a b => SW a ∧ SW b
    | .ring => True
    | .answer w => SW w
    | .turn s m => (0 ≤ s ∧ s < 10) ∧ SW m
    | .move s w => (0 ≤ s ∧ s < 10) ∧ SW w
    | .moved s => (0 ≤ s ∧ s < 10)
    | .fin w => SW w
theorem LE.G.ok (g : e.G) : okR e.cd = true ∧ (reprC e.cd).length ≤ 510 := by
  obtain ⟨t, n, ek⟩ := e
  have ht0 : 0 ≤ t ∧ t < 1000000 := g.t
  have hn0 : 0 ≤ n ∧ n < 1000000 := g.n
  have ht := sml_int (i := t) ⟨ht0.1, by omega⟩
  have hn := sml_int (i := n) ⟨hn0.1, by omega⟩
  have gk := g.k
  have w1 : Sml (.str nBEGIN) := sml_str (by decide) (by decide)
  have w2 : Sml (.str nRING) := sml_str (by decide) (by decide)
  have w3 : Sml (.str nANSWER) := sml_str (by decide) (by decide)
  have w4 : Sml (.str nTURN) := sml_str (by decide) (by decide)
  have w5 : Sml (.str nMOVE) := sml_str (by decide) (by decide)
  have w6 : Sml (.str nMOVED) := sml_str (by decide) (by decide)
  have w7 : Sml (.str nEND) := sml_str (by decide) (by decide)
  have sw : ∀ {w : List Nat}, SW w → Sml (.str w) := fun x => sml_str x.1 x.2
  have si : ∀ {s : Int}, (0 ≤ s ∧ s < 10) → Sml (.int s) := fun x => sml_int ⟨x.1, by omega⟩
  cases ek with
  | begin a b => exact sml_tup (by simp only [List.forall_mem_cons]; exact ⟨w1, ht, hn, sw gk.1, sw gk.2, fun _ m => by cases m⟩) (by simp)
  | ring => exact sml_tup (by simp only [List.forall_mem_cons]; exact ⟨w2, ht, hn, fun _ m => by cases m⟩) (by simp)
  | answer w => exact sml_tup (by simp only [List.forall_mem_cons]; exact ⟨w3, ht, hn, sw gk, fun _ m => by cases m⟩) (by simp)
  | turn s m => exact sml_tup (by simp only [List.forall_mem_cons]; exact ⟨w4, ht, hn, si gk.1, sw gk.2, fun _ m => by cases m⟩) (by simp)
  | move s w => exact sml_tup (by simp only [List.forall_mem_cons]; exact ⟨w5, ht, hn, si gk.1, sw gk.2, fun _ m => by cases m⟩) (by simp)
  | moved s => exact sml_tup (by simp only [List.forall_mem_cons]; exact ⟨w6, ht, hn, si gk, fun _ m => by cases m⟩) (by simp)
  | fin w => exact sml_tup (by simp only [List.forall_mem_cons]; exact ⟨w7, ht, hn, sw gk, fun _ m => by cases m⟩) (by simp)
theorem les_repr (g : ∀ e ∈ es, e.G) (l : es.length ≤ 100) : okR (.lst (es.map LE.cd)) = true ∧ (reprC (.lst (es.map LE.cd))).length ≤ 52000 := by
  refine ⟨okRs_all _ fun d m => ?_, ?_⟩
  · obtain ⟨e, me, rfl⟩ := List.mem_map.mp m
    exact (g e me).ok.1
  · have := repr_lst (ds := es.map LE.cd) (m := 510) fun d m => by
      obtain ⟨e, me, rfl⟩ := List.mem_map.mp m
      exact (g e me).ok.2
    rw [List.length_map] at this
    have : es.length * (510 + 2) ≤ 100 * 512 := Nat.mul_le_mul_right _ l
    omega
theorem k_repr {n : Nat} {xs : List CV} {d : List CD} {E : EX} {Q : CV → CH → Prop} (e : h.at n = some (.lst xs)) (ed : dataCs h 49 xs = some d) (ok : okR (.lst d) = true) (l : (reprC (.lst d)).length ≤ 16777216) (o : Q (.str (reprC (.lst d))) h) : OkE E (reprV [.ref n] h) Q := by
  refine Ok.eq (a := .str (reprC (.lst d))) (h := h) ?_ o
  unfold reprV
  have e2 : dataC h 50 (.ref n) = some (.lst d) := by simp only [dataC, os_at, e, ed]
  dsimp only
  rw [e2]
  dsimp only
  rw [if_pos ⟨ok, l⟩]
end Sp
set_option Elab.async false
set_option maxRecDepth 100000
section
open Cn Mir Dw
set_option hygiene false in
local macro_rules | `(tactic| get_elem_tactic_trivial) => `(tactic| with_reducible assumption)
set_option hygiene false in
local macro_rules | `(tactic| get_elem_tactic_trivial) => `(tactic| ((with_reducible apply ClsP.there); get_elem_tactic_trivial))
set_option hygiene false in
local macro_rules | `(tactic| get_elem_tactic_trivial) => `(tactic| ((with_reducible refine ClsP.legP)))
set_option hygiene false in
local macro_rules | `(tactic| get_elem_tactic_trivial) => `(tactic| ((with_reducible refine ClsP.rd49)))
set_option hygiene false in
local macro_rules | `(tactic| get_elem_tactic_trivial) => `(tactic| ((with_reducible refine ClsP.rd24)))
set_option hygiene false in
local macro_rules | `(tactic| get_elem_tactic_trivial) => `(tactic| ((with_reducible refine ClsP.rd)))
set_option hygiene false in
local macro_rules | `(tactic| get_elem_tactic_trivial) => `(tactic| ((with_reducible refine ClsP.legR)))
set_option hygiene false in
local macro_rules | `(tactic| get_elem_tactic_trivial) => `(tactic| ((with_reducible refine ClsP.sv)))
set_option hygiene false in
local macro_rules | `(tactic| get_elem_tactic_trivial) => `(tactic| ((with_reducible refine ClsP.phR0)))
set_option hygiene false in
local macro_rules | `(tactic| get_elem_tactic_trivial) => `(tactic| ((with_reducible refine ClsP.phR18)))
set_option hygiene false in
local macro_rules | `(tactic| get_elem_tactic_trivial) => `(tactic| ((with_reducible refine ClsP.phR)))
set_option hygiene false in
local macro_rules | `(tactic| get_elem_tactic_trivial) => `(tactic| ((with_reducible refine ClsP.cl)))
set_option hygiene false in
local macro_rules | `(tactic| get_elem_tactic_trivial) => `(tactic| ((with_reducible refine Cn.o_get O ?_); get_elem_tactic_trivial))
set_option hygiene false in
local macro_rules | `(tactic| get_elem_tactic_trivial) => `(tactic| ((with_reducible apply PickP.there); get_elem_tactic_trivial))
set_option hygiene false in
local macro_rules | `(tactic| get_elem_tactic_trivial) => `(tactic| ((with_reducible apply PickP.eq); exact rfl))
set_option hygiene false in
local macro_rules | `(tactic| get_elem_tactic_trivial) => `(tactic| ((with_reducible refine PickP.here)))
set_option hygiene false in
local macro_rules | `(tactic| get_elem_tactic_trivial) => `(tactic| ((with_reducible apply UpP.there); get_elem_tactic_trivial))
set_option hygiene false in
local macro_rules | `(tactic| get_elem_tactic_trivial) => `(tactic| ((with_reducible refine UpP.here ?_); rfl))
set_option hygiene false in
local macro_rules | `(tactic| get_elem_tactic_trivial) => `(tactic| ((with_reducible refine InP.there ?_); get_elem_tactic_trivial))
set_option hygiene false in
local macro_rules | `(tactic| get_elem_tactic_trivial) => `(tactic| ((with_reducible refine InP.here)))
set_option hygiene false in
local macro_rules | `(tactic| fail "q") => `(tactic| ((with_reducible refine k_ifn ?_ ?_); (first | exact Bool.false_ne_true | decide | assumption)))
set_option hygiene false in
local macro_rules | `(tactic| fail "q") => `(tactic| ((with_reducible refine k_ifp ?_ ?_); (first | rfl | trivial | assumption)))
set_option hygiene false in
local macro_rules | `(tactic| fail "q") => `(tactic| ((with_reducible refine k_aso rfl ?_)))
set_option hygiene false in
local macro_rules | `(tactic| fail "q") => `(tactic| ((with_reducible refine Cn.k_yes ?_)))
set_option hygiene false in
local macro_rules | `(tactic| fail "q") => `(tactic| ((with_reducible apply o_dpK O); get_elem_tactic_trivial; rfl; omega; intro h O))
set_option hygiene false in
local macro_rules | `(tactic| fail "q") => `(tactic| ((with_reducible apply o_dpT O); get_elem_tactic_trivial; rfl; omega; intro h O))
set_option hygiene false in
local macro_rules | `(tactic| fail "q") => `(tactic| ((with_reducible apply k_dgF); get_elem_tactic_trivial; rfl))
set_option hygiene false in
local macro_rules | `(tactic| fail "q") => `(tactic| ((with_reducible apply k_dgK); get_elem_tactic_trivial; rfl))
set_option hygiene false in
local macro_rules | `(tactic| fail "q") => `(tactic| ((with_reducible apply k_dgT); get_elem_tactic_trivial; rfl))
set_option hygiene false in
local macro_rules | `(tactic| fail "q") => `(tactic| ((with_reducible apply o_slicel O); get_elem_tactic_trivial; intro fr h O))
set_option hygiene false in
local macro_rules | `(tactic| fail "q") => `(tactic| ((with_reducible apply o_listt O); intro fr h O))
set_option hygiene false in
local macro_rules | `(tactic| fail "q") => `(tactic| ((with_reducible apply o_listl O); get_elem_tactic_trivial; intro fr h O))
set_option hygiene false in
local macro_rules | `(tactic| fail "q") => `(tactic| ((with_reducible apply k_isil); get_elem_tactic_trivial))
set_option hygiene false in
local macro_rules | `(tactic| fail "q") => `(tactic| ((with_reducible apply k_tupl); get_elem_tactic_trivial))
set_option hygiene false in
local macro_rules | `(tactic| fail "q") => `(tactic| ((with_reducible apply k_isDF); get_elem_tactic_trivial))
set_option hygiene false in
local macro_rules | `(tactic| fail "q") => `(tactic| ((with_reducible apply k_isDK); get_elem_tactic_trivial))
set_option hygiene false in
local macro_rules | `(tactic| fail "q") => `(tactic| ((with_reducible apply k_isDT); get_elem_tactic_trivial))
set_option hygiene false in
local macro_rules | `(tactic| fail "q") => `(tactic| ((with_reducible apply k_asp); rfl))
set_option hygiene false in
local macro_rules | `(tactic| fail "q") => `(tactic| ((with_reducible apply k_ninl); get_elem_tactic_trivial; rfl))
set_option hygiene false in
local macro_rules | `(tactic| fail "q") => `(tactic| ((with_reducible apply k_inl); get_elem_tactic_trivial; rfl))
set_option hygiene false in
local macro_rules | `(tactic| fail "q") => `(tactic| ((with_reducible refine k_nint ?_ ?_); rfl))
set_option hygiene false in
local macro_rules | `(tactic| fail "q") => `(tactic| ((with_reducible refine k_ninC ?_ ?_); rfl))
set_option hygiene false in
local macro_rules | `(tactic| fail "q") => `(tactic| ((with_reducible refine k_inC ?_ ?_); rfl))
set_option hygiene false in
local macro_rules | `(tactic| fail "q") => `(tactic| ((with_reducible refine k_int ?_ ?_); rfl))
set_option hygiene false in
local macro_rules | `(tactic| fail "q") => `(tactic| ((with_reducible apply k_lend); get_elem_tactic_trivial; rfl))
set_option hygiene false in
local macro_rules | `(tactic| fail "q") => `(tactic| ((with_reducible apply k_lcons); get_elem_tactic_trivial; rfl))
set_option hygiene false in
local macro_rules | `(tactic| fail "q") => `(tactic| ((with_reducible apply o_pop O); get_elem_tactic_trivial; intro h O))
set_option hygiene false in
local macro_rules | `(tactic| fail "q") => `(tactic| ((with_reducible apply o_addl O); get_elem_tactic_trivial; get_elem_tactic_trivial; (first | omega | focus (simp <;> omega)); intro fr h O))
set_option hygiene false in
local macro_rules | `(tactic| fail "q") => `(tactic| ((with_reducible refine Ok.eq (z_str _ ?_ ?_) ?_); omega; omega))
set_option hygiene false in
local macro_rules | `(tactic| fail "q") => `(tactic| ((with_reducible refine Ok.eq (z_lens _ ?_) ?_); omega))
set_option hygiene false in
local macro_rules | `(tactic| fail "q") => `(tactic| ((with_reducible refine Ok.eq (z_mul' _ _ ?_) ?_); omega))
set_option hygiene false in
local macro_rules | `(tactic| fail "q") => `(tactic| ((with_reducible refine Ok.eq (z_mul _ _ ?_) ?_); omega))
set_option hygiene false in
local macro_rules | `(tactic| fail "q") => `(tactic| ((with_reducible refine Ok.eq (z_adds _ _ ?_) ?_); (first | omega | focus (simp <;> omega))))
set_option hygiene false in
local macro_rules | `(tactic| fail "q") => `(tactic| ((with_reducible refine Ok.eq (z_lent _) ?_)))
set_option hygiene false in
local macro_rules | `(tactic| fail "q") => `(tactic| ((with_reducible refine Ok.eq (z_inti _) ?_)))
set_option hygiene false in
local macro_rules | `(tactic| fail "q") => `(tactic| ((with_reducible refine Ok.eq (z_isNt _) ?_)))
set_option hygiene false in
local macro_rules | `(tactic| fail "q") => `(tactic| ((with_reducible refine Ok.eq (z_isNr _) ?_)))
set_option hygiene false in
local macro_rules | `(tactic| fail "q") => `(tactic| ((with_reducible refine Ok.eq (z_isNs _) ?_)))
set_option hygiene false in
local macro_rules | `(tactic| fail "q") => `(tactic| ((with_reducible refine Ok.eq (z_isNi _) ?_)))
set_option hygiene false in
local macro_rules | `(tactic| fail "q") => `(tactic| ((with_reducible refine Ok.eq (z_isN) ?_)))
set_option hygiene false in
local macro_rules | `(tactic| fail "q") => `(tactic| ((with_reducible refine Ok.eq (z_notNt _) ?_)))
set_option hygiene false in
local macro_rules | `(tactic| fail "q") => `(tactic| ((with_reducible refine Ok.eq (z_notNr _) ?_)))
set_option hygiene false in
local macro_rules | `(tactic| fail "q") => `(tactic| ((with_reducible refine Ok.eq (z_notNs _) ?_)))
set_option hygiene false in
local macro_rules | `(tactic| fail "q") => `(tactic| ((with_reducible refine Ok.eq (z_notNi _) ?_)))
set_option hygiene false in
local macro_rules | `(tactic| fail "q") => `(tactic| ((with_reducible refine Ok.eq (z_notN) ?_)))
set_option hygiene false in
local macro_rules | `(tactic| fail "q") => `(tactic| ((with_reducible refine Ok.eq (z_neb _ _) ?_)))
set_option hygiene false in
local macro_rules | `(tactic| fail "q") => `(tactic| ((with_reducible refine Ok.eq (z_eqb _ _) ?_)))
set_option hygiene false in
local macro_rules | `(tactic| fail "q") => `(tactic| ((with_reducible refine Ok.eq (z_isi_b _ _) ?_)))
set_option hygiene false in
local macro_rules | `(tactic| fail "q") => `(tactic| ((with_reducible refine Ok.eq (z_nes _ _) ?_)))
set_option hygiene false in
local macro_rules | `(tactic| fail "q") => `(tactic| ((with_reducible refine Ok.eq (z_nei _ _) ?_)))
set_option hygiene false in
local macro_rules | `(tactic| fail "q") => `(tactic| ((with_reducible refine Ok.eq (z_eqs _ _) ?_)))
set_option hygiene false in
local macro_rules | `(tactic| fail "q") => `(tactic| ((with_reducible refine Ok.eq (z_eqi _ _) ?_)))
set_option hygiene false in
local macro_rules | `(tactic| fail "q") => `(tactic| ((with_reducible refine Ok.eq (z_ge _ _) ?_)))
set_option hygiene false in
local macro_rules | `(tactic| fail "q") => `(tactic| ((with_reducible refine Ok.eq (z_gt _ _) ?_)))
set_option hygiene false in
local macro_rules | `(tactic| fail "q") => `(tactic| ((with_reducible refine Ok.eq (z_le _ _) ?_)))
set_option hygiene false in
local macro_rules | `(tactic| fail "q") => `(tactic| ((with_reducible refine Ok.eq (z_lt _ _) ?_)))
set_option hygiene false in
local macro_rules | `(tactic| fail "q") => `(tactic| ((with_reducible refine Ok.eq (z_neg _) ?_)))
set_option hygiene false in
local macro_rules | `(tactic| fail "q") => `(tactic| ((with_reducible refine Ok.eq (z_sub _ _) ?_)))
set_option hygiene false in
local macro_rules | `(tactic| fail "q") => `(tactic| ((with_reducible refine Ok.eq (z_addI _ _) ?_)))
set_option hygiene false in
local macro_rules | `(tactic| fail "q") => `(tactic| ((with_reducible refine Ok.eq (z_add _ _) ?_)))
set_option hygiene false in
local macro_rules | `(tactic| fail "q") => `(tactic| ((with_reducible refine k_le ?_ ?_); (first | omega | focus (simp <;> omega))))
set_option hygiene false in
local macro_rules | `(tactic| fail "q") => `(tactic| ((with_reducible apply k_kind); get_elem_tactic_trivial))
set_option hygiene false in
local macro_rules | `(tactic| fail "q") => `(tactic| ((with_reducible apply k_same); get_elem_tactic_trivial; get_elem_tactic_trivial))
set_option hygiene false in
local macro_rules | `(tactic| fail "q") => `(tactic| ((with_reducible apply k_lenl); get_elem_tactic_trivial))
set_option hygiene false in
local macro_rules | `(tactic| fail "q") => `(tactic| ((with_reducible apply o_ext O); get_elem_tactic_trivial; get_elem_tactic_trivial; (first | omega | focus (simp <;> omega)); intro h O))
set_option hygiene false in
local macro_rules | `(tactic| fail "q") => `(tactic| ((with_reducible apply o_app O); get_elem_tactic_trivial; (first | omega | focus (simp <;> omega)); intro h O))
set_option hygiene false in
local macro_rules | `(tactic| fail "q") => `(tactic| ((with_reducible apply o_setl O); get_elem_tactic_trivial; (first | decide | omega | (first | omega | focus (simp <;> omega))); (first | omega | focus (simp <;> omega)); rfl; intro h O))
set_option hygiene false in
local macro_rules | `(tactic| fail "q") => `(tactic| ((with_reducible apply k_ixln); get_elem_tactic_trivial; (first | decide | omega | (first | omega | focus (simp <;> omega))); rfl))
set_option hygiene false in
local macro_rules | `(tactic| fail "q") => `(tactic| ((with_reducible apply k_ixt); decide; rfl))
set_option hygiene false in
local macro_rules | `(tactic| fail "q") => `(tactic| ((with_reducible refine o_newD O (fun fr h O => ?_))))
set_option hygiene false in
local macro_rules | `(tactic| fail "q") => `(tactic| ((with_reducible refine ⟨_, _, O, fun fr h O => ?_⟩)))
set_option hygiene false in
local macro_rules | `(tactic| fail "q") => `(tactic| ((with_reducible refine ⟨_, _, O, ?_, fun fr h O => ?_⟩); (first | omega | focus (simp <;> omega))))
set_option hygiene false in
local macro_rules | `(tactic| fail "q") => `(tactic| ((with_reducible apply o_make)))
set_option hygiene false in
local macro_rules | `(tactic| fail "q") => `(tactic| ((with_reducible apply o_lstQ)))
set_option hygiene false in
local macro_rules | `(tactic| fail "q") => `(tactic| ((with_reducible apply o_setF O); get_elem_tactic_trivial; rfl; (first | (simp only [putC, Nat.reduceEqDiff, if_false, reduceIte]; rfl) | rfl); intro h O))
set_option hygiene false in
local macro_rules | `(tactic| fail "q") => `(tactic| ((with_reducible apply o_meth O); get_elem_tactic_trivial; rfl))
set_option hygiene false in
local macro_rules | `(tactic| fail "q") => `(tactic| ((with_reducible apply k_methC); get_elem_tactic_trivial; rfl; rfl))
set_option hygiene false in
local macro_rules | `(tactic| fail "q") => `(tactic| ((with_reducible apply k_getF); get_elem_tactic_trivial; rfl; rfl))
set_option hygiene false in
local macro_rules | `(tactic| fail "q") => `(tactic| ((with_reducible refine k_ord ?_)))
set_option hygiene false in
local macro_rules | `(tactic| fail "q") => `(tactic| ((with_reducible refine k_sw ?_)))
set_option hygiene false in
local macro_rules | `(tactic| fail "q") => `(tactic| ((with_reducible refine k_fldaug ?_)))
set_option hygiene false in
local macro_rules | `(tactic| fail "q") => `(tactic| ((with_reducible refine k_dnin ?_)))
set_option hygiene false in
local macro_rules | `(tactic| fail "q") => `(tactic| ((with_reducible refine k_din ?_)))
set_option hygiene false in
local macro_rules | `(tactic| fail "q") => `(tactic| ((with_reducible refine k_dix ?_)))
set_option hygiene false in
local macro_rules | `(tactic| fail "q") => `(tactic| ((with_reducible refine k_dput ?_)))
set_option hygiene false in
local macro_rules | `(tactic| fail "q") => `(tactic| ((with_reducible refine k_dget2 ?_)))
set_option hygiene false in
local macro_rules | `(tactic| fail "q") => `(tactic| ((with_reducible refine k_dget1 ?_)))
set_option hygiene false in
local macro_rules | `(tactic| fail "q") => `(tactic| ((with_reducible refine k_min ?_)))
set_option hygiene false in
local macro_rules | `(tactic| fail "q") => `(tactic| ((with_reducible refine k_re ?_)))
set_option hygiene false in
local macro_rules | `(tactic| fail "q") => `(tactic| ((with_reducible refine k_kinds ?_)))
set_option hygiene false in
local macro_rules | `(tactic| fail "q") => `(tactic| ((with_reducible refine k_asi ?_)))
set_option hygiene false in
local macro_rules | `(tactic| fail "q") => `(tactic| ((with_reducible refine k_asb ?_)))
set_option hygiene false in
local macro_rules | `(tactic| fail "q") => `(tactic| ((with_reducible refine k_cont ?_)))
set_option hygiene false in
local macro_rules | `(tactic| fail "q") => `(tactic| ((with_reducible refine k_retN ?_)))
set_option hygiene false in
local macro_rules | `(tactic| fail "q") => `(tactic| ((with_reducible refine k_aapp ?_)))
set_option hygiene false in
local macro_rules | `(tactic| fail "q") => `(tactic| ((with_reducible refine k_eif ?_)))
set_option hygiene false in
local macro_rules | `(tactic| fail "q") => `(tactic| ((with_reducible refine k_osome ?_)))
set_option hygiene false in
local macro_rules | `(tactic| fail "q") => `(tactic| ((with_reducible refine k_onone ?_)))
set_option hygiene false in
local macro_rules | `(tactic| fail "q") => `(tactic| ((with_reducible refine k_slice ?_)))
set_option hygiene false in
local macro_rules | `(tactic| fail "q") => `(tactic| ((with_reducible refine k_ix ?_)))
set_option hygiene false in
local macro_rules | `(tactic| fail "q") => `(tactic| ((with_reducible refine k_asg ?_)))
set_option hygiene false in
local macro_rules | `(tactic| fail "q") => `(tactic| ((with_reducible refine k_chain ?_)))
set_option hygiene false in
local macro_rules | `(tactic| fail "q") => `(tactic| ((with_reducible refine k_enot ?_)))
set_option hygiene false in
local macro_rules | `(tactic| fail "q") => `(tactic| ((with_reducible refine k_eor ?_)))
set_option hygiene false in
local macro_rules | `(tactic| fail "q") => `(tactic| ((with_reducible refine k_eand ?_)))
set_option hygiene false in
local macro_rules | `(tactic| fail "q") => `(tactic| ((with_reducible refine k_tnot ?_)))
set_option hygiene false in
local macro_rules | `(tactic| fail "q") => `(tactic| ((with_reducible refine k_tor ?_)))
set_option hygiene false in
local macro_rules | `(tactic| fail "q") => `(tactic| ((with_reducible refine k_tand ?_)))
set_option hygiene false in
local macro_rules | `(tactic| fail "q") => `(tactic| ((with_reducible refine k_meth ?_)))
set_option hygiene false in
local macro_rules | `(tactic| fail "q") => `(tactic| ((with_reducible refine k_tup ?_)))
set_option hygiene false in
local macro_rules | `(tactic| fail "q") => `(tactic| ((with_reducible refine k_nil ?_)))
set_option hygiene false in
local macro_rules | `(tactic| fail "q") => `(tactic| ((with_reducible refine k_e1 ?_)))
set_option hygiene false in
local macro_rules | `(tactic| fail "q") => `(tactic| ((with_reducible refine k_bm ?_)))
set_option hygiene false in
local macro_rules | `(tactic| fail "q") => `(tactic| ((with_reducible refine k_fld ?_)))
set_option hygiene false in
local macro_rules | `(tactic| fail "q") => `(tactic| ((with_reducible refine k_e ?_)))
set_option hygiene false in
local macro_rules | `(tactic| fail "q") => `(tactic| ((with_reducible refine k_tv ?_)))
set_option hygiene false in
local macro_rules | `(tactic| fail "q") => `(tactic| ((with_reducible refine k_if ?_)))
set_option hygiene false in
local macro_rules | `(tactic| fail "q") => `(tactic| ((with_reducible refine k_ret ?_)))
set_option hygiene false in
local macro_rules | `(tactic| fail "q") => `(tactic| ((with_reducible refine k_efld ?_)))
set_option hygiene false in
local macro_rules | `(tactic| fail "q") => `(tactic| ((with_reducible refine k_e2 ?_)))
set_option hygiene false in
local macro_rules | `(tactic| fail "q") => `(tactic| ((with_reducible refine k_call ?_)))
set_option hygiene false in
local macro_rules | `(tactic| fail "q") => `(tactic| ((with_reducible refine k_anil ?_)))
set_option hygiene false in
local macro_rules | `(tactic| fail "q") => `(tactic| ((with_reducible refine k_acons ?_)))
set_option hygiene false in
local macro_rules | `(tactic| fail "q") => `(tactic| ((with_reducible refine k_c ?_)))
set_option hygiene false in
local macro_rules | `(tactic| fail "q") => `(tactic| ((with_reducible apply k_var); rfl))
set_option hygiene false in
local macro_rules | `(tactic| fail "q") => `(tactic| ((with_reducible refine k_set ?_)))
set_option hygiene false in
local macro_rules | `(tactic| fail) => `(tactic| first
  | ((with_reducible apply k_seqN); focus (first | (simp only [List.set_cons_zero, List.set_cons_succ, List.map_cons, List.map_nil, List.length_cons, List.length_nil, List.replicate_succ, List.replicate_zero, List.cons_append, List.nil_append, Nat.reduceAdd, Nat.reduceSub, Nat.zero_add]; done) | (simp only [List.set_cons_zero, List.set_cons_succ, List.map_cons, List.map_nil, List.length_cons, List.length_nil, List.replicate_succ, List.replicate_zero, List.cons_append, List.nil_append, Nat.reduceAdd, Nat.reduceSub, Nat.zero_add]; rfl) | rfl))
  | fail "q"
  | (fail_if_success skip))
set_option hygiene false in
local macro_rules | `(tactic| exfalso) => `(tactic| first
  | with_reducible exact Cn.Ent.rfl
  | with_reducible exact Cn.Ent.nil
  | ((with_reducible apply Cn.Ent.pick); get_elem_tactic_trivial; exfalso)
  | ((with_reducible refine Cn.Ent.allNil ?_); exfalso)
  | ((with_reducible refine Cn.Ent.one ?_); exfalso)
  | ((with_reducible refine Sp.ent_live ?_); exfalso)
  | ((with_reducible refine Sp.ent_no ?_); exfalso)
  | ((with_reducible apply Cn.Ent.sep); (with_reducible show Cn.Ent _ _); (try simp only [List.cons_append, List.nil_append]); exfalso)
  | ((with_reducible apply Cn.Ent.skip); exfalso))
set_option Elab.async false
set_option maxRecDepth 100000
set_option linter.all false
set_option maxHeartbeats 4000000
namespace Pf
open Cn Mir Dw Sp
variable {z : List Int} {ps F : List HP} {h h' : CH} {r b a i q n0 nr : Nat} {now t : Int} {E : EX} {Q : CV → CH → Prop} {p : PRc} {rs : List PRc} {e : LE} {es : List LE} {m : Nat}
theorem k_ift {b : Bool} {A B : Prop} (t : b = true → A) (f : b = false → B) : if b = true then A else B := by
  cases b with
  | true => rw [if_pos rfl]; exact t rfl
  | false => rw [if_neg (by simp)]; exact f rfl
theorem k_event (O : Own z (drP n0 :: cell q (.lst [.int (m : Nat)]) :: F) h) (hm : m < 1000) (ht : 0 ≤ t ∧ t < 1000000) :
    OkE NoX (m_law_event [.ref n0, .int t, .ref q] h) fun y h' => ∃ e : LE, y = e.cv ∧ e.G ∧ Own z (drP n0 :: cell q (.lst [.int (m : Nat)]) :: F) h' := by
  refine Ok_runD _ _ _ _ rfl ?_
  repeat fail
  refine o_drawI O (by omega) (by omega) fun d1 h hd1 O => ?_
  repeat fail
  refine o_pickl (n := n0) (O.ent (.pick (.there .here) (.pick .here .rfl))) (by simp) (by simp) fun v h mv O => ?_
  obtain ⟨nn, rfl, hnn⟩ : ∃ nn : Int, v = .int nn ∧ 0 ≤ nn ∧ nn < 2000 := by
    simp only [List.mem_cons, List.not_mem_nil, or_false] at mv
    rcases mv with rfl | rfl | rfl
    · exact ⟨_, rfl, by omega, by omega⟩
    · exact ⟨_, rfl, by omega, by omega⟩
    · exact ⟨_, rfl, by omega, by omega⟩
  have O : Own z (drP n0 :: cell q (.lst [.int (m : Nat)]) :: F) h := O.ent (by exfalso)
  clear mv
  repeat fail
  refine o_drawI O (by omega) (by omega) fun k h hk O => ?_
  repeat fail
  have hN : 0 ≤ nn ∧ nn < 1000000 := ⟨hnn.1, by omega⟩
  refine k_ift (fun c => ?_) (fun c => ?_)
  · repeat fail
    refine o_pickl (n := n0) (O.ent (.pick (.there .here) (.pick .here .rfl))) (by simp) (by simp) fun v h mv O => ?_
    obtain ⟨n2, rfl, hn2⟩ : ∃ nn : Int, v = .int nn ∧ 0 ≤ nn ∧ nn < 1000000 := by
      simp only [List.mem_cons, List.not_mem_nil, or_false] at mv
      rcases mv with rfl | rfl | rfl | rfl
      · exact ⟨_, rfl, by omega, by omega⟩
      · exact ⟨_, rfl, by omega, by omega⟩
      · exact ⟨_, rfl, by omega, by omega⟩
      · exact ⟨_, rfl, hN⟩
    repeat fail
    refine o_pickl (n := n0) (O.ent (.pick (.there .here) (.pick .here .rfl))) (by simp) (by simp) fun v h mv O => ?_
    obtain ⟨w, rfl, hw⟩ : ∃ w, v = .str w ∧ SW w := by
      simp only [List.mem_cons, List.not_mem_nil, or_false] at mv
      rcases mv with rfl | rfl
      · exact ⟨_, rfl, by decide, by decide⟩
      · exact ⟨_, rfl, by decide, by decide⟩
    repeat fail
    exact ⟨⟨t, n2, .begin [97, 110, 110, 64, 120] w⟩, rfl, ⟨ht, hn2, ⟨by decide, by decide⟩, hw⟩, O.ent (by exfalso)⟩
  repeat fail
  refine k_ift (fun c => ?_) (fun c => ?_)
  · repeat fail
    exact ⟨⟨t, nn, .ring⟩, rfl, ⟨ht, hN, trivial⟩, O⟩
  repeat fail
  refine k_ift (fun c => ?_) (fun c => ?_)
  · repeat fail
    refine o_pickl (n := n0) (O.ent (.pick (.there .here) (.pick .here .rfl))) (by simp) (by simp) fun v h mv O => ?_
    obtain ⟨w, rfl, hw⟩ : ∃ w, v = .str w ∧ SW w := by
      simp only [List.mem_cons, List.not_mem_nil, or_false] at mv
      rcases mv with rfl | rfl
      · exact ⟨_, rfl, by decide, by decide⟩
      · exact ⟨_, rfl, by decide, by decide⟩
    repeat fail
    exact ⟨⟨t, nn, .answer w⟩, rfl, ⟨ht, hN, hw⟩, O.ent (by exfalso)⟩
  repeat fail
  refine o_pickl (n := n0) (O.ent (.pick (.there .here) (.pick .here .rfl))) (by simp) (by simp) fun v h mv O => ?_
  obtain ⟨sd, rfl, hs⟩ : ∃ sd : Int, v = .int sd ∧ 0 ≤ sd ∧ sd < 10 := by
    simp only [List.mem_cons, List.not_mem_nil, or_false] at mv
    rcases mv with rfl | rfl | rfl | rfl | rfl <;> exact ⟨_, rfl, by omega, by omega⟩
  repeat fail
  refine k_ift (fun c => ?_) (fun c => ?_)
  · repeat fail
    refine o_pickl (n := n0) (O.ent (.pick (.there .here) (.pick .here .rfl))) (by simp) (by simp) fun v h mv O => ?_
    obtain ⟨w, rfl, hw⟩ : ∃ w, v = .str w ∧ SW w := by
      simp only [List.mem_cons, List.not_mem_nil, or_false] at mv
      rcases mv with rfl | rfl | rfl
      · exact ⟨_, rfl, by decide, by decide⟩
      · exact ⟨_, rfl, by decide, by decide⟩
      · exact ⟨_, rfl, by decide, by decide⟩
    repeat fail
    exact ⟨⟨t, nn, .turn sd w⟩, rfl, ⟨ht, hN, hs, hw⟩, O.ent (by exfalso)⟩
  repeat fail
  refine k_ift (fun c => ?_) (fun c => ?_)
  · repeat fail
    exact ⟨⟨t, nn, .move sd [106, 111, 101, 64, 120]⟩, rfl, ⟨ht, hN, hs, by decide, by decide⟩, O.ent (by exfalso)⟩
  repeat fail
  refine k_ift (fun c => ?_) (fun c => ?_)
  · repeat fail
    exact ⟨⟨t, nn, .moved sd⟩, rfl, ⟨ht, hN, hs⟩, O.ent (by exfalso)⟩
  repeat fail
  refine o_pickl (n := n0) (O.ent (.pick (.there .here) (.pick .here .rfl))) (by simp) (by simp) fun v h mv O => ?_
  obtain ⟨w, rfl, hw⟩ : ∃ w, v = .str w ∧ SW w := by
    simp only [List.mem_cons, List.not_mem_nil, or_false] at mv
    rcases mv with rfl | rfl | rfl
    · exact ⟨_, rfl, by decide, by decide⟩
    · exact ⟨_, rfl, by decide, by decide⟩
    · exact ⟨_, rfl, by decide, by decide⟩
  repeat fail
  exact ⟨⟨t, nn, .fin w⟩, rfl, ⟨ht, hN, hw⟩, O.ent (by exfalso)⟩
def rowL (p : PRc) : List CV := [.int p.num, .str p.caller, .str p.callee, .int p.begun, oI p.rang, oI p.ans, oI p.en, oS p.why, .str p.m0, .str p.m1, .int p.moves]
abbrev callP (r : Nat) (p : PRc) : HP := cell r (.lst (rowL p))
abbrev lawR (q nr : Nat) (ci : List Nat) (rs : List PRc) (now : Int) (F : List HP) : List HP := cell q (.lst (ci.map CV.ref)) :: cell nr (.lst [.int now]) :: allP callP (ci.zip rs) :: F
theorem cv1 (o : Q (.int e.t) h) : OkE E (ixV e.cv (.int 1) h) Q := by
  obtain ⟨t, n, k⟩ := e
  cases k <;> exact k_ixt (by decide) rfl o
theorem cv2 (o : Q (.int e.n) h) : OkE E (ixV e.cv (.int 2) h) Q := by
  obtain ⟨t, n, k⟩ := e
  cases k <;> exact k_ixt (by decide) rfl o
def EK.nm : EK → List Nat
  | .begin _ _ => nBEGIN
  | .ring => nRING
  | .answer _ => nANSWER
  | .turn _ _ => nTURN
  | .move _ _ => nMOVE
  | .moved _ => nMOVED
  | .fin _ => nEND
theorem cv0 (o : Q (.str (EK.nm e.k)) h) : OkE E (ixV e.cv (.int 0) h) Q := by
  obtain ⟨t, n, k⟩ := e
  cases k <;> exact k_ixt (by decide) rfl o
theorem in2 (s : Int) : ([CV.int 0, .int 1].any fun y => eqF y (.int s)) = sideB s := by
  have := nside s
  rw [Bool.not_eq_eq_eq_not, Bool.not_not] at this
  exact this
end Pf
set_option Elab.async false
set_option maxRecDepth 100000
set_option linter.all false
set_option maxHeartbeats 4000000
namespace Pf
open Cn Mir Dw Sp
variable {z : List Int} {ps F : List HP} {h h' : CH} {r b a i q n0 nr : Nat} {now t : Int} {E : EX} {Q : CV → CH → Prop} {p : PRc} {rs : List PRc} {e : LE} {es : List LE} {m : Nat} {ci : List Nat}
theorem k_stands (O : Own z (lawR q nr ci rs now F) h) (lr : ci.length = rs.length) : OkE NoX (m_law_stands [e.cv, .ref q, .ref nr] h) fun y h' => y = .bl (standB rs now e) ∧ Own z (lawR q nr ci rs now F) h' := by
  have l1 : (ci.map CV.ref).length = rs.length := by rw [List.length_map]; exact lr
  refine Ok_runD _ _ _ _ rfl ?_
  repeat fail
  refine cv1 ?_
  repeat fail
  by_cases ht : e.t < now
  · have es : standB rs now e = false := if_pos ht
    rw [decide_eq_true ht, if_pos rfl, es]
    repeat fail
    exact ⟨rfl, O⟩
  have es : standB rs now e = match e.k with
      | .begin _ _ => decide (e.n = (rs.length : Int) + 1)
      | k => if 1 ≤ e.n ∧ e.n ≤ rs.length then (match rs[atN e]? with
        | none => false
        | some p => p.en.isNone && chgB p k) else false := if_neg ht
  rw [decide_eq_false ht]
  repeat fail
  refine cv0 ?_
  repeat fail
  cases hb : e.k.isB with
  | true =>
    obtain ⟨ca, ce, ek⟩ : ∃ ca ce, e.k = .begin ca ce := by
      cases hk : e.k with
      | begin a b => exact ⟨a, b, rfl⟩
      | _ => rw [hk] at hb; cases hb
    have es2 : standB rs now e = decide (e.n = (rs.length : Int) + 1) := by rw [es, ek]
    rw [es2, ek]
    repeat fail
    refine cv2 ?_
    repeat fail
    rw [l1]
    exact ⟨rfl, O⟩
  | false =>
    have es2 : standB rs now e = if 1 ≤ e.n ∧ e.n ≤ rs.length then (match rs[atN e]? with
        | none => false
        | some p => p.en.isNone && chgB p e.k) else false := by
      rw [es]
      cases hk : e.k with
      | begin a b => rw [hk] at hb; cases hb
      | _ => rfl
    have nm : decide (EK.nm e.k = [98, 101, 103, 105, 110]) = false := by
      cases hk : e.k with
      | begin a b => rw [hk] at hb; cases hb
      | _ => rfl
    rw [nm]
    repeat fail
    refine cv2 ?_
    repeat fail
    have no : ¬ (1 ≤ e.n ∧ e.n ≤ rs.length) → standB rs now e = false := fun x => by rw [es2, if_neg x]
    by_cases h1 : 1 ≤ e.n
    case neg =>
      have est := no fun x => h1 x.1
      rw [decide_eq_false h1, est]
      repeat fail
      exact ⟨rfl, O⟩
    rw [decide_eq_true h1]
    repeat fail
    rw [l1]
    by_cases h2 : e.n ≤ (rs.length : Int)
    case neg =>
      have est := no fun x => h2 x.2
      rw [decide_eq_false h2, est]
      repeat fail
      exact ⟨rfl, O⟩
    rw [decide_eq_true h2]
    obtain ⟨p, ep⟩ := at_ok ⟨h1, h2⟩
    have es3 : standB rs now e = (p.en.isNone && chgB p e.k) := by rw [es2, if_pos ⟨h1, h2⟩, ep]
    obtain ⟨a, ea⟩ : ∃ a, ci[(e.n - 1).toNat]? = some a := ⟨_, List.getElem?_eq_getElem (by omega)⟩
    have ez : (ci.zip rs)[(e.n - 1).toNat]? = some (a, p) := (List.getElem?_zip_eq_some (z := (a, p))).mpr ⟨ea, ep⟩
    have em : (ci.map CV.ref)[(e.n - 1).toNat]? = some (.ref a) := by rw [List.getElem?_map, ea]; rfl
    have ha : ∀ {h : CH}, Own z (lawR q nr ci rs now F) h → h.at a = some (.lst (rowL p)) := fun O => o_get ((O.pick (p := allP callP (ci.zip rs)) (by get_elem_tactic_trivial)).focus ez) .here
    have j := ha O
    unfold rowL at j
    repeat fail
    refine cv2 ?_
    repeat fail
    refine k_ixln (o_get O (by get_elem_tactic_trivial)) (by omega) em ?_
    repeat fail
    refine Ok.eq (notN_I _) ?_
    refine k_asb ?_
    cases he : p.en with
    | some t0 =>
      have est : standB rs now e = false := by rw [es3, he]; rfl
      rw [est]
      repeat fail
      exact ⟨rfl, O⟩
    | none =>
      rw [he] at es3
      have es4 : standB rs now e = chgB p e.k := es3.trans (by rfl)
      rw [es4]
      obtain ⟨t, n, k⟩ := e
      cases k with
      | begin a b => cases hb
      | ring =>
        simp only [LE.cv]
        repeat (first | fail | (refine Ok.eq (isN_I _) ?_) | (refine Ok.eq (notN_I _) ?_))
        cases hr : p.rang with
        | none =>
          repeat fail
          refine Ok.eq (isN_I _) ?_
          exact ⟨by simp [chgB, hr], O⟩
        | some t0 =>
          repeat fail
          exact ⟨by simp [chgB, hr], O⟩
      | answer w =>
        simp only [LE.cv]
        repeat (first | fail | (refine Ok.eq (isN_I _) ?_) | (refine Ok.eq (notN_I _) ?_))
        exact ⟨rfl, O⟩
      | fin w =>
        simp only [LE.cv]
        repeat (first | fail | (refine Ok.eq (isN_I _) ?_) | (refine Ok.eq (notN_I _) ?_))
        exact ⟨rfl, O⟩
      | turn s w =>
        simp only [LE.cv]
        repeat (first | fail | (refine Ok.eq (isN_I _) ?_) | (refine Ok.eq (notN_I _) ?_))
        cases hr : p.ans with
        | none =>
          repeat fail
          exact ⟨by simp [chgB, hr], O⟩
        | some t0 =>
          repeat fail
          rw [in2]
          exact ⟨by simp [chgB, hr], O.drop⟩
      | move s w =>
        simp only [LE.cv]
        repeat (first | fail | (refine Ok.eq (isN_I _) ?_) | (refine Ok.eq (notN_I _) ?_))
        cases hr : p.ans with
        | none =>
          repeat fail
          exact ⟨by simp [chgB, hr], O⟩
        | some t0 =>
          repeat fail
          rw [in2]
          exact ⟨by simp [chgB, hr], O.drop⟩
      | moved s =>
        simp only [LE.cv]
        repeat (first | fail | (refine Ok.eq (isN_I _) ?_) | (refine Ok.eq (notN_I _) ?_))
        cases hr : p.ans with
        | none =>
          repeat fail
          exact ⟨by simp [chgB, hr], O⟩
        | some t0 =>
          repeat fail
          rw [in2]
          exact ⟨by simp [chgB, hr], O.drop⟩
theorem zset {α : Type} {ri : List Nat} {bs : List α} {i r : Nat} {x y : α} (e : (ri.zip bs)[i]? = some (r, x)) : (ri.zip bs).set i (r, y) = ri.zip (bs.set i y) := zipSetQ e
theorem k_apply (O : Own z (lawR q nr ci rs now F) h) (lr : ci.length = rs.length) (l : rs.length < 1000) (hs : standB rs now e = true) (g : e.G) : OkE NoX (m_law_apply [e.cv, .ref q, .ref nr] h) fun y h' => y = .non ∧ ∃ ci', ci'.length = (applyB rs e).length ∧ Own z (lawR q nr ci' (applyB rs e) e.t F) h' := by
  have l1 : (ci.map CV.ref).length = rs.length := by rw [List.length_map]; exact lr
  have l2 : (ci.map CV.ref).length < 1000 := by rw [l1]; exact l
  obtain ⟨t, n, k⟩ := e
  unfold standB at hs
  refine Ok_runD _ _ _ _ rfl ?_
  by_cases ht : t < now
  · rw [if_pos ht] at hs; cases hs
  rw [if_neg ht] at hs
  have nb : ∀ k : EK, k.isB = false → (match k with
      | .begin _ _ => decide (n = (rs.length : Int) + 1)
      | k => if 1 ≤ n ∧ n ≤ rs.length then (match rs[(n - 1).toNat]? with
        | none => false
        | some p => p.en.isNone && chgB p k) else false) = true → ∃ p a, 1 ≤ n ∧ n ≤ rs.length ∧ (ci.map CV.ref)[(n - 1).toNat]? = some (.ref a) ∧ rs[(n - 1).toNat]? = some p ∧ (ci.zip rs)[(n - 1).toNat]? = some (a, p) ∧ chgB p k = true := by
    intro k hk hh
    have hh : (if 1 ≤ n ∧ n ≤ rs.length then (match rs[(n - 1).toNat]? with
        | none => false
        | some p => p.en.isNone && chgB p k) else false) = true := by
      cases k with
      | begin a b => cases hk
      | _ => exact hh
    by_cases hn : 1 ≤ n ∧ n ≤ (rs.length : Int)
    · rw [if_pos hn] at hh
      obtain ⟨p, ep⟩ := at_ok hn
      rw [ep] at hh
      obtain ⟨a, ea⟩ : ∃ a, ci[(n - 1).toNat]? = some a := ⟨_, List.getElem?_eq_getElem (by omega)⟩
      exact ⟨p, a, hn.1, hn.2, by rw [List.getElem?_map, ea]; rfl, ep, (List.getElem?_zip_eq_some (z := (a, p))).mpr ⟨ea, ep⟩, (Bool.and_eq_true_iff.mp hh).2⟩
    · rw [if_neg hn] at hh; cases hh
  have bk : ∀ {h : CH} {p p' : PRc} {a : Nat} {xs : List CV} {k : EK}, Own z (cell a (.lst xs) :: allP callP ((ci.zip rs).eraseIdx (n - 1).toNat) :: cell q (.lst (ci.map CV.ref)) :: cell nr (.lst [.int t]) :: F) h → rowL p' = xs → (ci.zip rs)[(n - 1).toNat]? = some (a, p) → rs[(n - 1).toNat]? = some p → (k.isB = false → p' = chg p t k) → k.isB = false →
      CV.non = CV.non ∧ ∃ ci', ci'.length = (applyB rs ⟨t, n, k⟩).length ∧ Own z (lawR q nr ci' (applyB rs ⟨t, n, k⟩) t F) h := by
    intro h p p' a xs k O e ez ep e2 hk
    have e2 := e2 hk
    subst e
    have O : Own z (callP a p' :: allP callP ((ci.zip rs).eraseIdx (n - 1).toNat) :: cell q (.lst (ci.map CV.ref)) :: cell nr (.lst [.int t]) :: F) h := O
    have O := O.unfocus (get_lt ez)
    rw [zset ez, e2] at O
    have eA : applyB rs ⟨t, n, k⟩ = rs.set (n - 1).toNat (chg p t k) := by
      unfold applyB
      cases k with
      | begin a b => cases hk
      | _ => simp only [ep]
    rw [eA]
    exact ⟨rfl, ci, by rw [List.length_set]; exact lr, O.ent (by exfalso)⟩
  cases k with
  | begin ca ce =>
    simp only [LE.cv]
    repeat fail
    obtain ⟨a, ea⟩ : ∃ x, x = fr := ⟨_, rfl⟩
    rw [← ea] at O
    clear ea
    have O : Own z (callP a (newRc n ca ce t) :: allP callP (ci.zip rs) :: cell q (.lst (ci.map CV.ref ++ [.ref a])) :: cell nr (.lst [.int t]) :: F) h := O.ent (by
      show Ent _ (cell a (.lst [.int n, .str ca, .str ce, .int t, .non, .non, .non, .non, .str nBOTH, .str nBOTH, .int 0]) :: _)
      exfalso)
    have O := O.snoc
    rw [show ci.zip rs ++ [(a, newRc n ca ce t)] = (ci ++ [a]).zip (rs ++ [newRc n ca ce t]) by rw [List.zip_append lr]; rfl, show ci.map CV.ref ++ [CV.ref a] = (ci ++ [a]).map CV.ref by simp] at O
    exact ⟨rfl, ci ++ [a], by show _ = (rs ++ [_]).length; simp [lr], O.ent (by
      show Ent _ (cell q (.lst ((ci ++ [a]).map CV.ref)) :: cell nr (.lst [.int t]) :: allP callP ((ci ++ [a]).zip (rs ++ [newRc n ca ce t])) :: F)
      exfalso)⟩
  | ring =>
    obtain ⟨p, a, h1, h2, em, ep, ez, hc⟩ := nb (.ring) rfl hs
    have O := (O.pick (p := allP callP (ci.zip rs)) (by get_elem_tactic_trivial)).focus ez
    have O : Own z (cell a (.lst [.int p.num, .str p.caller, .str p.callee, .int p.begun, oI p.rang, oI p.ans, oI p.en, oS p.why, .str p.m0, .str p.m1, .int p.moves]) :: allP callP ((ci.zip rs).eraseIdx (n - 1).toNat) :: cell q (.lst (ci.map CV.ref)) :: cell nr (.lst [.int now]) :: F) h := O.ent (by exfalso)
    simp only [LE.cv]
    repeat fail
    refine k_ixln (o_get O (by get_elem_tactic_trivial)) (by omega) em ?_
    repeat fail
    exact ⟨trivial, (bk (p' := chg p t (.ring)) (k := .ring) O rfl ez ep (fun _ => rfl) rfl).2⟩
  | answer w =>
    obtain ⟨p, a, h1, h2, em, ep, ez, hc⟩ := nb (.answer w) rfl hs
    have O := (O.pick (p := allP callP (ci.zip rs)) (by get_elem_tactic_trivial)).focus ez
    have O : Own z (cell a (.lst [.int p.num, .str p.caller, .str p.callee, .int p.begun, oI p.rang, oI p.ans, oI p.en, oS p.why, .str p.m0, .str p.m1, .int p.moves]) :: allP callP ((ci.zip rs).eraseIdx (n - 1).toNat) :: cell q (.lst (ci.map CV.ref)) :: cell nr (.lst [.int now]) :: F) h := O.ent (by exfalso)
    simp only [LE.cv]
    repeat fail
    refine k_ixln (o_get O (by get_elem_tactic_trivial)) (by omega) em ?_
    repeat fail
    exact ⟨trivial, (bk (p' := chg p t (.answer w)) (k := .answer w) O rfl ez ep (fun _ => rfl) rfl).2⟩
  | turn s w =>
    obtain ⟨p, a, h1, h2, em, ep, ez, hc⟩ := nb (.turn s w) rfl hs
    have O := (O.pick (p := allP callP (ci.zip rs)) (by get_elem_tactic_trivial)).focus ez
    have O : Own z (cell a (.lst [.int p.num, .str p.caller, .str p.callee, .int p.begun, oI p.rang, oI p.ans, oI p.en, oS p.why, .str p.m0, .str p.m1, .int p.moves]) :: allP callP ((ci.zip rs).eraseIdx (n - 1).toNat) :: cell q (.lst (ci.map CV.ref)) :: cell nr (.lst [.int now]) :: F) h := O.ent (by exfalso)
    simp only [LE.cv]
    repeat fail
    refine k_ixln (o_get O (by get_elem_tactic_trivial)) (by omega) em ?_
    repeat fail
    have hc : (p.ans.isSome && sideB s) = true := hc
    rw [Bool.and_eq_true] at hc
    have hs := hc.2
    unfold sideB at hs
    rw [Bool.or_eq_true, decide_eq_true_iff, decide_eq_true_iff] at hs
    rcases hs with rfl | rfl
    · repeat fail
      exact ⟨trivial, (bk (p' := chg p t (.turn 0 w)) (k := .turn 0 w) O rfl ez ep (fun _ => rfl) rfl).2⟩
    · repeat fail
      exact ⟨trivial, (bk (p' := chg p t (.turn 1 w)) (k := .turn 1 w) O rfl ez ep (fun _ => rfl) rfl).2⟩
  | move s w =>
    obtain ⟨p, a, h1, h2, em, ep, ez, hc⟩ := nb (.move s w) rfl hs
    have O := (O.pick (p := allP callP (ci.zip rs)) (by get_elem_tactic_trivial)).focus ez
    have O : Own z (cell a (.lst [.int p.num, .str p.caller, .str p.callee, .int p.begun, oI p.rang, oI p.ans, oI p.en, oS p.why, .str p.m0, .str p.m1, .int p.moves]) :: allP callP ((ci.zip rs).eraseIdx (n - 1).toNat) :: cell q (.lst (ci.map CV.ref)) :: cell nr (.lst [.int now]) :: F) h := O.ent (by exfalso)
    simp only [LE.cv]
    repeat fail
    refine k_ixln (o_get O (by get_elem_tactic_trivial)) (by omega) em ?_
    repeat fail
    exact ⟨trivial, (bk (p' := chg p t (.move s w)) (k := .move s w) O rfl ez ep (fun _ => rfl) rfl).2⟩
  | moved s =>
    obtain ⟨p, a, h1, h2, em, ep, ez, hc⟩ := nb (.moved s) rfl hs
    have O := (O.pick (p := allP callP (ci.zip rs)) (by get_elem_tactic_trivial)).focus ez
    have O : Own z (cell a (.lst [.int p.num, .str p.caller, .str p.callee, .int p.begun, oI p.rang, oI p.ans, oI p.en, oS p.why, .str p.m0, .str p.m1, .int p.moves]) :: allP callP ((ci.zip rs).eraseIdx (n - 1).toNat) :: cell q (.lst (ci.map CV.ref)) :: cell nr (.lst [.int now]) :: F) h := O.ent (by exfalso)
    simp only [LE.cv]
    repeat fail
    refine k_ixln (o_get O (by get_elem_tactic_trivial)) (by omega) em ?_
    repeat fail
    exact ⟨trivial, (bk (p' := chg p t (.moved s)) (k := .moved s) O rfl ez ep (fun _ => rfl) rfl).2⟩
  | fin w =>
    obtain ⟨p, a, h1, h2, em, ep, ez, hc⟩ := nb (.fin w) rfl hs
    have O := (O.pick (p := allP callP (ci.zip rs)) (by get_elem_tactic_trivial)).focus ez
    have O : Own z (cell a (.lst [.int p.num, .str p.caller, .str p.callee, .int p.begun, oI p.rang, oI p.ans, oI p.en, oS p.why, .str p.m0, .str p.m1, .int p.moves]) :: allP callP ((ci.zip rs).eraseIdx (n - 1).toNat) :: cell q (.lst (ci.map CV.ref)) :: cell nr (.lst [.int now]) :: F) h := O.ent (by exfalso)
    simp only [LE.cv]
    repeat fail
    refine k_ixln (o_get O (by get_elem_tactic_trivial)) (by omega) em ?_
    repeat fail
    exact ⟨trivial, (bk (p' := chg p t (.fin w)) (k := .fin w) O rfl ez ep (fun _ => rfl) rfl).2⟩
end Pf
set_option Elab.async false
set_option maxRecDepth 100000
set_option linter.all false
set_option maxHeartbeats 4000000
namespace Sp
open Cn Mir Dw
variable {z : List Int} {ps F : List HP} {h h' : CH} {r b a i q bq pq tr : Nat} {now n : Int} {E : EX} {Q : CV → CH → Prop} {p : PRc} {rs : List PRc} {e : LE} {es : List LE} {T : PT}
theorem k_iftQ {b : Bool} {A B : Prop} (t : b = true → A) (f : b = false → B) : if b = true then A else B := by
  cases b with
  | true => rw [if_pos rfl]; exact t rfl
  | false => rw [if_neg (by simp)]; exact f rfl
theorem k_par3 {ES : CS → EX} {s : CS} {i j l : Nat} {as : ME (List CV)} {N C : CS → CH → Prop} {R : CV → CH → Prop} (o : OkE (ES s) (as s h) fun xs h1 => ∃ a b c, xs = [a, b, c] ∧ N (((s.set i (some a)).set j (some b)).set l (some c)) h1) : SkE ES (sPar3 i j l as s h) N C R := by
  unfold sPar3
  rw [Sk_rBind]
  refine o.mono ?_
  rintro xs h1 ⟨a, b, c, rfl, n⟩
  rw [Sk_nx]
  exact n
theorem any_intQ {d : Int} : ∀ l : List Int, ((l.map CV.int).any fun y => eqF y (.int d)) = decide (d ∈ l)
  | [] => rfl
  | x :: l => by
    rw [List.map_cons, List.any_cons, any_intQ l, Bool.eq_iff_iff, Bool.or_eq_true, decide_eq_true_iff, decide_eq_true_iff, List.mem_cons]
    show ((x == d) = true ∨ d ∈ l) ↔ _
    rw [beq_iff_eq, eq_comm]
theorem k_sliceTQ {xs : List CV} {lo hi : Option Int} (l : (cutC xs lo hi).length < xs.length) (o : Q (.tup (cutC xs lo hi)) h) : OkE E (sliceV (.tup xs) lo hi h) Q := by
  simp only [sliceV]
  rw [if_pos l, Ok_ok]; exact o
structure PBl where
  num : Int
  caller : List Nat
  callee : List Nat
  a : Int
  e : Int
  c : Int
deriving DecidableEq
def billT (b : PBl) : CV := .tup [.int b.num, .str b.caller, .str b.callee, .int b.a, .int b.e, .int b.c]
abbrev Fnd : Type := List Nat × Int
def fndV (f : Fnd) : CV := .tup [.str f.1, .int f.2]
abbrev nEVENT : List Nat := [101, 118, 101, 110, 116]
abbrev nTWICE : List Nat := [116, 119, 105, 99, 101]
abbrev nBILL : List Nat := [98, 105, 108, 108]
abbrev nPEND : List Nat := [112, 101, 110, 100, 105, 110, 103]
abbrev nNONE : List Nat := [110, 111, 110, 101]
def lastB (bs : List PBl) (n : Int) : Option PBl := bs.reverse.find? fun b => decide (b.num = n)
def twN : List PBl → Nat → List Fnd
  | bs, 0 => []
  | bs, k + 1 => twN bs k ++ match bs[k]? with
    | none => []
    | some b => if (lastB (bs.take k) b.num).isSome = true then [(nTWICE, b.num)] else []
def dueB (T : PT) (p : PRc) (t u : Int) : PBl := ⟨p.num, p.caller, p.callee, t, u, T.cost (u - t)⟩
def findF (T : PT) (bs : List PBl) (pn : List Int) (p : PRc) : List Fnd := match p.ans, p.en with
  | some t, some u => (match lastB bs p.num with
    | none => [(nNONE, p.num)]
    | some b => if b ≠ dueB T p t u then [(nBILL, p.num)] else [])
  | _, _ => (if (lastB bs p.num).isSome = true then [(nBILL, p.num)] else []) ++ (if p.ans.isSome ≠ decide (p.num ∈ pn) then [(nPEND, p.num)] else [])
def judgeF (T : PT) (es : List LE) (bs : List PBl) (pn : List Int) : List Fnd := (tellN es es.length).2.2.map (fun k : Nat => (nEVENT, (k : Int))) ++ twN bs bs.length ++ (tellN es es.length).1.flatMap (findF T bs pn)
def rowsD : List PBl → Nat → List (CK × CV)
  | _, 0 => []
  | bs, k + 1 => match bs[k]? with
    | none => rowsD bs k
    | some b => putD (rowsD bs k) (.inl b.num) (billT b)
theorem val_put {d : List (CK × CV)} {k k2 : CK} {v : CV} : valC (putD d k v) k2 = if k = k2 then some v else valC d k2 := by
  unfold valC putD
  by_cases ha : (d.any fun x => decide (x.1 = k)) = true
  · rw [if_pos ha]
    induction d with
    | nil => simp at ha
    | cons x l ih =>
      rw [List.map_cons, List.find?_cons, List.find?_cons]
      by_cases hx : x.1 = k
      · rw [if_pos hx]
        by_cases hk : k = k2
        · subst hk
          simp [hx]
        · rw [if_neg hk]
          simp only [hx, decide_eq_false hk]
          by_cases hl : (l.any fun x => decide (x.1 = k)) = true
          · have := ih hl; rw [if_neg hk] at this; exact this
          · congr 1
            have hl : ∀ y ∈ l, y.1 ≠ k := fun y hy e => hl (List.any_eq_true.mpr ⟨y, hy, decide_eq_true e⟩)
            rw [show (l.map fun x => if x.1 = k then (x.1, v) else x) = l by
              conv => rhs; rw [← List.map_id l]
              exact List.map_congr_left fun y hy => if_neg (hl y hy)]
      · rw [if_neg hx]
        by_cases hk2 : x.1 = k2
        · have : ¬ k = k2 := fun e => hx (hk2.trans e.symm)
          rw [if_neg this]
          simp [hk2]
        · rw [decide_eq_false hk2]
          exact ih (by simpa [hx] using ha)
  · rw [if_neg ha, List.find?_append]
    have hl : ∀ y ∈ d, y.1 ≠ k := fun y hy e => ha (List.any_eq_true.mpr ⟨y, hy, decide_eq_true e⟩)
    by_cases hk : k = k2
    · subst hk
      rw [if_pos rfl, List.find?_eq_none.mpr (fun y hy => by simpa using hl y hy)]
      simp
    · rw [if_neg hk]
      cases h : List.find? (fun x => decide (x.1 = k2)) d <;> simp [hk]
theorem put_len {d : List (CK × CV)} {k : CK} {v : CV} : (putD d k v).length ≤ d.length + 1 := by
  unfold putD
  split <;> simp
theorem rows_len (bs : List PBl) : ∀ k, (rowsD bs k).length ≤ k
  | 0 => Nat.le_refl _
  | k + 1 => by
    unfold rowsD
    have := rows_len bs k
    split
    · omega
    · exact Nat.le_trans put_len (by omega)
theorem last_snoc {bs : List PBl} {b : PBl} : lastB (bs ++ [b]) n = if b.num = n then some b else lastB bs n := by
  unfold lastB
  rw [List.reverse_append, List.reverse_singleton, List.singleton_append, List.find?_cons]
  by_cases c : b.num = n
  · rw [if_pos c, decide_eq_true c]
  · rw [if_neg c, decide_eq_false c]
theorem rows_val (bs : List PBl) (n : Int) : ∀ k, valC (rowsD bs k) (.inl n) = (lastB (bs.take k) n).map billT
  | 0 => by rw [List.take_zero]; rfl
  | k + 1 => by
    unfold rowsD
    cases e : bs[k]? with
    | none =>
      have l := List.getElem?_eq_none_iff.mp e
      rw [List.take_of_length_le (Nat.le_succ_of_le l)]
      show valC (rowsD bs k) (.inl n) = _
      rw [rows_val bs n k, List.take_of_length_le l]
    | some b =>
      dsimp only
      rw [val_put, rows_val bs n k, List.take_succ, e]
      show _ = (lastB (bs.take k ++ [b]) n).map billT
      rw [last_snoc]
      by_cases c : b.num = n
      · rw [if_pos (by rw [c]), if_pos c]; rfl
      · rw [if_neg (fun x => c (Sum.inl.inj x)), if_neg c]
end Sp
set_option Elab.async false
set_option maxRecDepth 100000
set_option linter.all false
set_option maxHeartbeats 4000000
namespace Sp
open Cn Mir Dw
variable {z : List Int} {ps F : List HP} {h h' : CH} {r b a i q bq pq tr : Nat} {now n : Int} {E : EX} {Q : CV → CH → Prop} {p : PRc} {rs : List PRc} {e : LE} {es : List LE} {T : PT} {bs : List PBl} {pn : List Int}
theorem ne_3 {x1 x2 x3 y1 y2 y3 : Int} : neV (.tup [.int x1, .int x2, .int x3]) (.tup [.int y1, .int y2, .int y3]) h = .ok (.bl (!decide (x1 = y1 ∧ x2 = y2 ∧ x3 = y3))) h := by
  simp [neV, dataC, dataCs, eqD, eqDs, Bool.decide_and]
  rfl
theorem ne_2 {x1 x2 y1 y2 : List Nat} : neV (.tup [.str x1, .str x2]) (.tup [.str y1, .str y2]) h = .ok (.bl (!decide (x1 = y1 ∧ x2 = y2))) h := by
  simp [neV, dataC, dataCs, eqD, eqDs, Bool.decide_and, beq_dec]
theorem last_num {b : PBl} (e : lastB bs n = some b) : b.num = n := by
  have := List.find?_some e
  exact of_decide_eq_true this
theorem tw_len (bs : List PBl) : ∀ k, (twN bs k).length ≤ k
  | 0 => Nat.le_refl _
  | k + 1 => by
    unfold twN
    have := tw_len bs k
    rw [List.length_append]
    split
    · simp; omega
    · split <;> simp <;> omega
theorem find_len : (findF T bs pn p).length ≤ 2 := by
  unfold findF
  split
  · split
    · simp
    · split <;> simp
  · rw [List.length_append]
    split <;> split <;> simp
theorem flat_len : ∀ rs : List PRc, (rs.flatMap (findF T bs pn)).length ≤ 2 * rs.length
  | [] => by simp
  | p :: rs => by
    rw [List.flatMap_cons, List.length_append, List.length_cons]
    have := find_len (T := T) (bs := bs) (pn := pn) (p := p)
    have := flat_len rs
    omega
abbrev JR (q bq pq tr a c d w : Nat) (es : List LE) (bs : List PBl) (pn : List Int) (T : PT) (rs : List PRc) (ws : List Nat) (fs : List Fnd) (k : Nat) (F : List HP) : List HP := cell d (.lst (fs.map fndV)) :: cell w (.dK (rowsD bs k)) :: cell a (.lst (rs.map rowT)) :: cell c (.lst (ws.map fun k : Nat => CV.int k)) :: cell q (.lst (es.map LE.cv)) :: cell bq (.lst (bs.map billT)) :: cell pq (.lst (pn.map CV.int)) :: tarP tr T :: F
theorem judge_ (O : Own z (cell q (.lst (es.map LE.cv)) :: cell bq (.lst (bs.map billT)) :: cell pq (.lst (pn.map CV.int)) :: tarP tr T :: F) h) (W : T.W) (l1 : es.length < 800) (l2 : bs.length < 1000) (l3 : pn.length < 1000) :
    OkE NoX (m_judge [.ref q, .ref tr, .ref bq, .ref pq] h) fun y h' => ∃ d, y = .ref d ∧ Own z (cell d (.lst ((judgeF T es bs pn).map fndV)) :: cell q (.lst (es.map LE.cv)) :: cell bq (.lst (bs.map billT)) :: cell pq (.lst (pn.map CV.int)) :: tarP tr T :: F) h' := by
  obtain ⟨rs, ers⟩ : ∃ rs, rs = (tellN es es.length).1 := ⟨_, rfl⟩
  obtain ⟨ws, ews⟩ : ∃ ws, ws = (tellN es es.length).2.2 := ⟨_, rfl⟩
  have lt := tell_len es es.length
  rw [← ers, ← ews] at lt
  refine Ok_runD _ _ _ _ rfl ?_
  fail
  repeat fail "q"
  refine (tell_ O (by omega)).mono ?_
  rintro y h ⟨a, c, rfl, O⟩
  rw [← ers, ← ews] at O
  refine k_asp rfl ?_
  fail
  repeat fail "q"
  refine o_mapQ (z := z) (r := c) (ys := ws.map fun k : Nat => CV.int k) ws (fun _ => true) (fun k : Nat => fndV (nEVENT, (k : Int))) (by simp) (by rw [List.length_map]; omega) O (by get_elem_tactic_trivial) ?_ ?_ fun d h O => ?_
  · exact k_var rfl ⟨rfl, rfl⟩
  · intro i v x h ev ex hI hP
    rw [List.getElem?_map, ex] at ev
    cases ev
    refine k_asp rfl ⟨rfl, ?_⟩
    refine k_yes ⟨rfl, rfl, fun _ => ?_⟩
    repeat fail
    exact ⟨rfl, rfl⟩
  rw [List.filter_eq_self.mpr (fun _ _ => rfl), show (ws.map fun k : Nat => fndV (nEVENT, (k : Int))) = (ws.map (fun k : Nat => ((nEVENT, (k : Int)) : Fnd))).map fndV by rw [List.map_map]; rfl] at O
  obtain ⟨f0, ef0⟩ : ∃ f0 : List Fnd, f0 = ws.map (fun k : Nat => ((nEVENT, (k : Int)) : Fnd)) := ⟨_, rfl⟩
  have lf0 : f0.length ≤ 800 := by rw [ef0, List.length_map]; omega
  rw [← ef0] at O
  fail
  repeat fail "q"
  obtain ⟨w, e1⟩ : ∃ x, x = fr := ⟨_, rfl⟩
  rw [← e1] at O ⊢
  clear e1
  have O : Own z (JR q bq pq tr a c d w es bs pn T rs ws f0 0 F) h := O.ent (by
    show Ent _ (cell d (.lst (f0.map fndV)) :: cell w (.dK []) :: cell a (.lst (rs.map rowT)) :: cell c (.lst (ws.map fun k : Nat => CV.int k)) :: cell q (.lst (es.map LE.cv)) :: cell bq (.lst (bs.map billT)) :: cell pq (.lst (pn.map CV.int)) :: tarP tr T :: F)
    exfalso)
  fail
  refine SkE.mono (N := fun s1 h1 => (∃ o7 o9 o10 o11 o12 o13, s1 = [some (.ref q), some (.ref tr), some (.ref bq), some (.ref pq), some (.ref a), some (.ref c), some (.ref d), o7, some (.ref w), o9, o10, o11, o12, o13]) ∧ Own z (JR q bq pq tr a c d w es bs pn T rs ws (f0 ++ twN bs bs.length) bs.length F) h1) (C := fun _ _ => False) (R := fun _ _ => False) ?_ ?_ (fun _ _ x => x.elim) (fun _ _ x => x.elim)
  · refine o_for ?_
    repeat fail
    refine ⟨bq, bs.map billT, fun i s1 h1 => (∃ o7 o9 o10 o11 o12 o13, s1 = [some (.ref q), some (.ref tr), some (.ref bq), some (.ref pq), some (.ref a), some (.ref c), some (.ref d), o7, some (.ref w), o9, o10, o11, o12, o13]) ∧ Own z (JR q bq pq tr a c d w es bs pn T rs ws (f0 ++ twN bs i) i F) h1, rfl, o_get O (by get_elem_tactic_trivial), ⟨⟨_, _, _, _, _, _, rfl⟩, by
      rw [show f0 ++ twN bs 0 = f0 from List.append_nil _]; exact O⟩, fun i s h x => o_get x.2 (by get_elem_tactic_trivial), ?_, ?_⟩
    · rintro i v s1 h ev ⟨⟨o7, o9, o10, o11, o12, o13, rfl⟩, O⟩
      rw [List.getElem?_map] at ev
      obtain ⟨b, eb, rfl⟩ := Option.map_eq_some_iff.mp ev
      have hi := get_lt eb
      have lr := rows_len bs i
      have ltw := tw_len bs i
      have lfm : ((f0 ++ twN bs i).map fndV).length < 5000 := by rw [List.length_map, List.length_append]; omega
      have eR : rowsD bs (i + 1) = putD (rowsD bs i) (.inl b.num) (billT b) := by
        show (match bs[i]? with
          | none => rowsD bs i
          | some b => putD (rowsD bs i) (.inl b.num) (billT b)) = _
        rw [eb]
      have eT : twN bs (i + 1) = twN bs i ++ (if (lastB (bs.take i) b.num).isSome = true then [(nTWICE, b.num)] else []) := by
        show twN bs i ++ (match bs[i]? with
          | none => []
          | some b => if (lastB (bs.take i) b.num).isSome = true then [(nTWICE, b.num)] else []) = _
        rw [eb]
      refine k_asp rfl ?_
      unfold billT
      repeat fail
      rw [rows_val]
      rw [Option.isSome_map]
      refine k_iftQ (fun c1 => ?_) (fun c1 => ?_)
      · repeat fail
        refine ⟨⟨_, _, _, _, _, _, rfl⟩, ?_⟩
        unfold JR
        rw [eT, if_pos c1, eR, ← List.append_assoc, List.map_append (l₁ := f0 ++ twN bs i)]
        exact O
      · repeat fail
        refine ⟨⟨_, _, _, _, _, _, rfl⟩, ?_⟩
        unfold JR
        rw [eT, if_neg (by rw [c1]; exact Bool.false_ne_true), eR, List.append_nil]
        exact O
    · rintro s1 h ⟨x, O⟩
      rw [List.length_map] at O
      exact ⟨x, O⟩
  rintro s1 h ⟨⟨o7, o9, o10, o11, o12, o13, rfl⟩, O⟩
  obtain ⟨f1, ef1⟩ : ∃ f1, f1 = f0 ++ twN bs bs.length := ⟨_, rfl⟩
  have ltw := tw_len bs bs.length
  have lf1 : f1.length ≤ 1900 := by rw [ef1, List.length_append]; omega
  rw [← ef1] at O
  fail
  refine SkE.mono (N := fun s1 h1 => (∃ o7 o9 o10 o11 o12 o13, s1 = [some (.ref q), some (.ref tr), some (.ref bq), some (.ref pq), some (.ref a), some (.ref c), some (.ref d), o7, some (.ref w), o9, o10, o11, o12, o13]) ∧ Own z (JR q bq pq tr a c d w es bs pn T rs ws (f1 ++ rs.flatMap (findF T bs pn)) bs.length F) h1) (C := fun _ _ => False) (R := fun _ _ => False) ?_ ?_ (fun _ _ x => x.elim) (fun _ _ x => x.elim)
  · refine o_for ?_
    repeat fail
    refine ⟨a, rs.map rowT, fun i s1 h1 => (∃ o7 o9 o10 o11 o12 o13, s1 = [some (.ref q), some (.ref tr), some (.ref bq), some (.ref pq), some (.ref a), some (.ref c), some (.ref d), o7, some (.ref w), o9, o10, o11, o12, o13]) ∧ Own z (JR q bq pq tr a c d w es bs pn T rs ws (f1 ++ (rs.take i).flatMap (findF T bs pn)) bs.length F) h1, rfl, o_get O (by get_elem_tactic_trivial), ⟨⟨_, _, _, _, _, _, rfl⟩, by
      rw [show f1 ++ (rs.take 0).flatMap (findF T bs pn) = f1 from List.append_nil _]; exact O⟩, fun i s h x => o_get x.2 (by get_elem_tactic_trivial), ?_, ?_⟩
    · rintro i v s1 h ev ⟨⟨o7, o9, o10, o11, o12, o13, rfl⟩, O⟩
      rw [List.getElem?_map] at ev
      obtain ⟨p, ep, rfl⟩ := Option.map_eq_some_iff.mp ev
      have hi := get_lt ep
      have lfl := flat_len (T := T) (bs := bs) (pn := pn) (rs.take i)
      rw [List.length_take] at lfl
      obtain ⟨f2, ef2⟩ : ∃ f2, f2 = f1 ++ (rs.take i).flatMap (findF T bs pn) := ⟨_, rfl⟩
      have lfm : (f2.map fndV).length < 5000 := by rw [List.length_map, ef2, List.length_append]; omega
      rw [← ef2] at O
      have eT : f1 ++ (rs.take (i + 1)).flatMap (findF T bs pn) = f2 ++ findF T bs pn p := by
        rw [List.take_succ, ep, List.flatMap_append, ← List.append_assoc, ← ef2]
        simp
      refine k_asp rfl ?_
      unfold rowT
      have fin : ∀ {h : CH} {x7 x9 x10 x11 x12 x13 : Option CV} {fs : List Fnd}, findF T bs pn p = fs → Own z (JR q bq pq tr a c d w es bs pn T rs ws (f2 ++ fs) bs.length F) h → (∃ o7 o9 o10 o11 o12 o13, [some (CV.ref q), some (.ref tr), some (.ref bq), some (.ref pq), some (.ref a), some (.ref c), some (.ref d), x7, some (.ref w), x9, x10, x11, x12, x13] = [some (.ref q), some (.ref tr), some (.ref bq), some (.ref pq), some (.ref a), some (.ref c), some (.ref d), o7, some (.ref w), o9, o10, o11, o12, o13]) ∧ Own z (JR q bq pq tr a c d w es bs pn T rs ws (f1 ++ (rs.take (i + 1)).flatMap (findF T bs pn)) bs.length F) h := fun e O => ⟨⟨_, _, _, _, _, _, rfl⟩, by rw [eT, e]; exact O⟩
      have vn : valC (rowsD bs bs.length) (.inl p.num) = (lastB bs p.num).map billT := by rw [rows_val, List.take_length]
      have open_ : ∀ {h : CH} {an en : Option Int} {x10 : Option CV} {N C : CS → CH → Prop} {R : CV → CH → Prop}, p.ans = an → p.en = en → (an = none ∨ en = none) → Own z (JR q bq pq tr a c d w es bs pn T rs ws f2 bs.length F) h →
          (∀ {h : CH}, Own z (JR q bq pq tr a c d w es bs pn T rs ws (f2 ++ findF T bs pn p) bs.length F) h → N [some (.ref q), some (.ref tr), some (.ref bq), some (.ref pq), some (.ref a), some (.ref c), some (.ref d), o7, some (.ref w), o9, x10, some (.int p.num), some (oI an), some (oI en)] h) →
          SkE (fun _ => NoX) (sSeq (sIf (tV (Cn.e2 dinV (eVar 11) (eVar 8))) (sE (eBM 5 appendV (eVar 6) (aCons (eTup (aCons (eC (.str [98, 105, 108, 108])) (aCons (eVar 11) (aNil)))) (aNil)))) (sNil))
            (sIf (tV (Cn.e2 neV (Cn.e1 notNV (eVar 12)) (Cn.e2 Cn.inV (eVar 11) (eVar 3)))) (sE (eBM 5 appendV (eVar 6) (aCons (eTup (aCons (eC (.str [112, 101, 110, 100, 105, 110, 103])) (aCons (eVar 11) (aNil)))) (aNil)))) (sNil))
            [some (.ref q), some (.ref tr), some (.ref bq), some (.ref pq), some (.ref a), some (.ref c), some (.ref d), o7, some (.ref w), o9, x10, some (.int p.num), some (oI an), some (oI en)] h) N C R := by
        intro h an en x10 N C R ha he hn O k
        have ef : findF T bs pn p = (if (lastB bs p.num).isSome = true then [(nBILL, p.num)] else []) ++ (if p.ans.isSome ≠ decide (p.num ∈ pn) then [(nPEND, p.num)] else []) := by
          unfold findF
          split
          · next t u h1 h2 => exact absurd hn (by rw [← ha, ← he, h1, h2]; simp)
          · rfl
        rw [ha] at ef
        rw [ef, ← List.append_assoc] at k
        obtain ⟨f3, ef3⟩ : ∃ f3, f3 = f2 ++ (if (lastB bs p.num).isSome = true then [(nBILL, p.num)] else []) := ⟨_, rfl⟩
        rw [← ef3] at k
        have lf3 : (f3.map fndV).length < 5001 := by
          rw [ef3, List.map_append, List.length_append]
          split <;> simp <;> (rw [List.length_map] at lfm; omega)
        fail
        refine SkE.mono (N := fun s1 h1 => s1 = [some (.ref q), some (.ref tr), some (.ref bq), some (.ref pq), some (.ref a), some (.ref c), some (.ref d), o7, some (.ref w), o9, x10, some (.int p.num), some (oI an), some (oI en)] ∧ Own z (JR q bq pq tr a c d w es bs pn T rs ws f3 bs.length F) h1) (C := fun _ _ => False) (R := fun _ _ => False) ?_ ?_ (fun _ _ x => x.elim) (fun _ _ x => x.elim)
        · repeat fail
          rw [vn, Option.isSome_map]
          refine k_iftQ (fun c1 => ?_) (fun c1 => ?_)
          · repeat fail
            refine ⟨rfl, ?_⟩
            unfold JR
            rw [ef3, if_pos c1, List.map_append]
            exact O
          · repeat fail
            refine ⟨rfl, ?_⟩
            rw [ef3, if_neg (by rw [c1]; exact Bool.false_ne_true), List.append_nil]
            exact O
        rintro s1 h ⟨rfl, O⟩
        repeat fail
        refine Ok.eq (notN_I _) ?_
        repeat fail
        refine k_inl (o_get O (by get_elem_tactic_trivial)) (by simp [flatC]) ?_
        rw [any_intQ]
        repeat fail
        refine k_iftQ (fun c1 => ?_) (fun c1 => ?_)
        · repeat fail
          refine k ?_
          unfold JR
          rw [if_pos (by simpa using c1), List.map_append]
          exact O
        · repeat fail
          refine k ?_
          unfold JR
          rw [if_neg (by simpa using c1), List.append_nil]
          exact O
      refine k_seqN rfl (k_par3 ?_)
      repeat fail
      refine ⟨_, _, _, rfl, ?_⟩
      simp only [List.set_cons_zero, List.set_cons_succ]
      repeat fail
      refine Ok.eq (isN_I _) ?_
      repeat fail
      refine k_iftQ (fun c1 => ?_) (fun c1 => ?_)
      · refine k_ifp rfl ?_
        refine open_ (an := p.ans) (en := p.en) rfl rfl (.inl (Option.isNone_iff_eq_none.mp c1)) O fun O => ?_
        exact fin rfl O
      repeat fail
      refine Ok.eq (isN_I _) ?_
      repeat fail
      refine k_iftQ (fun c2 => ?_) (fun c2 => ?_)
      · refine open_ (an := p.ans) (en := p.en) rfl rfl (.inr (Option.isNone_iff_eq_none.mp c2)) O fun O => ?_
        exact fin rfl O
      obtain ⟨t, ha⟩ : ∃ t, p.ans = some t := by
        cases e : p.ans with
        | none => rw [e] at c1; cases c1
        | some t => exact ⟨t, rfl⟩
      obtain ⟨u, he⟩ : ∃ u, p.en = some u := by
        cases e : p.en with
        | none => rw [e] at c2; cases c2
        | some t => exact ⟨t, rfl⟩
      repeat fail
      rw [vn, Option.isSome_map]
      refine k_iftQ (fun c3 => ?_) (fun c3 => ?_)
      · repeat fail
        have e3 : lastB bs p.num = none := by
          cases e : lastB bs p.num with
          | none => rfl
          | some b => rw [e] at c3; cases c3
        refine fin (fs := [(nNONE, p.num)]) (by unfold findF; rw [ha, he]; dsimp only; rw [e3]) ?_
        unfold JR
        rw [List.map_append]
        exact O
      obtain ⟨b, e3⟩ : ∃ b, lastB bs p.num = some b := by
        cases e : lastB bs p.num with
        | none => rw [e] at c3; cases c3
        | some b => exact ⟨b, rfl⟩
      rw [e3] at vn
      have ef : findF T bs pn p = if b ≠ dueB T p t u then [(nBILL, p.num)] else [] := by unfold findF; rw [ha, he]; dsimp only; rw [e3]
      rw [ha, he]
      rw [show oI (some t) = .int t from rfl, show oI (some u) = .int u from rfl]
      repeat fail
      rw [vn]
      refine k_aso rfl ?_
      unfold billT
      repeat fail
      refine k_sliceTQ (show 3 < 6 by decide) ?_
      repeat fail
      refine o_meth O (by repeat first | exact tarC53 | apply ClsP.there) rfl ?_
      repeat fail
      refine (t_cost (O.pick (p := tarP tr T) (by get_elem_tactic_trivial)) W).mono ?_
      rintro y h ⟨rfl, O⟩
      have O : Own z (JR q bq pq tr a c d w es bs pn T rs ws f2 bs.length F) h := O.ent (by exfalso)
      repeat fail
      refine Ok.eq ne_3 ?_
      repeat fail
      refine k_iftQ (fun c4 => ?_) (fun c4 => ?_)
      · repeat fail
        refine fin (fs := [(nBILL, p.num)]) (by
          rw [ef, if_pos]
          intro e
          rw [e] at c4
          simp [dueB] at c4) ?_
        unfold JR
        rw [List.map_append]
        exact O
      repeat fail
      rw [vn]
      refine k_aso rfl ?_
      unfold billT
      repeat fail
      refine k_sliceTQ (show 2 < 6 by decide) ?_
      repeat fail
      refine k_sliceTQ (show 2 < 11 by decide) ?_
      refine Ok.eq ne_2 ?_
      repeat fail
      refine k_iftQ (fun c5 => ?_) (fun c5 => ?_)
      · repeat fail
        refine fin (fs := [(nBILL, p.num)]) (by
          rw [ef, if_pos]
          intro e
          rw [e] at c5
          simp [dueB] at c5) ?_
        unfold JR
        rw [List.map_append]
        exact O
      · repeat fail
        refine fin (fs := []) (by
          rw [ef, if_neg]
          intro e
          refine e ?_
          have k1 := last_num e3
          simp at c4 c5
          obtain ⟨bn, b1, b2, b3, b4, b5⟩ := b
          simp only at c4 c5 k1
          unfold dueB
          simp only [k1, c4.1, c4.2.1, c4.2.2, c5.1, c5.2]) ?_
        rw [List.append_nil]
        exact O
    · rintro s1 h ⟨x, O⟩
      rw [List.length_map, List.take_length] at O
      exact ⟨x, O⟩
  rintro s1 h ⟨⟨o7, o9, o10, o11, o12, o13, rfl⟩, O⟩
  repeat fail
  refine ⟨d, rfl, ?_⟩
  have eJ : judgeF T es bs pn = f1 ++ rs.flatMap (findF T bs pn) := by unfold judgeF; rw [← ers, ← ews, ef1, ef0]
  rw [eJ]
  exact O.ent (by exfalso)
end Sp
set_option Elab.async false
set_option maxRecDepth 100000
set_option linter.all false
set_option maxHeartbeats 4000000
namespace Pf
open Cn Mir Dw Sp
variable {z : List Int} {ps F : List HP} {h h' : CH} {r b a i q n0 nr d tr : Nat} {now t : Int} {E : EX} {Q : CV → CH → Prop} {p : PRc} {rs : List PRc} {e : LE} {es : List LE} {m : Nat} {ci : List Nat} {T : PT} {bs : List PBl}
structure RcG (p : PRc) (now : Int) : Prop where
  n : 0 ≤ p.num ∧ p.num < 1000000
  a : SW p.caller
  b : SW p.callee
  t : ∀ x, p.ans = some x → 0 ≤ x ∧ x ≤ now
  u : ∀ y, p.en = some y → 0 ≤ y ∧ y ≤ now ∧ ∀ x, p.ans = some x → x ≤ y
theorem RcG.later {t : Int} (g : RcG p now) (l : now ≤ t) : RcG p t := ⟨g.n, g.a, g.b, fun x hx => ⟨(g.t x hx).1, Int.le_trans (g.t x hx).2 l⟩, fun y hy => ⟨(g.u y hy).1, Int.le_trans (g.u y hy).2.1 l, (g.u y hy).2.2⟩⟩
theorem stand_t (s : standB rs now e = true) : now ≤ e.t := by
  unfold standB at s
  by_cases ht : e.t < now
  · rw [if_pos ht] at s; cases s
  · omega
theorem apply_G (g : ∀ p ∈ rs, RcG p now) (ge : e.G) (s : standB rs now e = true) : ∀ p ∈ applyB rs e, RcG p e.t := by
  have lt := stand_t s
  have g2 : ∀ p ∈ rs, RcG p e.t := fun p m => (g p m).later lt
  obtain ⟨t, n, k⟩ := e
  have ht := ge.t
  have hn := ge.n
  have gk := ge.k
  dsimp only at ht hn gk lt g2
  unfold standB at s
  rw [if_neg (by show ¬ t < now; omega)] at s
  have mid : ∀ k : EK, k.isB = false → (match k with
      | .begin _ _ => decide (n = (rs.length : Int) + 1)
      | k => if 1 ≤ n ∧ n ≤ rs.length then (match rs[(n - 1).toNat]? with
        | none => false
        | some p => p.en.isNone && chgB p k) else false) = true → ∃ p, rs[(n - 1).toNat]? = some p ∧ p.en = none ∧ chgB p k = true := by
    intro k hk hh
    have hh : (if 1 ≤ n ∧ n ≤ rs.length then (match rs[(n - 1).toNat]? with
        | none => false
        | some p => p.en.isNone && chgB p k) else false) = true := by
      cases k with
      | begin a b => cases hk
      | _ => exact hh
    by_cases hn : 1 ≤ n ∧ n ≤ (rs.length : Int)
    · rw [if_pos hn] at hh
      obtain ⟨p, ep⟩ := at_ok hn
      rw [ep] at hh
      exact ⟨p, ep, Option.isNone_iff_eq_none.mp (Bool.and_eq_true_iff.mp hh).1, (Bool.and_eq_true_iff.mp hh).2⟩
    · rw [if_neg hn] at hh; cases hh
  have put : ∀ k : EK, k.isB = false → (match k with
      | .begin _ _ => decide (n = (rs.length : Int) + 1)
      | k => if 1 ≤ n ∧ n ≤ rs.length then (match rs[(n - 1).toNat]? with
        | none => false
        | some p => p.en.isNone && chgB p k) else false) = true → (∀ p, p ∈ rs → p.en = none → chgB p k = true → RcG (chg p t k) t) → ∀ p ∈ applyB rs ⟨t, n, k⟩, RcG p t := by
    intro k hk hh c p mp
    obtain ⟨p0, ep, he, hc⟩ := mid k hk hh
    have eA : applyB rs ⟨t, n, k⟩ = rs.set (n - 1).toNat (chg p0 t k) := by
      unfold applyB
      cases k with
      | begin a b => cases hk
      | _ => simp only [ep]
    rw [eA] at mp
    rcases List.mem_or_eq_of_mem_set mp with mp | rfl
    · exact g2 p mp
    · exact c p0 (List.mem_of_getElem? ep) he hc
  cases k with
  | begin ca ce =>
    intro p mp
    have mp : p ∈ rs ++ [newRc n ca ce t] := mp
    rcases List.mem_append.mp mp with mp | mp
    · exact g2 p mp
    · rw [List.mem_singleton.mp mp]
      exact ⟨hn, gk.1, gk.2, fun x e => (by cases e), fun y e => (by cases e)⟩
  | ring => exact put _ rfl s fun p mp he hc => ⟨(g2 p mp).n, (g2 p mp).a, (g2 p mp).b, (g2 p mp).t, (g2 p mp).u⟩
  | answer w => exact put _ rfl s fun p mp he hc => ⟨(g2 p mp).n, (g2 p mp).a, (g2 p mp).b, fun x e => (by cases e; exact ⟨ht.1, Int.le_refl _⟩), fun y e => (by
      have e : p.en = some y := e
      rw [he] at e; cases e)⟩
  | turn sd w =>
    refine put _ rfl s fun p mp he hc => ?_
    show RcG (if sd = 0 then {p with m0 := w} else {p with m1 := w}) t
    split <;> exact ⟨(g2 p mp).n, (g2 p mp).a, (g2 p mp).b, (g2 p mp).t, (g2 p mp).u⟩
  | move sd w => exact put _ rfl s fun p mp he hc => ⟨(g2 p mp).n, (g2 p mp).a, (g2 p mp).b, (g2 p mp).t, (g2 p mp).u⟩
  | moved sd => exact put _ rfl s fun p mp he hc => ⟨(g2 p mp).n, (g2 p mp).a, (g2 p mp).b, (g2 p mp).t, (g2 p mp).u⟩
  | fin w => exact put _ rfl s fun p mp he hc => ⟨(g2 p mp).n, (g2 p mp).a, (g2 p mp).b, (g2 p mp).t, fun y e => (by cases e; exact ⟨ht.1, Int.le_refl _, fun x e => ((g2 p mp).t x e).2⟩)⟩
structure BlG (k : Int) (b : PBl) : Prop where
  n : 0 ≤ b.num ∧ b.num ≤ 2000000 + k
  x : SW b.caller
  y : SW b.callee
  a : 0 ≤ b.a ∧ b.a ≤ 2000000 + k
  e : 0 ≤ b.e ∧ b.e ≤ 2000000 + k
  c : 0 ≤ b.c ∧ b.c ≤ 2000000 + k
theorem BlG.up {b : PBl} {k l : Int} (g : BlG k b) (hl : k ≤ l) : BlG l b := by
  obtain ⟨g1, g2, g3, g4, g5, g6⟩ := g
  exact ⟨by omega, g2, g3, by omega, by omega, by omega⟩
theorem k_changed {b : PBl} {k : Int} (O : Own z (drP n0 :: F) h) (g : BlG k b) : OkE NoX (m_law_changed_bill [.ref n0, billT b] h) fun y h' => ∃ b', y = billT b' ∧ BlG (k + 1) b' ∧ Own z (drP n0 :: F) h' := by
  obtain ⟨g1, g2, g3, g4, g5, g6⟩ := g
  have wz : SW [122, 101, 100, 64, 120] := ⟨by decide, by decide⟩
  refine Ok_runD _ _ _ _ rfl ?_
  unfold billT
  repeat fail
  refine o_drawI (O.ent (by exfalso)) (by omega) (by omega) fun k h hk O => ?_
  have hk6 : k = 0 ∨ k = 1 ∨ k = 2 ∨ k = 3 ∨ k = 4 ∨ k = 5 := by omega
  rcases hk6 with rfl | rfl | rfl | rfl | rfl | rfl
  · repeat fail
    exact ⟨⟨b.num + 1, b.caller, b.callee, b.a, b.e, b.c⟩, rfl, ⟨by dsimp only; omega, g2, g3, by dsimp only; omega, by dsimp only; omega, by dsimp only; omega⟩, O.ent (by exfalso)⟩
  · repeat fail
    exact ⟨⟨b.num, [122, 101, 100, 64, 120], b.callee, b.a, b.e, b.c⟩, rfl, ⟨by dsimp only; omega, wz, g3, by dsimp only; omega, by dsimp only; omega, by dsimp only; omega⟩, O.ent (by exfalso)⟩
  · repeat fail
    exact ⟨⟨b.num, b.caller, [122, 101, 100, 64, 120], b.a, b.e, b.c⟩, rfl, ⟨by dsimp only; omega, g2, wz, by dsimp only; omega, by dsimp only; omega, by dsimp only; omega⟩, O.ent (by exfalso)⟩
  · repeat fail
    exact ⟨⟨b.num, b.caller, b.callee, b.a + 1, b.e, b.c⟩, rfl, ⟨by dsimp only; omega, g2, g3, by dsimp only; omega, by dsimp only; omega, by dsimp only; omega⟩, O.ent (by exfalso)⟩
  · repeat fail
    exact ⟨⟨b.num, b.caller, b.callee, b.a, b.e + 1, b.c⟩, rfl, ⟨by dsimp only; omega, g2, g3, by dsimp only; omega, by dsimp only; omega, by dsimp only; omega⟩, O.ent (by exfalso)⟩
  · repeat fail
    exact ⟨⟨b.num, b.caller, b.callee, b.a, b.e, b.c + 1⟩, rfl, ⟨by dsimp only; omega, g2, g3, by dsimp only; omega, by dsimp only; omega, by dsimp only; omega⟩, O.ent (by exfalso)⟩
theorem k_bills (O : Own z (lawR q nr ci rs now (drP n0 :: tarP tr T :: F)) h) (W : T.W) (hT : ∀ s, 0 ≤ s → s ≤ 1000000 → 0 ≤ T.cost s ∧ T.cost s ≤ 2000000) (lr : ci.length = rs.length) (l : rs.length < 100) (g : ∀ p ∈ rs, RcG p now) (hn : now < 1000000) :
    OkE NoX (m_law_bills [.ref n0, .ref q, .ref tr] h) fun y h' => ∃ d, ∃ bs : List PBl, y = .ref d ∧ bs.length ≤ 2 * rs.length ∧ (∀ b ∈ bs, BlG 2 b) ∧ Own z (cell d (.lst (bs.map billT)) :: lawR q nr ci rs now (drP n0 :: tarP tr T :: F)) h' := by
  have l1 : (ci.map CV.ref).length = rs.length := by rw [List.length_map]; exact lr
  refine Ok_runD _ _ _ _ rfl ?_
  fail
  repeat fail "q"
  obtain ⟨d, e1⟩ : ∃ x, x = fr := ⟨_, rfl⟩
  rw [← e1] at O ⊢
  clear e1
  fail
  refine o_for ?_
  repeat fail
  refine ⟨q, ci.map CV.ref, fun i s1 h1 => (∃ o4 o5 o6, s1 = [some (.ref n0), some (.ref q), some (.ref tr), some (.ref d), o4, o5, o6]) ∧ ∃ bs : List PBl, bs.length ≤ 2 * i ∧ (∀ b ∈ bs, BlG 2 b) ∧ Own z (cell d (.lst (bs.map billT)) :: lawR q nr ci rs now (drP n0 :: tarP tr T :: F)) h1, rfl, o_get O (by get_elem_tactic_trivial), ⟨⟨_, _, _, rfl⟩, [], by simp, fun _ m => (by cases m), O⟩, fun i s h x => (by obtain ⟨_, bs, _, _, O⟩ := x; exact o_get O (by get_elem_tactic_trivial)), ?_, ?_⟩
  · rintro i v s1 h ev ⟨⟨o4, o5, o6, rfl⟩, bs, lb, gb, O⟩
    rw [List.getElem?_map] at ev
    obtain ⟨a, ea, rfl⟩ := Option.map_eq_some_iff.mp ev
    have hi := get_lt ea
    obtain ⟨p, ep⟩ : ∃ p, rs[i]? = some p := ⟨_, List.getElem?_eq_getElem (by omega)⟩
    have ez : (ci.zip rs)[i]? = some (a, p) := (List.getElem?_zip_eq_some (z := (a, p))).mpr ⟨ea, ep⟩
    have gp := g p (List.mem_of_getElem? ep)
    have O := (O.pick (p := allP callP (ci.zip rs)) (by get_elem_tactic_trivial)).focus ez
    have O : Own z (cell a (.lst [.int p.num, .str p.caller, .str p.callee, .int p.begun, oI p.rang, oI p.ans, oI p.en, oS p.why, .str p.m0, .str p.m1, .int p.moves]) :: allP callP ((ci.zip rs).eraseIdx i) :: cell d (.lst (bs.map billT)) :: cell q (.lst (ci.map CV.ref)) :: cell nr (.lst [.int now]) :: drP n0 :: tarP tr T :: F) h := O.ent (by exfalso)
    have back : ∀ {h : CH} {bs : List PBl}, Own z (cell a (.lst [.int p.num, .str p.caller, .str p.callee, .int p.begun, oI p.rang, oI p.ans, oI p.en, oS p.why, .str p.m0, .str p.m1, .int p.moves]) :: allP callP ((ci.zip rs).eraseIdx i) :: cell d (.lst (bs.map billT)) :: cell q (.lst (ci.map CV.ref)) :: cell nr (.lst [.int now]) :: drP n0 :: tarP tr T :: F) h → Own z (cell d (.lst (bs.map billT)) :: lawR q nr ci rs now (drP n0 :: tarP tr T :: F)) h := by
      intro h bs O
      have O : Own z (callP a p :: allP callP ((ci.zip rs).eraseIdx i) :: cell d (.lst (bs.map billT)) :: cell q (.lst (ci.map CV.ref)) :: cell nr (.lst [.int now]) :: drP n0 :: tarP tr T :: F) h := O
      have O := O.unfocus (get_lt ez)
      have es : (ci.zip rs).set i (a, p) = ci.zip rs := by
        rw [zset ez]
        congr 1
        exact List.ext_getElem? fun k => by
          rw [List.getElem?_set]
          split
          · next e => subst e; split <;> simp_all
          · rfl
      rw [es] at O
      exact O.ent (by exfalso)
    have lbm : (bs.map billT).length < 1000 := by rw [List.length_map]; omega
    refine k_asp rfl ?_
    repeat fail
    refine Ok.eq (notN_I _) ?_
    repeat fail
    have els : ∀ {h : CH} {R : CV → CH → Prop}, Own z (cell a (.lst [.int p.num, .str p.caller, .str p.callee, .int p.begun, oI p.rang, oI p.ans, oI p.en, oS p.why, .str p.m0, .str p.m1, .int p.moves]) :: allP callP ((ci.zip rs).eraseIdx i) :: cell d (.lst (bs.map billT)) :: cell q (.lst (ci.map CV.ref)) :: cell nr (.lst [.int now]) :: drP n0 :: tarP tr T :: F) h → SkE (fun _ => NoX) (sIf (tV (Cn.e2 Cn.eqV (eCall Mir.m_law_draw (aCons (eVar 0) (aCons (eC (.int 8)) (aNil)))) (eC (.int 0)))) (sE (eBM 5 appendV (eVar 3) (aCons (eTup (aCons (Cn.e2 ixV (eVar 4) (eC (.int 0))) (aCons (Cn.e2 ixV (eVar 4) (eC (.int 1))) (aCons (Cn.e2 ixV (eVar 4) (eC (.int 2))) (aCons (eC (.int 1)) (aCons (eC (.int 2)) (aCons (eC (.int 3)) (aNil)))))))) (aNil)))) (sNil) [some (.ref n0), some (.ref q), some (.ref tr), some (.ref d), some (.ref a), o5, o6] h)
      (fun s1 h1 => (∃ o4 o5 o6, s1 = [some (.ref n0), some (.ref q), some (.ref tr), some (.ref d), o4, o5, o6]) ∧ ∃ bs : List PBl, bs.length ≤ 2 * (i + 1) ∧ (∀ b ∈ bs, BlG 2 b) ∧ Own z (cell d (.lst (bs.map billT)) :: lawR q nr ci rs now (drP n0 :: tarP tr T :: F)) h1)
      (fun s1 h1 => (∃ o4 o5 o6, s1 = [some (.ref n0), some (.ref q), some (.ref tr), some (.ref d), o4, o5, o6]) ∧ ∃ bs : List PBl, bs.length ≤ 2 * (i + 1) ∧ (∀ b ∈ bs, BlG 2 b) ∧ Own z (cell d (.lst (bs.map billT)) :: lawR q nr ci rs now (drP n0 :: tarP tr T :: F)) h1) R := by
      intro h R O
      repeat fail
      refine o_drawI (O.ent (.pick (by get_elem_tactic_trivial) .rfl)) (by omega) (by omega) fun k h hk O => ?_
      repeat fail
      refine k_iftQ (fun c3 => ?_) (fun c3 => ?_)
      · repeat fail
        have O : Own z (cell a (.lst [.int p.num, .str p.caller, .str p.callee, .int p.begun, oI p.rang, oI p.ans, oI p.en, oS p.why, .str p.m0, .str p.m1, .int p.moves]) :: allP callP ((ci.zip rs).eraseIdx i) :: cell d (.lst ((bs ++ [(⟨p.num, p.caller, p.callee, 1, 2, 3⟩ : PBl)]).map billT)) :: cell q (.lst (ci.map CV.ref)) :: cell nr (.lst [.int now]) :: drP n0 :: tarP tr T :: F) h := O.ent (by
          rw [List.map_append]
          show Ent _ (cell a _ :: allP callP ((ci.zip rs).eraseIdx i) :: cell d (.lst (bs.map billT ++ [.tup [.int p.num, .str p.caller, .str p.callee, .int 1, .int 2, .int 3]])) :: _)
          exfalso)
        refine ⟨⟨_, _, _, rfl⟩, _, by rw [List.length_append]; simp; omega, fun b mb => ?_, back O⟩
        rcases List.mem_append.mp mb with mb | mb
        · exact gb b mb
        · rw [List.mem_singleton.mp mb]
          have := gp.n
          exact ⟨by dsimp only; omega, gp.a, gp.b, by dsimp only; omega, by dsimp only; omega, by dsimp only; omega⟩
      · repeat fail
        exact ⟨⟨_, _, _, rfl⟩, bs, by omega, gb, back (O.ent (by exfalso))⟩
    refine k_iftQ (fun c1 => ?_) (fun c1 => ?_)
    case refine_2 => exact k_ifn Bool.false_ne_true (els O)
    repeat fail
    refine Ok.eq (notN_I _) ?_
    repeat fail
    refine k_iftQ (fun c2 => ?_) (fun c2 => ?_)
    case refine_2 => exact els O
    obtain ⟨t, ha⟩ : ∃ t, p.ans = some t := Option.isSome_iff_exists.mp c1
    obtain ⟨u, he⟩ : ∃ u, p.en = some u := Option.isSome_iff_exists.mp c2
    have gt := gp.t t ha
    have gu := gp.u u he
    have gl := gu.2.2 t ha
    have gc := hT (u - t) (by omega) (by omega)
    have ga := gp.n
    have g0 : BlG 0 (dueB T p t u) := ⟨by show 0 ≤ p.num ∧ p.num ≤ _; omega, gp.a, gp.b, by show 0 ≤ t ∧ t ≤ _; omega, by show 0 ≤ u ∧ u ≤ _; omega, by show 0 ≤ T.cost (u - t) ∧ T.cost (u - t) ≤ _; omega⟩
    rw [ha, he] at O
    have O : Own z (cell a (.lst [.int p.num, .str p.caller, .str p.callee, .int p.begun, oI p.rang, .int t, .int u, oS p.why, .str p.m0, .str p.m1, .int p.moves]) :: allP callP ((ci.zip rs).eraseIdx i) :: cell d (.lst (bs.map billT)) :: cell q (.lst (ci.map CV.ref)) :: cell nr (.lst [.int now]) :: drP n0 :: tarP tr T :: F) h := O
    rw [ha, he, show oI (some t) = .int t from rfl, show oI (some u) = .int u from rfl] at back
    fail
    repeat fail "q"
    refine o_meth O (by repeat first | exact tarC53 | apply ClsP.there) rfl ?_
    repeat fail "q"
    refine (t_cost (O.pick (p := tarP tr T) (by get_elem_tactic_trivial)) W).mono ?_
    rintro y h ⟨rfl, O⟩
    have O : Own z (cell a (.lst [.int p.num, .str p.caller, .str p.callee, .int p.begun, oI p.rang, .int t, .int u, oS p.why, .str p.m0, .str p.m1, .int p.moves]) :: allP callP ((ci.zip rs).eraseIdx i) :: cell d (.lst (bs.map billT)) :: cell q (.lst (ci.map CV.ref)) :: cell nr (.lst [.int now]) :: drP n0 :: tarP tr T :: F) h := O.ent (by exfalso)
    repeat fail "q"
    rw [show CV.tup [.int p.num, .str p.caller, .str p.callee, .int t, .int u, .int (T.cost (u - t))] = billT (dueB T p t u) from rfl]
    obtain ⟨b0, eb0⟩ : ∃ b, b = dueB T p t u := ⟨_, rfl⟩
    rw [← eb0] at g0 ⊢
    clear eb0 gc gt gu gl
    fail
    repeat fail "q"
    refine o_drawI (O.ent (.pick (p := drP n0) (by get_elem_tactic_trivial) .rfl)) (by omega) (by omega) fun k h hk O => ?_
    have O : Own z (cell a (.lst [.int p.num, .str p.caller, .str p.callee, .int p.begun, oI p.rang, .int t, .int u, oS p.why, .str p.m0, .str p.m1, .int p.moves]) :: allP callP ((ci.zip rs).eraseIdx i) :: cell d (.lst (bs.map billT)) :: cell q (.lst (ci.map CV.ref)) :: cell nr (.lst [.int now]) :: drP n0 :: tarP tr T :: F) h := O.ent (by exfalso)
    have hk8 : k = 0 ∨ k = 1 ∨ k = 2 ∨ 3 ≤ k := by omega
    rcases hk8 with rfl | rfl | rfl | hk3
    · repeat fail
      refine (k_changed (O.pick (p := drP n0) (by get_elem_tactic_trivial)) g0).mono ?_
      rintro y h ⟨b1, rfl, g1, O⟩
      repeat fail
      have O : Own z (cell a (.lst [.int p.num, .str p.caller, .str p.callee, .int p.begun, oI p.rang, .int t, .int u, oS p.why, .str p.m0, .str p.m1, .int p.moves]) :: allP callP ((ci.zip rs).eraseIdx i) :: cell d (.lst ((bs ++ [b1]).map billT)) :: cell q (.lst (ci.map CV.ref)) :: cell nr (.lst [.int now]) :: drP n0 :: tarP tr T :: F) h := O.ent (by
        rw [List.map_append]
        show Ent _ (cell a _ :: allP callP ((ci.zip rs).eraseIdx i) :: cell d (.lst (bs.map billT ++ [billT b1])) :: _)
        exfalso)
      refine ⟨⟨_, _, _, rfl⟩, _, by rw [List.length_append]; simp; omega, fun b mb => ?_, back O⟩
      rcases List.mem_append.mp mb with mb | mb
      · exact gb b mb
      · rw [List.mem_singleton.mp mb]; exact g1.up (by decide)
    · repeat fail
      exact ⟨⟨_, _, _, rfl⟩, bs, by omega, gb, back (O.ent (by exfalso))⟩
    · repeat fail
      refine (k_changed (O.pick (p := drP n0) (by get_elem_tactic_trivial)) g0).mono ?_
      rintro y h ⟨b1, rfl, g1, O⟩
      repeat fail
      refine o_pickl (n := n0) (O.ent (.pick (p := drP n0) (by get_elem_tactic_trivial) (.pick .here .rfl))) (by simp) (by simp) fun v h mv O => ?_
      obtain ⟨b2, rfl, g2⟩ : ∃ b2, v = billT b2 ∧ BlG 2 b2 := by
        simp only [List.mem_cons, List.not_mem_nil, or_false] at mv
        rcases mv with rfl | rfl
        · exact ⟨b0, rfl, g0.up (by decide)⟩
        · exact ⟨b1, rfl, g1.up (by decide)⟩
      clear mv
      have lb2 : (bs.map billT ++ [billT b0]).length < 1000 := by rw [List.length_append]; simp; omega
      repeat fail
      have O : Own z (cell a (.lst [.int p.num, .str p.caller, .str p.callee, .int p.begun, oI p.rang, .int t, .int u, oS p.why, .str p.m0, .str p.m1, .int p.moves]) :: allP callP ((ci.zip rs).eraseIdx i) :: cell d (.lst ((bs ++ [b0, b2]).map billT)) :: cell q (.lst (ci.map CV.ref)) :: cell nr (.lst [.int now]) :: drP n0 :: tarP tr T :: F) h := O.ent (by
        rw [show bs ++ [b0, b2] = bs ++ [b0] ++ [b2] by simp, List.map_append, List.map_append]
        show Ent _ (cell a _ :: allP callP ((ci.zip rs).eraseIdx i) :: cell d (.lst (bs.map billT ++ [billT b0] ++ [billT b2])) :: _)
        exfalso)
      refine ⟨⟨_, _, _, rfl⟩, _, by rw [List.length_append]; simp; omega, fun b mb => ?_, back O⟩
      rcases List.mem_append.mp mb with mb | mb
      · exact gb b mb
      · simp only [List.mem_cons, List.not_mem_nil, or_false] at mb
        rcases mb with rfl | rfl
        · exact g0.up (by decide)
        · exact g2
    · have k0 : (!decide ((k : Int) = 1)) = true := by rw [decide_eq_false (show ¬ (k : Int) = 1 by omega)]; rfl
      have k2 : decide ((k : Int) = 2) = false := decide_eq_false (show ¬ (k : Int) = 2 by omega)
      repeat fail
      rw [decide_eq_false (show ¬ (k : Int) = 0 by omega)]
      repeat fail
      rw [k2]
      repeat fail
      have O : Own z (cell a (.lst [.int p.num, .str p.caller, .str p.callee, .int p.begun, oI p.rang, .int t, .int u, oS p.why, .str p.m0, .str p.m1, .int p.moves]) :: allP callP ((ci.zip rs).eraseIdx i) :: cell d (.lst ((bs ++ [b0]).map billT)) :: cell q (.lst (ci.map CV.ref)) :: cell nr (.lst [.int now]) :: drP n0 :: tarP tr T :: F) h := O.ent (by
        rw [List.map_append]
        show Ent _ (cell a _ :: allP callP ((ci.zip rs).eraseIdx i) :: cell d (.lst (bs.map billT ++ [billT b0])) :: _)
        exfalso)
      refine ⟨⟨_, _, _, rfl⟩, _, by rw [List.length_append]; simp; omega, fun b mb => ?_, back O⟩
      rcases List.mem_append.mp mb with mb | mb
      · exact gb b mb
      · rw [List.mem_singleton.mp mb]; exact g0.up (by decide)
  · rintro s1 h ⟨⟨o4, o5, o6, rfl⟩, bs, lb, gb, O⟩
    rw [l1] at lb
    repeat fail
    exact ⟨d, bs, rfl, lb, gb, O⟩
end Pf
set_option Elab.async false
set_option maxRecDepth 100000
set_option linter.all false
set_option maxHeartbeats 4000000
namespace Pf
open Cn Mir Dw Sp
variable {z : List Int} {ps F : List HP} {h h' : CH} {r b a i q n0 nr d tr bq pq : Nat} {now t : Int} {E : EX} {Q : CV → CH → Prop} {p : PRc} {rs : List PRc} {e : LE} {es : List LE} {m : Nat} {ci : List Nat} {T : PT} {bs : List PBl} {pn : List Int}
theorem set_same {ci : List Nat} {rs : List PRc} {i a : Nat} (ez : (ci.zip rs)[i]? = some (a, p)) : (ci.zip rs).set i (a, p) = ci.zip rs :=
  List.ext_getElem? fun k => by
    rw [List.getElem?_set]
    split
    · next e => subst e; split <;> simp_all
    · rfl
theorem k_pending (O : Own z (lawR q nr ci rs now (drP n0 :: F)) h) (lr : ci.length = rs.length) (l : rs.length < 100) (g : ∀ p ∈ rs, RcG p now) :
    OkE NoX (m_law_pending [.ref n0, .ref q] h) fun y h' => ∃ d, ∃ pn : List Int, y = .ref d ∧ pn.length ≤ rs.length ∧ (∀ x ∈ pn, 0 ≤ x ∧ x < 1000000) ∧ Own z (cell d (.lst (pn.map CV.int)) :: lawR q nr ci rs now (drP n0 :: F)) h' := by
  have l1 : (ci.map CV.ref).length = rs.length := by rw [List.length_map]; exact lr
  refine Ok_runD _ _ _ _ rfl ?_
  fail
  repeat fail "q"
  obtain ⟨d, e1⟩ : ∃ x, x = fr := ⟨_, rfl⟩
  rw [← e1] at O ⊢
  clear e1
  fail
  refine o_for ?_
  repeat fail
  refine ⟨q, ci.map CV.ref, fun i s1 h1 => (∃ o3, s1 = [some (.ref n0), some (.ref q), some (.ref d), o3]) ∧ ∃ pn : List Int, pn.length ≤ i ∧ (∀ x ∈ pn, 0 ≤ x ∧ x < 1000000) ∧ Own z (cell d (.lst (pn.map CV.int)) :: lawR q nr ci rs now (drP n0 :: F)) h1, rfl, o_get O (by get_elem_tactic_trivial), ⟨⟨_, rfl⟩, [], by simp, fun _ m => (by cases m), O⟩, fun i s h x => (by obtain ⟨_, bs, _, _, O⟩ := x; exact o_get O (by get_elem_tactic_trivial)), ?_, ?_⟩
  · rintro i v s1 h ev ⟨⟨o3, rfl⟩, pn, lb, gb, O⟩
    rw [List.getElem?_map] at ev
    obtain ⟨a, ea, rfl⟩ := Option.map_eq_some_iff.mp ev
    have hi := get_lt ea
    obtain ⟨p, ep⟩ : ∃ p, rs[i]? = some p := ⟨_, List.getElem?_eq_getElem (by omega)⟩
    have ez : (ci.zip rs)[i]? = some (a, p) := (List.getElem?_zip_eq_some (z := (a, p))).mpr ⟨ea, ep⟩
    have gp := g p (List.mem_of_getElem? ep)
    have O := (O.pick (p := allP callP (ci.zip rs)) (by get_elem_tactic_trivial)).focus ez
    have O : Own z (cell a (.lst [.int p.num, .str p.caller, .str p.callee, .int p.begun, oI p.rang, oI p.ans, oI p.en, oS p.why, .str p.m0, .str p.m1, .int p.moves]) :: allP callP ((ci.zip rs).eraseIdx i) :: cell d (.lst (pn.map CV.int)) :: cell q (.lst (ci.map CV.ref)) :: cell nr (.lst [.int now]) :: drP n0 :: F) h := O.ent (by exfalso)
    have back : ∀ {h : CH} {pn : List Int}, Own z (cell a (.lst [.int p.num, .str p.caller, .str p.callee, .int p.begun, oI p.rang, oI p.ans, oI p.en, oS p.why, .str p.m0, .str p.m1, .int p.moves]) :: allP callP ((ci.zip rs).eraseIdx i) :: cell d (.lst (pn.map CV.int)) :: cell q (.lst (ci.map CV.ref)) :: cell nr (.lst [.int now]) :: drP n0 :: F) h → Own z (cell d (.lst (pn.map CV.int)) :: lawR q nr ci rs now (drP n0 :: F)) h := by
      intro h pn O
      have O : Own z (callP a p :: allP callP ((ci.zip rs).eraseIdx i) :: cell d (.lst (pn.map CV.int)) :: cell q (.lst (ci.map CV.ref)) :: cell nr (.lst [.int now]) :: drP n0 :: F) h := O
      have O := O.unfocus (get_lt ez)
      rw [set_same ez] at O
      exact O.ent (by exfalso)
    have lbm : (pn.map CV.int).length < 1000 := by rw [List.length_map]; omega
    refine k_asp rfl ?_
    repeat fail
    refine Ok.eq (notN_I _) ?_
    refine k_iftQ (fun c1 => ?_) (fun c1 => ?_)
    · repeat fail
      refine Ok.eq (isN_I _) ?_
      repeat fail
      refine o_drawI (O.ent (.pick (p := drP n0) (by get_elem_tactic_trivial) .rfl)) (by omega) (by omega) fun k h hk O => ?_
      have O : Own z (cell a (.lst [.int p.num, .str p.caller, .str p.callee, .int p.begun, oI p.rang, oI p.ans, oI p.en, oS p.why, .str p.m0, .str p.m1, .int p.moves]) :: allP callP ((ci.zip rs).eraseIdx i) :: cell d (.lst (pn.map CV.int)) :: cell q (.lst (ci.map CV.ref)) :: cell nr (.lst [.int now]) :: drP n0 :: F) h := O.ent (by exfalso)
      repeat fail
      refine k_iftQ (fun c3 => ?_) (fun c3 => ?_)
      · repeat fail
        refine ⟨⟨_, rfl⟩, pn ++ [p.num], by simp; omega, fun x mx => ?_, back ?_⟩
        · rcases List.mem_append.mp mx with mx | mx
          · exact gb x mx
          · rw [List.mem_singleton.mp mx]; exact gp.n
        · rw [List.map_append]
          exact O
      · repeat fail
        exact ⟨⟨_, rfl⟩, pn, by omega, gb, back O⟩
    ·
      repeat fail
      refine o_drawI (O.ent (.pick (p := drP n0) (by get_elem_tactic_trivial) .rfl)) (by omega) (by omega) fun k h hk O => ?_
      have O : Own z (cell a (.lst [.int p.num, .str p.caller, .str p.callee, .int p.begun, oI p.rang, oI p.ans, oI p.en, oS p.why, .str p.m0, .str p.m1, .int p.moves]) :: allP callP ((ci.zip rs).eraseIdx i) :: cell d (.lst (pn.map CV.int)) :: cell q (.lst (ci.map CV.ref)) :: cell nr (.lst [.int now]) :: drP n0 :: F) h := O.ent (by exfalso)
      repeat fail
      refine k_iftQ (fun c3 => ?_) (fun c3 => ?_)
      · repeat fail
        refine ⟨⟨_, rfl⟩, pn ++ [p.num], by simp; omega, fun x mx => ?_, back ?_⟩
        · rcases List.mem_append.mp mx with mx | mx
          · exact gb x mx
          · rw [List.mem_singleton.mp mx]; exact gp.n
        · rw [List.map_append]
          exact O
      · repeat fail
        exact ⟨⟨_, rfl⟩, pn, by omega, gb, back O⟩
  · rintro s1 h ⟨⟨o3, rfl⟩, pn, lb, gb, O⟩
    rw [l1] at lb
    repeat fail
    exact ⟨d, pn, rfl, lb, gb, O⟩
theorem last_filter (n : Int) : lastB bs n = (bs.filter fun b => decide (b.num = n)).getLast? := by
  unfold lastB
  rw [← List.head?_filter, List.filter_reverse, List.head?_reverse]
theorem ne_6 {b c : PBl} : neV (billT b) (billT c) h = .ok (.bl (!decide (b = c))) h := by
  obtain ⟨b1, b2, b3, b4, b5, b6⟩ := b
  obtain ⟨c1, c2, c3, c4, c5, c6⟩ := c
  simp only [PBl.mk.injEq]
  simp [billT, neV, dataC, dataCs, eqD, eqDs, Bool.decide_and, beq_dec]
  rfl
theorem gl_at {α : Type} {l : List α} (hl : l ≠ []) : l[l.length - 1]? = l.getLast? := by rw [List.getLast?_eq_getElem?]
abbrev fiR (a bq pq tr : Nat) (p : PRc) (bs : List PBl) (pn : List Int) (T : PT) (F : List HP) : List HP := cell a (.lst [.int p.num, .str p.caller, .str p.callee, .int p.begun, oI p.rang, oI p.ans, oI p.en, oS p.why, .str p.m0, .str p.m1, .int p.moves]) :: cell bq (.lst (bs.map billT)) :: cell pq (.lst (pn.map CV.int)) :: tarP tr T :: F
theorem k_findings (O : Own z (fiR a bq pq tr p bs pn T F) h) (W : T.W) (l2 : bs.length < 1000) (l3 : pn.length < 1000) :
    OkE NoX (m_law_findings [.ref a, .ref bq, .ref pq, .ref tr] h) fun y h' => ∃ d, y = .ref d ∧ Own z (cell d (.lst ((findF T bs pn p).map fndV)) :: fiR a bq pq tr p bs pn T F) h' := by
  refine Ok_runD _ _ _ _ rfl ?_
  fail
  repeat fail "q"
  refine o_mapQ (z := z) (r := bq) (ys := bs.map billT) bs (fun b => decide (b.num = p.num)) billT (by simp) (by rw [List.length_map]; omega) O (by get_elem_tactic_trivial) ?_ ?_ fun m h O => ?_
  · exact k_var rfl ⟨rfl, rfl⟩
  · intro i v x h ev ex hI hP
    rw [List.getElem?_map, ex] at ev
    cases ev
    refine k_asp rfl ⟨rfl, ?_⟩
    have j : h.at a = some (.lst [.int p.num, .str p.caller, .str p.callee, .int p.begun, oI p.rang, oI p.ans, oI p.en, oS p.why, .str p.m0, .str p.m1, .int p.moves]) := hI .here
    unfold billT
    repeat fail
    exact ⟨rfl, rfl, fun _ => k_var rfl ⟨rfl, rfl⟩⟩
  obtain ⟨ms, ems⟩ : ∃ ms, ms = bs.filter fun b => decide (b.num = p.num) := ⟨_, rfl⟩
  have el : lastB bs p.num = ms.getLast? := by rw [ems]; exact last_filter _
  have lm : ms.length ≤ bs.length := by rw [ems]; exact List.length_filter_le _ _
  rw [← ems] at O
  have lmm : (ms.map billT).length = ms.length := List.length_map ..
  fail
  repeat fail "q"
  obtain ⟨d, e1⟩ : ∃ x, x = fr := ⟨_, rfl⟩
  rw [← e1] at O ⊢
  clear e1
  fail
  refine SkE.mono (N := fun s1 h1 => (∃ o7, s1 = [some (.ref a), some (.ref bq), some (.ref pq), some (.ref tr), some (.ref m), none, some (.ref d), o7]) ∧ Own z (cell d (.lst ((findF T bs pn p).map fndV)) :: cell m (.lst (ms.map billT)) :: fiR a bq pq tr p bs pn T F) h1) (C := fun _ _ => False) (R := fun _ _ => False) ?_ ?_ (fun _ _ x => x.elim) (fun _ _ x => x.elim)
  · have hs : (lastB bs p.num).isSome = decide ((ms.length : Int) > 0) := by
      rw [el, Bool.eq_iff_iff, decide_eq_true_iff]
      cases ms with
      | nil => simp
      | cons x l => simp [List.getLast?_cons]
    have O : Own z (cell d (.lst (([] : List Fnd).map fndV)) :: cell m (.lst (ms.map billT)) :: fiR a bq pq tr p bs pn T F) h := O
    have opn : ∀ {h : CH}, (p.ans = none ∨ p.en = none) → Own z (cell d (.lst (([] : List Fnd).map fndV)) :: cell m (.lst (ms.map billT)) :: fiR a bq pq tr p bs pn T F) h → SkE (fun _ => NoX) (sSeq (sIf (tV (Cn.e2 gtV (eCall lenV (aCons (eVar 4) (aNil))) (eC (.int 0)))) (sE (eBM 5 appendV (eVar 6) (aCons (eTup (aCons (eC (.str [98, 105, 108, 108])) (aCons (Cn.e2 ixV (eVar 0) (eC (.int 0))) (aNil)))) (aNil)))) (sNil)) (sIf (tV (Cn.e2 neV (Cn.e1 notNV (Cn.e2 ixV (eVar 0) (eC (.int 5)))) (Cn.e2 Cn.inV (Cn.e2 ixV (eVar 0) (eC (.int 0))) (eVar 2)))) (sE (eBM 5 appendV (eVar 6) (aCons (eTup (aCons (eC (.str [112, 101, 110, 100, 105, 110, 103])) (aCons (Cn.e2 ixV (eVar 0) (eC (.int 0))) (aNil)))) (aNil)))) (sNil)) [some (.ref a), some (.ref bq), some (.ref pq), some (.ref tr), some (.ref m), none, some (.ref d), none] h)
      (fun s1 h1 => (∃ o7, s1 = [some (.ref a), some (.ref bq), some (.ref pq), some (.ref tr), some (.ref m), none, some (.ref d), o7]) ∧ Own z (cell d (.lst ((findF T bs pn p).map fndV)) :: cell m (.lst (ms.map billT)) :: fiR a bq pq tr p bs pn T F) h1) (fun _ _ => False) (fun _ _ => False) := by
      intro h hn O
      have ef : findF T bs pn p = (if (lastB bs p.num).isSome = true then [(nBILL, p.num)] else []) ++ (if p.ans.isSome ≠ decide (p.num ∈ pn) then [(nPEND, p.num)] else []) := by
        unfold findF
        split
        · next t u h1 h2 => exact absurd hn (by rw [h1, h2]; simp)
        · rfl
      rw [ef]
      obtain ⟨f3, ef3⟩ : ∃ f3, f3 = (if (lastB bs p.num).isSome = true then [(nBILL, p.num)] else [] : List Fnd) := ⟨_, rfl⟩
      rw [← ef3]
      have lf3 : (f3.map fndV).length < 1000 := by
        rw [ef3]
        split <;> simp
      fail
      refine SkE.mono (N := fun s1 h1 => s1 = [some (.ref a), some (.ref bq), some (.ref pq), some (.ref tr), some (.ref m), none, some (.ref d), none] ∧ Own z (cell d (.lst (f3.map fndV)) :: cell m (.lst (ms.map billT)) :: fiR a bq pq tr p bs pn T F) h1) (C := fun _ _ => False) (R := fun _ _ => False) ?_ ?_ (fun _ _ x => x.elim) (fun _ _ x => x.elim)
      · repeat fail
        rw [lmm, ← hs]
        refine k_iftQ (fun c1 => ?_) (fun c1 => ?_)
        · repeat fail
          refine ⟨rfl, ?_⟩
          rw [ef3, if_pos c1]
          exact O
        · repeat fail
          refine ⟨rfl, ?_⟩
          rw [ef3, if_neg (by rw [c1]; exact Bool.false_ne_true)]
          exact O
      rintro s1 h ⟨rfl, O⟩
      repeat fail
      refine Ok.eq (notN_I _) ?_
      repeat fail
      refine k_inl (o_get O (by get_elem_tactic_trivial)) (by simp [flatC]) ?_
      rw [any_intQ]
      repeat fail
      refine k_iftQ (fun c1 => ?_) (fun c1 => ?_)
      · repeat fail
        refine ⟨⟨_, rfl⟩, ?_⟩
        rw [if_pos (by simpa using c1), List.map_append]
        exact O
      · repeat fail
        refine ⟨⟨_, rfl⟩, ?_⟩
        rw [if_neg (by simpa using c1), List.append_nil]
        exact O
    repeat fail
    refine Ok.eq (isN_I _) ?_
    repeat fail
    refine k_iftQ (fun c1 => ?_) (fun c1 => ?_)
    · refine k_ifp rfl ?_
      exact opn (.inl (Option.isNone_iff_eq_none.mp c1)) O
    repeat fail
    refine Ok.eq (isN_I _) ?_
    repeat fail
    refine k_iftQ (fun c2 => ?_) (fun c2 => ?_)
    · exact opn (.inr (Option.isNone_iff_eq_none.mp c2)) O
    obtain ⟨t, ha⟩ : ∃ t, p.ans = some t := by
      cases e : p.ans with
      | none => rw [e] at c1; cases c1
      | some t => exact ⟨t, rfl⟩
    obtain ⟨u, he⟩ : ∃ u, p.en = some u := by
      cases e : p.en with
      | none => rw [e] at c2; cases c2
      | some t => exact ⟨t, rfl⟩
    repeat fail
    rw [lmm]
    cases hms : ms with
    | nil =>
      rw [hms] at O el
      have ef : findF T bs pn p = [(nNONE, p.num)] := by
        unfold findF
        rw [ha, he]
        dsimp only
        rw [el]
        rfl
      repeat fail
      rw [ef]
      exact ⟨⟨_, rfl⟩, O⟩
    | cons b1 l1 =>
      have hne : ms ≠ [] := by rw [hms]; simp
      rw [← hms]
      obtain ⟨b, eb⟩ : ∃ b, ms.getLast? = some b := ⟨_, List.getLast?_eq_some_getLast hne⟩
      have ef : findF T bs pn p = if b ≠ dueB T p t u then [(nBILL, p.num)] else [] := by
        unfold findF
        rw [ha, he]
        dsimp only
        rw [el, eb]
      have lp : 0 < ms.length := List.length_pos_iff.mpr hne
      rw [decide_eq_false (show ¬ ((ms.length : Nat) : Int) = 0 by omega)]
      repeat fail
      refine o_meth O (by repeat first | exact tarC53 | apply ClsP.there) rfl ?_
      repeat fail
      rw [ha, he, show oI (some t) = .int t from rfl, show oI (some u) = .int u from rfl]
      repeat fail
      refine (t_cost (O.pick (p := tarP tr T) (by get_elem_tactic_trivial)) W).mono ?_
      rintro y h ⟨rfl, O⟩
      have O : Own z (cell d (.lst (([] : List Fnd).map fndV)) :: cell m (.lst (ms.map billT)) :: fiR a bq pq tr p bs pn T F) h := O.ent (by exfalso)
      repeat fail
      rw [lmm]
      refine k_ixln (v := billT b) (o_get O (by get_elem_tactic_trivial)) (by omega) (by rw [show ((ms.length : Nat) : Int) - 1 = ((ms.length - 1 : Nat) : Int) by omega, Int.toNat_natCast, List.getElem?_map, gl_at hne, eb]; rfl) ?_
      repeat fail
      rw [show CV.tup [.int p.num, .str p.caller, .str p.callee, .int t, .int u, .int (T.cost (u - t))] = billT (dueB T p t u) from rfl]
      refine Ok.eq ne_6 ?_
      repeat fail
      rw [ef]
      refine k_iftQ (fun c4 => ?_) (fun c4 => ?_)
      · repeat fail
        rw [if_pos (by simpa using c4)]
        exact ⟨⟨_, rfl⟩, O⟩
      · repeat fail
        rw [if_neg (by simpa using c4)]
        exact ⟨⟨_, rfl⟩, O⟩
  rintro s1 h ⟨⟨o7, rfl⟩, O⟩
  repeat fail
  exact ⟨d, rfl, O.ent (by exfalso)⟩
end Pf
set_option Elab.async false
set_option maxRecDepth 100000
set_option linter.all false
set_option maxHeartbeats 4000000
namespace Pf
open Cn Mir Dw Sp
variable {z : List Int} {ps F : List HP} {h h' : CH} {r b a i q n0 nr d tr bq pq : Nat} {now t : Int} {E : EX} {Q : CV → CH → Prop} {p : PRc} {rs : List PRc} {e : LE} {es : List LE} {m : Nat} {ci : List Nat} {T : PT} {bs : List PBl} {pn : List Int}
theorem t_init {br : Nat} {u a p d : Int} (O : Own z (cell r (.ins 9 []) :: cell br (.lst [.tup [.int a, .int p]]) :: F) h) (hu : 1 ≤ u ∧ u ≤ 10000) (ha : 1 ≤ a ∧ a ≤ 10000) (hp : 0 ≤ p ∧ p ≤ 10000) (hd : 0 ≤ d ∧ d ≤ 10000) :
    OkE NoX (m_Tariff_init [.ref r, .int u, .ref br, .int d] h) fun y h' => y = .non ∧ Own z (tarP r ⟨u, [(a, p)], d⟩ :: F) h' := by
  refine Ok_runD _ _ _ _ rfl ?_
  repeat fail
  refine k_ifp (decide_eq_true (by omega)) ?_
  repeat fail
  refine k_ifn (by simp; omega) ?_
  repeat fail
  refine o_for ?_
  repeat fail
  refine ⟨br, [.tup [.int a, .int p]], fun i s1 h1 => (∃ o4 o5, s1 = [some (.ref r), some (.int u), some (.ref br), some (.int d), o4, o5]) ∧ Own z (cell r (.ins 9 []) :: cell br (.lst [.tup [.int a, .int p]]) :: F) h1, rfl, o_get O (.there .here), ⟨⟨_, _, rfl⟩, O⟩, fun i s h x => o_get x.2 (.there .here), ?_, ?_⟩
  · rintro i v s1 h ev ⟨⟨o4, o5, rfl⟩, O⟩
    cases i with
    | succ i => simp at ev
    | zero =>
      cases ev
      refine k_asp rfl ?_
      repeat fail
      refine k_ifp (decide_eq_true (by omega)) ?_
      repeat fail
      refine k_ifn (by simp; omega) ?_
      repeat fail
      refine k_ifp (decide_eq_true (by omega)) ?_
      repeat fail
      refine k_ifn (by simp; omega) ?_
      repeat fail
      exact ⟨⟨_, _, rfl⟩, O⟩
  · rintro s1 h ⟨⟨o4, o5, rfl⟩, O⟩
    repeat fail
    refine k_ifp (decide_eq_true (by omega)) ?_
    repeat fail
    refine k_ifn (by simp; omega) ?_
    repeat fail
    obtain ⟨b2, e2⟩ : ∃ x, x = fr := ⟨_, rfl⟩
    rw [← e2] at O
    exact ⟨rfl, O.ent (ent_tar (br := b2) (by
      show Ent _ (cell r (.ins 9 [(45, .int u), (46, .ref b2), (47, .int d)]) :: cell b2 (.lst [.tup [.int a, .int p]]) :: F)
      exfalso))⟩
theorem t_small {u : Int} (hu : 1 ≤ u ∧ u ≤ 10) : ∀ s, 0 ≤ s → s ≤ 1000000 → 0 ≤ PT.cost ⟨u, [(2, 5)], 1⟩ s ∧ PT.cost ⟨u, [(2, 5)], 1⟩ s ≤ 2000000 := by
  intro s h0 h1
  unfold PT.cost PT.units
  dsimp only
  have g0 : 0 ≤ (s + u - 1) / u := Int.ediv_nonneg (by omega) (by omega)
  have g1 : (s + u - 1) / u ≤ s + u - 1 := Int.ediv_le_self _ (by omega)
  generalize (s + u - 1) / u = w at g0 g1
  show 0 ≤ (0 + (if w < 2 then w else 2) * 5) + (w - (if w < 2 then w else 2)) * 1 ∧ (0 + (if w < 2 then w else 2) * 5) + (w - (if w < 2 then w else 2)) * 1 ≤ 2000000
  split <;> omega
def billD (b : PBl) : CD := .tup [.int b.num, .str b.caller, .str b.callee, .int b.a, .int b.e, .int b.c]
theorem bills_data (k : Nat) : ∀ bs : List PBl, dataCs h (k + 1) (bs.map billT) = some (bs.map billD)
  | [] => by simp [dataCs]
  | b :: bs => by rw [List.map_cons]; simp [dataCs, dataC, billT, billD, bills_data k bs]
theorem ints_data (k : Nat) : ∀ pn : List Int, dataCs h (k + 1) (pn.map CV.int) = some (pn.map CD.int)
  | [] => by simp [dataCs]
  | b :: bs => by rw [List.map_cons]; simp [dataCs, dataC, ints_data k bs]
def fndD (f : Fnd) : CD := .tup [.str f.1, .int f.2]
theorem fnds_data (k : Nat) : ∀ fs : List Fnd, dataCs h (k + 1) (fs.map fndV) = some (fs.map fndD)
  | [] => by simp [dataCs]
  | b :: bs => by rw [List.map_cons]; simp [dataCs, dataC, fndV, fndD, fnds_data k bs]
theorem bill_ok {b : PBl} (g : BlG 2 b) : okR (billD b) = true ∧ (reprC (billD b)).length ≤ 510 := by
  obtain ⟨g1, g2, g3, g4, g5, g6⟩ := g
  have n1 := sml_int (i := b.num) (by omega)
  have n2 := sml_int (i := b.a) (by omega)
  have n3 := sml_int (i := b.e) (by omega)
  have n4 := sml_int (i := b.c) (by omega)
  exact sml_tup (by simp only [List.forall_mem_cons]; exact ⟨n1, sml_str g2.1 g2.2, sml_str g3.1 g3.2, n2, n3, n4, fun _ m => by cases m⟩) (by simp)
theorem k_repr3 {n ev : Nat} (e0 : h.at n = some (.lst [.ref ev, .ref bq, .ref pq])) (e1 : h.at ev = some (.lst (es.map LE.cv))) (e2 : h.at bq = some (.lst (bs.map billT))) (e3 : h.at pq = some (.lst (pn.map CV.int)))
    (g1 : ∀ e ∈ es, e.G) (g2 : ∀ b ∈ bs, BlG 2 b) (g3 : ∀ x ∈ pn, 0 ≤ x ∧ x < 1000000) (l1 : es.length ≤ 100) (l2 : bs.length ≤ 1000) (l3 : pn.length ≤ 1000)
    (o : Q (.str (reprC (.lst [.lst (es.map LE.cd), .lst (bs.map billD), .lst (pn.map CD.int)]))) h) : OkE E (reprV [.ref n] h) Q := by
  obtain ⟨a1, a2⟩ := les_repr g1 l1
  have b1 : okR (.lst (bs.map billD)) = true := okRs_all _ fun d m => by
    obtain ⟨b, mb, rfl⟩ := List.mem_map.mp m
    exact (bill_ok (g2 b mb)).1
  have b2 : (reprC (.lst (bs.map billD))).length ≤ 600000 := by
    have := repr_lst (ds := bs.map billD) (m := 510) fun d m => by
      obtain ⟨b, mb, rfl⟩ := List.mem_map.mp m
      exact (bill_ok (g2 b mb)).2
    rw [List.length_map] at this
    have : bs.length * (510 + 2) ≤ 1000 * 512 := Nat.mul_le_mul_right _ l2
    omega
  have sm : ∀ x ∈ pn, Sml (.int x) := fun x mx => sml_int (i := x) (by have := g3 x mx; omega)
  have c1 : okR (.lst (pn.map CD.int)) = true := okRs_all _ fun d m => by
    obtain ⟨b, mb, rfl⟩ := List.mem_map.mp m
    exact (sm b mb).1
  have c2 : (reprC (.lst (pn.map CD.int))).length ≤ 600000 := by
    have := repr_lst (ds := pn.map CD.int) (m := 40) fun d m => by
      obtain ⟨b, mb, rfl⟩ := List.mem_map.mp m
      exact (sm b mb).2
    rw [List.length_map] at this
    have : pn.length * (40 + 2) ≤ 1000 * 42 := Nat.mul_le_mul_right _ l3
    omega
  refine k_repr e0 (d := [.lst (es.map LE.cd), .lst (bs.map billD), .lst (pn.map CD.int)]) ?_ ?_ ?_ o
  · simp only [dataCs, dataC, os_at, e1, e2, e3, les_data 47, bills_data 47, ints_data 47]
  · exact okRs_all _ (by simp only [List.forall_mem_cons]; exact ⟨a1, b1, c1, fun _ m => by cases m⟩)
  · have := repr_lst (ds := [.lst (es.map LE.cd), .lst (bs.map billD), .lst (pn.map CD.int)]) (m := 600000) (by simp only [List.forall_mem_cons]; exact ⟨by omega, b2, c2, fun _ m => by cases m⟩)
    simp only [List.length_cons, List.length_nil] at this
    omega
theorem o_sliceScr {lo hi : Option Int} (O : Own z ps h) (o : ∀ q h', Own z (cell q (.lst (cutC (z.map CV.int) lo hi)) :: ps) h' → Q (.ref q) h') : OkE E (sliceV .scr lo hi h) Q := by
  obtain ⟨cs, x, y⟩ := id O
  rw [slice_scr, Ok_alloc, y.sc]
  exact o _ _ (O.new _)
structure LJ (es : List LE) (rs : List PRc) (now : Int) (wr : List Nat) (tick : Int) (i : Nat) : Prop where
  l : es.length = i
  g : ∀ e ∈ es, e.G
  t : tellN es i = (rs, now, wr)
  k : 0 ≤ tick ∧ tick ≤ 9 * i
  r : ∀ p ∈ rs, RcG p now
  n : now < 1000000
theorem LJ.len {rs : List PRc} {wr : List Nat} {i : Nat} {tick : Int} (j : LJ es rs now wr tick i) : rs.length ≤ i ∧ wr.length ≤ i := by
  have := tell_len es i
  rw [j.t] at this
  exact this
abbrev evF (ws : List Nat) : List Fnd := ws.map fun k : Nat => (nEVENT, (k : Int))
end Pf
set_option Elab.async false
set_option maxRecDepth 100000
set_option linter.all false
set_option maxHeartbeats 4000000
namespace Pf
open Cn Mir Dw Sp
variable {z : List Int} {ps F : List HP} {h h' : CH} {r b a i q n0 nr d tr bq pq : Nat} {now t : Int} {E : EX} {Q : CV → CH → Prop} {p : PRc} {rs : List PRc} {e : LE} {es : List LE} {m : Nat} {ci : List Nat} {T : PT} {bs : List PBl} {pn : List Int}
theorem k_compA {own : List Nat} {a e : ME CV} {g : MG} {t : ME Bool} {s : CS} (o : OkE E (a s h) fun x h1 => OkE E (eComp own (eC x) g t e s h1) Q) : OkE E (eComp own a g t e s h) Q := by
  unfold eComp
  rw [Ok_bind]
  refine o.mono fun x h1 o => ?_
  unfold eComp at o
  rw [Ok_bind, Ok_eC] at o
  exact o
theorem bix0 {b : PBl} (o : Q (.int b.num) h) : OkE E (ixV (billT b) (.int 0) h) Q := k_ixt (by decide) rfl o
theorem flat_nums (l : List PBl) : (l.map fun b : PBl => CV.int b.num).all flatC = true := by
  rw [List.all_map]
  exact List.all_eq_true.mpr fun _ _ => rfl
theorem any_num {d : Int} : ∀ l : List PBl, (l.map (fun b : PBl => CV.int b.num)).any (fun y => eqF y (.int d)) = (lastB l d).isSome := by
  intro l
  rw [show l.map (fun b : PBl => CV.int b.num) = (l.map PBl.num).map CV.int by rw [List.map_map]; rfl, any_intQ, last_filter, Bool.eq_iff_iff, decide_eq_true_iff, List.mem_map]
  constructor
  · rintro ⟨b, mb, rfl⟩
    have m2 : b ∈ l.filter fun x => decide (x.num = b.num) := List.mem_filter.mpr ⟨mb, decide_eq_true rfl⟩
    rw [List.getLast?_isSome]
    intro e
    rw [e] at m2
    cases m2
  · intro x
    obtain ⟨b, eb⟩ := Option.isSome_iff_exists.mp x
    have m2 := List.mem_of_getLast? eb
    have m3 := List.mem_filter.mp m2
    exact ⟨b, m3.1, of_decide_eq_true m3.2⟩
theorem law_run {h : CH} (hs : h.sc.length ≤ 63) : OkE NoX (m_law [.scr] h) fun y _ => y = .bl true := by
  obtain ⟨z, ez⟩ : ∃ z, z = h.sc := ⟨_, rfl⟩
  refine Ok_runD _ _ _ _ rfl ?_
  repeat fail
  refine o_state hs fun n h O => ?_
  rw [← ez] at O
  have lz : z.length ≤ 63 := by rw [ez]; exact hs
  fail
  repeat fail "q"
  refine o_drawI O (by omega) (by omega) fun u h hu O => ?_
  repeat fail "q"
  refine (t_init (O.ent (qs := cell fr (.ins 9 []) :: cell _ (.lst [.tup [.int 2, .int 5]]) :: drP n :: []) (.pick .here (.pick .here (by exfalso)))) (by omega) (by omega) (by omega) (by omega)).mono ?_
  rintro y h ⟨rfl, O⟩
  refine ⟨rfl, ?_⟩
  obtain ⟨tr, e1⟩ : ∃ x, x = fr := ⟨_, rfl⟩
  rw [← e1] at O ⊢
  clear e1
  have TW : PT.W ⟨1 + (u : Int), [(2, 5)], 1⟩ := ⟨by dsimp only; omega, fun x m => by rw [List.mem_singleton.mp m]; exact ⟨by decide, by decide⟩, by dsimp only; omega⟩
  have hT := t_small (u := 1 + (u : Int)) (by omega)
  obtain ⟨T, eT⟩ : ∃ T : PT, T = ⟨1 + (u : Int), [(2, 5)], 1⟩ := ⟨_, rfl⟩
  rw [← eT] at O TW hT
  clear eT
  fail
  repeat fail "q"
  obtain ⟨ev, e1⟩ : ∃ x, x = fr := ⟨_, rfl⟩
  rw [← e1] at O ⊢
  clear e1
  fail
  repeat fail "q"
  obtain ⟨cq, e1⟩ : ∃ x, x = fr := ⟨_, rfl⟩
  rw [← e1] at O ⊢
  clear e1
  fail
  repeat fail "q"
  obtain ⟨wr, e1⟩ : ∃ x, x = fr := ⟨_, rfl⟩
  rw [← e1] at O ⊢
  clear e1
  fail
  repeat fail "q"
  obtain ⟨nr, e1⟩ : ∃ x, x = fr := ⟨_, rfl⟩
  rw [← e1] at O ⊢
  clear e1
  fail
  repeat fail "q"
  fail
  refine SkE.mono (N := fun s1 h1 => (∃ x7 x8 x9, s1 = [some .scr, some (.ref n), some (.ref tr), some (.ref ev), some (.ref cq), some (.ref wr), some (.ref nr), x7, x8, x9, none, none, none, none, none, none]) ∧ ∃ es rs now ws ci i, i ≤ 40 ∧ (∃ tick, LJ es rs now ws tick i) ∧ ci.length = rs.length ∧ Own z (lawR cq nr ci rs now (drP n :: tarP tr T :: cell ev (.lst (es.map LE.cv)) :: cell wr (.lst ((evF ws).map fndV)) :: [])) h1) (C := fun _ _ => False) (R := fun _ _ => False) ?_ ?_ (fun _ _ x => x.elim) (fun _ _ x => x.elim)
  · refine Sk_sForR1 ?_
    repeat fail
    refine o_sliceScr O fun q h O => ?_
    have ec : cutC (z.map CV.int) none (some 40) = (z.map CV.int).take 40 := cut_to' _ 40
    rw [ec] at O
    obtain ⟨xs, exs⟩ : ∃ xs, xs = (z.map CV.int).take 40 := ⟨_, rfl⟩
    rw [← exs] at O
    have lx : xs.length ≤ 40 := by rw [exs]; simp; omega
    repeat fail
    refine ⟨xs.length, fun i s1 h1 => (∃ x8 x9 tick, s1 = [some .scr, some (.ref n), some (.ref tr), some (.ref ev), some (.ref cq), some (.ref wr), some (.ref nr), some (.int tick), x8, x9, none, none, none, none, none, none] ∧ ∃ es rs now ws ci, LJ es rs now ws tick i ∧ ci.length = rs.length ∧ Own z (lawR cq nr ci rs now (drP n :: tarP tr T :: cell ev (.lst (es.map LE.cv)) :: cell wr (.lst ((evF ws).map fndV)) :: [])) h1), rfl, by omega, ⟨_, _, _, rfl, [], [], 0, [], [], ⟨rfl, fun _ m => (by cases m), rfl, by omega, fun _ m => (by cases m), by decide⟩, rfl, O.ent (by
      show Ent _ (cell cq (.lst []) :: cell nr (.lst [.int 0]) :: allP callP [] :: drP n :: tarP tr T :: cell ev (.lst []) :: cell wr (.lst []) :: [])
      exfalso)⟩, ?_, ?_⟩
    · rintro i s1 h hi ⟨x8, x9, tick, rfl, es, rs, now, ws, ci, j, lc, O⟩
      obtain ⟨lr, lw⟩ := j.len
      refine ⟨_, _, rfl, ?_⟩
      have k0 := j.k
      repeat fail
      refine o_drawI (O.ent (.pick (p := drP n) (by get_elem_tactic_trivial) .rfl)) (by omega) (by omega) fun d1 h hd1 O => ?_
      repeat fail
      refine o_pickl (n := n) (O.ent (.pick (.there .here) (.pick .here .rfl))) (by simp) (by simp) fun v h mv O => ?_
      obtain ⟨dt, rfl, hdt⟩ : ∃ dt : Int, v = .int dt ∧ -1 ≤ dt ∧ dt ≤ 9 := by
        simp only [List.mem_cons, List.not_mem_nil, or_false] at mv
        rcases mv with rfl | rfl | rfl | rfl
        · exact ⟨_, rfl, by omega, by omega⟩
        · exact ⟨_, rfl, by omega, by omega⟩
        · exact ⟨_, rfl, by omega, by omega⟩
        · exact ⟨_, rfl, by omega, by omega⟩
      have O : Own z (lawR cq nr ci rs now (drP n :: tarP tr T :: cell ev (.lst (es.map LE.cv)) :: cell wr (.lst ((evF ws).map fndV)) :: [])) h := O.ent (by exfalso)
      repeat fail
      obtain ⟨tk, etk⟩ : ∃ tk : Int, tk = if tick + dt > 0 then tick + dt else 0 := ⟨_, rfl⟩
      have htk : 0 ≤ tk ∧ tk ≤ 9 * (i + 1) := by rw [etk]; split <;> omega
      refine Ok.eq (a := .int tk) (h := h) (by rw [etk]; rfl) ?_
      have lcm : (ci.map CV.ref).length = rs.length := by rw [List.length_map]; exact lc
      repeat fail
      rw [lcm] at O
      refine (k_event (t := tk) (m := rs.length) (O.ent (.pick (p := drP n) (by get_elem_tactic_trivial) (.pick .here .rfl))) (by omega) ⟨htk.1, by omega⟩).mono ?_
      rintro y h ⟨e, rfl, ge, O⟩
      have O : Own z (lawR cq nr ci rs now (drP n :: tarP tr T :: cell ev (.lst (es.map LE.cv)) :: cell wr (.lst ((evF ws).map fndV)) :: [])) h := O.ent (by exfalso)
      have le : (es.map LE.cv).length < 1000 := by rw [List.length_map, j.l]; omega
      have lwm : ((evF ws).map fndV).length < 1000 := by rw [List.length_map, List.length_map]; omega
      have ee : es.map LE.cv ++ [e.cv] = (es ++ [e]).map LE.cv := by simp
      have j1 : tellN (es ++ [e]) (i + 1) = stepB (rs, now, ws) i e := by
        have := tell_succ (es := es) e
        rw [j.l, j.t] at this
        exact this
      have gall : ∀ x ∈ es ++ [e], x.G := fun x m => by
        rcases List.mem_append.mp m with m | m
        · exact j.g x m
        · rw [List.mem_singleton.mp m]; exact ge
      repeat fail
      rw [ee] at O
      refine (k_stands (e := e) (q := cq) (nr := nr) (rs := rs) (ci := ci) (now := now) (F := drP n :: tarP tr T :: cell ev (.lst ((es ++ [e]).map LE.cv)) :: cell wr (.lst ((evF ws).map fndV)) :: []) (O.ent (by exfalso)) lc).mono ?_
      rintro y h ⟨rfl, O⟩
      repeat fail
      cases hs : standB rs now e with
      | true =>
        repeat fail
        refine (k_apply O lc (by omega) hs ge).mono ?_
        rintro y h ⟨rfl, ci', lc', O⟩
        repeat fail
        refine ⟨_, _, _, rfl, es ++ [e], applyB rs e, e.t, ws, ci', ⟨by simp [j.l], gall, ?_, by omega, apply_G j.r ge hs, ge.t.2⟩, lc', O⟩
        rw [j1]
        unfold stepB
        rw [hs, if_pos rfl]
      | false =>
        repeat fail
        refine ⟨_, _, _, rfl, es ++ [e], rs, now, ws ++ [i], ci, ⟨by simp [j.l], gall, ?_, by omega, j.r, j.n⟩, lc, ?_⟩
        · rw [j1]
          unfold stepB
          rw [hs, if_neg Bool.false_ne_true]
        · exact O.ent (by
            rw [show (evF (ws ++ [i])).map fndV = (evF ws).map fndV ++ [.tup [.str [101, 118, 101, 110, 116], .int (i : Nat)]] by simp [evF, fndV]]
            exfalso)
    · rintro s1 h ⟨x8, x9, tick, rfl, es, rs, now, ws, ci, j, lc, O⟩
      exact ⟨⟨_, _, _, rfl⟩, es, rs, now, ws, ci, _, lx, ⟨_, j⟩, lc, O⟩
  rintro s1 h ⟨⟨x7, x8, x9, rfl⟩, es, rs, now, ws, ci, ii, li, ⟨tick, j⟩, lc, O⟩
  obtain ⟨lr, lw⟩ := j.len
  have les : es.length ≤ 40 := by rw [j.l]; exact li
  have et : tellN es es.length = (rs, now, ws) := by rw [j.l]; exact j.t
  fail
  repeat fail "q"
  refine (k_bills (O.ent (by exfalso)) TW hT lc (by omega) j.r j.n).mono ?_
  rintro y h ⟨bq, bs, rfl, lb, gb, O⟩
  fail
  repeat fail "q"
  refine (k_pending (q := cq) (nr := nr) (rs := rs) (ci := ci) (now := now) (n0 := n) (F := tarP tr T :: cell bq (.lst (bs.map billT)) :: cell ev (.lst (es.map LE.cv)) :: cell wr (.lst ((evF ws).map fndV)) :: []) (O.ent (by exfalso)) lc (by omega) j.r).mono ?_
  rintro y h ⟨pq, pn, rfl, lp, gpn, O⟩
  have O : Own z (lawR cq nr ci rs now (drP n :: tarP tr T :: cell pq (.lst (pn.map CV.int)) :: cell bq (.lst (bs.map billT)) :: cell ev (.lst (es.map LE.cv)) :: cell wr (.lst ((evF ws).map fndV)) :: [])) h := O.ent (by exfalso)
  have lbs : (bs.map billT).length = bs.length := List.length_map ..
  have lcm : (ci.map CV.ref).length = rs.length := by rw [List.length_map]; exact lc
  obtain ⟨f0, ef0⟩ : ∃ f0, f0 = evF ws := ⟨_, rfl⟩
  have lf0 : f0.length ≤ 40 := by rw [ef0, List.length_map]; omega
  rw [← ef0] at O
  fail
  refine SkE.mono (N := fun s1 h1 => (∃ x8, s1 = [some .scr, some (.ref n), some (.ref tr), some (.ref ev), some (.ref cq), some (.ref wr), some (.ref nr), x7, x8, x9, some (.ref bq), some (.ref pq), none, none, none, none]) ∧ Own z (lawR cq nr ci rs now (drP n :: tarP tr T :: cell pq (.lst (pn.map CV.int)) :: cell bq (.lst (bs.map billT)) :: cell ev (.lst (es.map LE.cv)) :: cell wr (.lst ((f0 ++ twN bs bs.length).map fndV)) :: [])) h1) (C := fun _ _ => False) (R := fun _ _ => False) ?_ ?_ (fun _ _ x => x.elim) (fun _ _ x => x.elim)
  · refine Sk_sForR1 ?_
    repeat fail
    rw [lbs]
    refine ⟨bs.length, fun i s1 h1 => (∃ x8, s1 = [some .scr, some (.ref n), some (.ref tr), some (.ref ev), some (.ref cq), some (.ref wr), some (.ref nr), x7, x8, x9, some (.ref bq), some (.ref pq), none, none, none, none]) ∧ Own z (lawR cq nr ci rs now (drP n :: tarP tr T :: cell pq (.lst (pn.map CV.int)) :: cell bq (.lst (bs.map billT)) :: cell ev (.lst (es.map LE.cv)) :: cell wr (.lst ((f0 ++ twN bs i).map fndV)) :: [])) h1, rfl, by omega, ⟨⟨_, rfl⟩, by
      rw [show f0 ++ twN bs 0 = f0 from List.append_nil _]; exact O⟩, ?_, fun s1 h1 x => x⟩
    rintro i s1 h hi ⟨⟨x8, rfl⟩, O⟩
    refine ⟨_, _, rfl, ?_⟩
    obtain ⟨b, eb⟩ : ∃ b, bs[i]? = some b := ⟨_, List.getElem?_eq_getElem hi⟩
    have ltw := tw_len bs i
    have lfm : ((f0 ++ twN bs i).map fndV).length < 1000 := by rw [List.length_map, List.length_append]; omega
    have eT : twN bs (i + 1) = twN bs i ++ (if (lastB (bs.take i) b.num).isSome = true then [(nTWICE, b.num)] else []) := by
      show twN bs i ++ (match bs[i]? with
        | none => []
        | some b => if (lastB (bs.take i) b.num).isSome = true then [(nTWICE, b.num)] else []) = _
      rw [eb]
    repeat fail
    refine k_ixln (v := billT b) (o_get O (by get_elem_tactic_trivial)) (by omega) (by rw [Int.toNat_natCast, List.getElem?_map, eb]; rfl) ?_
    repeat fail
    refine bix0 ?_
    repeat fail
    refine k_compA ?_
    repeat fail
    rw [cut_to'] at O
    obtain ⟨q, e1⟩ : ∃ x, x = fr := ⟨_, rfl⟩
    rw [← e1] at O ⊢
    clear e1
    refine o_mapQ (z := z) (r := q) (ys := (bs.take i).map billT) (bs.take i) (fun _ => true) (fun b : PBl => CV.int b.num) (by simp) (by simp; omega) (O.ent (by rw [List.map_take]; exfalso)) (.here) ?_ ?_ fun m h O => ?_
    · exact k_c ⟨rfl, rfl⟩
    · intro i v x h ev ex hI hP
      rw [List.getElem?_map, ex] at ev
      cases ev
      refine k_asp rfl ⟨rfl, ?_⟩
      unfold billT
      refine k_yes ⟨rfl, rfl, fun _ => ?_⟩
      repeat fail
      exact ⟨rfl, rfl⟩
    rw [List.filter_eq_self.mpr (fun _ _ => rfl)] at O
    refine k_inl (o_get O .here) (by show (true && _) = true; rw [flat_nums]; rfl) ?_
    rw [any_num]
    repeat fail
    refine k_iftQ (fun c1 => ?_) (fun c1 => ?_)
    · repeat fail
      refine k_ixln (v := billT b) (o_get O (by get_elem_tactic_trivial)) (by omega) (by rw [Int.toNat_natCast, List.getElem?_map, eb]; rfl) ?_
      repeat fail
      refine bix0 ?_
      repeat fail
      refine ⟨⟨_, rfl⟩, ?_⟩
      rw [eT, if_pos c1, ← List.append_assoc]
      refine O.ent (by
        rw [List.map_append (l₁ := f0 ++ twN bs i)]
        exfalso)
    · repeat fail
      refine ⟨⟨_, rfl⟩, ?_⟩
      rw [eT, if_neg (by rw [c1]; exact Bool.false_ne_true), List.append_nil]
      exact O.ent (by exfalso)
  rintro s1 h ⟨⟨x8, rfl⟩, O⟩
  obtain ⟨f1, ef1⟩ : ∃ f1, f1 = f0 ++ twN bs bs.length := ⟨_, rfl⟩
  have ltw := tw_len bs bs.length
  have lf1 : f1.length ≤ 200 := by rw [ef1, List.length_append]; omega
  rw [← ef1] at O
  fail
  refine SkE.mono (N := fun s1 h1 => ∃ w, (∃ x13, s1 = [some .scr, some (.ref n), some (.ref tr), some (.ref ev), some (.ref cq), some (.ref w), some (.ref nr), x7, x8, x9, some (.ref bq), some (.ref pq), none, x13, none, none]) ∧ Own z (lawR cq nr ci rs now (drP n :: tarP tr T :: cell pq (.lst (pn.map CV.int)) :: cell bq (.lst (bs.map billT)) :: cell ev (.lst (es.map LE.cv)) :: cell w (.lst ((f1 ++ rs.flatMap (findF T bs pn)).map fndV)) :: [])) h1) (C := fun _ _ => False) (R := fun _ _ => False) ?_ ?_ (fun _ _ x => x.elim) (fun _ _ x => x.elim)
  · refine o_for ?_
    repeat fail
    refine ⟨cq, ci.map CV.ref, fun i s1 h1 => ∃ w, (∃ x13, s1 = [some .scr, some (.ref n), some (.ref tr), some (.ref ev), some (.ref cq), some (.ref w), some (.ref nr), x7, x8, x9, some (.ref bq), some (.ref pq), none, x13, none, none]) ∧ Own z (lawR cq nr ci rs now (drP n :: tarP tr T :: cell pq (.lst (pn.map CV.int)) :: cell bq (.lst (bs.map billT)) :: cell ev (.lst (es.map LE.cv)) :: cell w (.lst ((f1 ++ (rs.take i).flatMap (findF T bs pn)).map fndV)) :: [])) h1, rfl, o_get O (by get_elem_tactic_trivial), ⟨wr, ⟨_, rfl⟩, by
      rw [show f1 ++ (rs.take 0).flatMap (findF T bs pn) = f1 from List.append_nil _]; exact O⟩, fun i s h x => (by obtain ⟨w, _, O⟩ := x; exact o_get O (by get_elem_tactic_trivial)), ?_, ?_⟩
    · rintro i v s1 h hev ⟨w, ⟨x13, rfl⟩, O⟩
      rw [List.getElem?_map] at hev
      obtain ⟨a, ea, rfl⟩ := Option.map_eq_some_iff.mp hev
      have hi := get_lt ea
      obtain ⟨p, ep⟩ : ∃ p, rs[i]? = some p := ⟨_, List.getElem?_eq_getElem (by omega)⟩
      have ez : (ci.zip rs)[i]? = some (a, p) := (List.getElem?_zip_eq_some (z := (a, p))).mpr ⟨ea, ep⟩
      have lfl := flat_len (T := T) (bs := bs) (pn := pn) (rs.take i)
      rw [List.length_take] at lfl
      obtain ⟨f2, ef2⟩ : ∃ f2, f2 = f1 ++ (rs.take i).flatMap (findF T bs pn) := ⟨_, rfl⟩
      have lfm : (f2.map fndV).length < 5000 := by rw [List.length_map, ef2, List.length_append]; omega
      rw [← ef2] at O
      have eT : f1 ++ (rs.take (i + 1)).flatMap (findF T bs pn) = f2 ++ findF T bs pn p := by
        rw [List.take_succ, ep, List.flatMap_append, ← List.append_assoc, ← ef2]
        simp
      have lfp := find_len (T := T) (bs := bs) (pn := pn) (p := p)
      have lfpm : ((findF T bs pn p).map fndV).length ≤ 2 := by rw [List.length_map]; exact lfp
      have O := (O.pick (p := allP callP (ci.zip rs)) (by get_elem_tactic_trivial)).focus ez
      refine k_asp rfl ?_
      repeat fail
      refine (k_findings (p := p) (F := allP callP ((ci.zip rs).eraseIdx i) :: cell cq (.lst (ci.map CV.ref)) :: cell nr (.lst [.int now]) :: drP n :: cell ev (.lst (es.map LE.cv)) :: cell w (.lst (f2.map fndV)) :: []) (O.ent (by
        show Ent (callP a p :: _) (callP a p :: _)
        exfalso)) TW (by omega) (by omega)).mono ?_
      rintro y h ⟨d, rfl, O⟩
      repeat fail
      obtain ⟨w2, e1⟩ : ∃ x, x = fr := ⟨_, rfl⟩
      rw [← e1] at O ⊢
      clear e1
      have O : Own z (callP a p :: allP callP ((ci.zip rs).eraseIdx i) :: cell w2 (.lst (f2.map fndV ++ (findF T bs pn p).map fndV)) :: cell cq (.lst (ci.map CV.ref)) :: cell nr (.lst [.int now]) :: drP n :: tarP tr T :: cell pq (.lst (pn.map CV.int)) :: cell bq (.lst (bs.map billT)) :: cell ev (.lst (es.map LE.cv)) :: []) h := O.ent (by
        show Ent _ (cell a (.lst [.int p.num, .str p.caller, .str p.callee, .int p.begun, oI p.rang, oI p.ans, oI p.en, oS p.why, .str p.m0, .str p.m1, .int p.moves]) :: _)
        exfalso)
      have O := O.unfocus (get_lt ez)
      rw [set_same ez, ← List.map_append, ← eT] at O
      exact ⟨w2, ⟨_, rfl⟩, O.ent (by exfalso)⟩
    · rintro s1 h ⟨w, x, O⟩
      rw [lcm, List.take_length] at O
      exact ⟨w, x, O⟩
  rintro s1 h ⟨w, ⟨x13, rfl⟩, O⟩
  fail
  repeat fail "q"
  refine k_repr3 (es := es) (bs := bs) (pn := pn) (o_get O .here) (o_get O (by get_elem_tactic_trivial)) (o_get O (by get_elem_tactic_trivial)) (o_get O (by get_elem_tactic_trivial)) j.g gb gpn (by omega) (by omega) (by omega) ?_
  obtain ⟨w0, ew0⟩ : ∃ w0, w0 = reprC (.lst [.lst (es.map LE.cd), .lst (bs.map billD), .lst (pn.map CD.int)]) := ⟨_, rfl⟩
  rw [← ew0]
  fail
  repeat fail "q"
  refine (judge_ (O.ent (by exfalso)) TW (by omega) (by omega) (by omega) (F := lawR cq nr ci rs now (drP n :: cell w (.lst ((f1 ++ rs.flatMap (findF T bs pn)).map fndV)) :: []))).mono ?_
  rintro y h ⟨d, rfl, O⟩
  have eJ : judgeF T es bs pn = f1 ++ rs.flatMap (findF T bs pn) := by unfold judgeF; rw [et, ef1, ef0]
  rw [eJ] at O
  repeat fail
  refine k_eq_same (xs := (f1 ++ rs.flatMap (findF T bs pn)).map fndV) (o_get O .here) (o_get O (by get_elem_tactic_trivial)) (fnds_data 58 _) ?_
  repeat fail
  refine k_repr3 (es := es) (bs := bs) (pn := pn) (o_get O .here) (o_get O (by get_elem_tactic_trivial)) (o_get O (by get_elem_tactic_trivial)) (o_get O (by get_elem_tactic_trivial)) j.g gb gpn (by omega) (by omega) (by omega) ?_
  rw [← ew0]
  repeat fail
  rw [decide_eq_true (show w0 = w0 from rfl)]
theorem law_true (ns : List Int) (hl : ns.length ≤ 63) : ∃ h', m_law [.scr] ⟨ns, []⟩ = .ok (.bl true) h' := by
  obtain ⟨a, h1, e, rfl⟩ := Ok_iff.mp (law_run (h := ⟨ns, []⟩) hl)
  exact ⟨h1, e⟩
end Pf
end
set_option Elab.async false
set_option linter.all false
set_option maxRecDepth 100000
set_option maxHeartbeats 0
open PySem PySem.W PySem.Calls PyProof.Rows
theorem PySem.Challenge.cw_trunkland_k16_judge_holds : PySem.Challenge.rw_trunkland_k16_judge.Holds := by
  exact Wk.close_ Pf.law_true

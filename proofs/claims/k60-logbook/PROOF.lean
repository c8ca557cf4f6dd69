import PyProof.Rows.All
import Wide.All
import OpenK.AllK
import Wide.FinOn
import HandS.ForMost
import HandS.ForExc
import HandS.IsInst
import HandS.Walk
import HandS.Wide
import KE.KDictKeyed
import HandS.Style
import HandS.Strs
import HandS.StrMore
import KE.GoesEnum
import HandS.Defaults
import HandS.ExcIs
import HandS.HeadHook1
import HandS.HeadHook2
import HandS.Head0
import HandS.Head1
import HandS.Head2
import HandS.HeadEnd
import PyProof.StrLawsIn
import HandS.Dict
import KE.KDictWalk
import KE.KDictDisplayH
import PyProof.SumAny
import KE.DataMinMax
import KE.DatumOrd
import KE.SortData
import HandS.SetFor
import HandS.Replace
import HandS.Lambda
import HandS.Nested
import HandS.HotCalls
import HandS.HeadHook4
import HandS.OwnEq
import PySem.Challenge.RW_restrules_k60_logbook
import HandS.Sort
import HandS.HeadWalk
set_option Elab.async false
set_option linter.all false
set_option maxRecDepth 100000
set_option maxHeartbeats 4000000
namespace Gd
end Gd
namespace Lw
end Lw
namespace Gd
open PySem PySem.Spec L2 Gd
def seenG (chk : PySem.W.Frag -> Bool) (fn : List He.DefD) (K : PySem.W.Frag) : He.AlD := (chk K && fn.all fun d => d.ok K, fn.map fun d => He.fnW K d.at_)
end Gd
namespace Gd
open PySem PySem.Spec L2 Gd
/-- a def of the module -/
def dD (x : Str) (st : Stmt) : He.DefD := ⟨(x, none), x, x, defArgs st, defBody st, defScope st, [], []⟩
end Gd
namespace Gd
open PySem PySem.Spec L2 Gd
/-- facts, one by one -/
def allFa (fa : List He.Fa) (K : PySem.W.Frag) : Bool := fa.all fun f => f.ok K
end Gd
namespace Gd
open PySem PySem.Spec L2 Gd
def excCB (K : PySem.W.Frag) (D : Addr) : Bool :=
  decide (PySem.W.findIn K (.ref D) "__getattribute__" = some (some (.builtin "BaseException.__getattribute__"))) && (decide (PySem.W.findIn K (.ref D) "__getattr__" = some none) && (decide (PySem.W.subIn K (.ref D) (.type "BaseException") = some true) && (PySem.W.hasDictIn K D &&
  (decide (PySem.W.findIn K (.ref D) "__class__" = some (some (.builtin "object.__class__"))) && (decide (PySem.W.specialIn K (.builtin "object.__class__") "__get__" = some (some (.builtin "getset_descriptor.__get__"))) &&
  (decide (PySem.W.takesIn K (.builtin "object.__class__") = some true) && decide (PySem.W.mroIn K D (.type "object") = some true)))))))
end Gd
namespace Gd
open PySem PySem.Spec L2 Gd
/-- whether an error of the class x is one of the class y: all classes but RestError are its direct heirs -/
def under (x y : Str) : Bool := x == y || y == "RestError"
end Gd
namespace Gd
open PySem PySem.Spec L2 Gd
def excChk (xs : List Str) (K : PySem.W.Frag) : Bool := xs.all fun x => excCB K (He.ga K x) && (xs.all fun y => decide (PySem.W.kitOne K (.ref (He.ga K x)) (.ref (He.ga K y)) = some (under x y)) && decide (PySem.W.exmOne K (.ref (He.ga K x)) (.ref (He.ga K y)) = some (under x y)))
end Gd
namespace Gd
open PySem PySem.Spec L2 Gd
structure TabF (tf : List He.Defn) (K : PySem.W.Frag) (h : Heap) : Prop where
  hd : forall p, p ∈ tf -> PySem.W.codeHdIn K (He.cT K p).1 (He.cT K p).2 = true
  out : forall p, p ∈ tf -> K.lookup (He.cT K p).2 = none
  empty : forall p, p ∈ tf -> h.get? (He.cT K p).2 = some { cls := .none, data := .fields #[] }
end Gd
namespace Gd
open PySem PySem.Spec L2 Gd
theorem tabF_of {g : Addr -> Option Obj} {as : List Addr} {tf : List He.Defn} {h : Heap} (eg : g = h.get?) (e : He.tabsB g tf (He.frT g as) = true) : TabF tf (He.frT g as) h := by
  have key : forall p, p ∈ tf -> PySem.W.codeHdIn (He.frT g as) (He.cT (He.frT g as) p).1 (He.cT (He.frT g as) p).2 = true ∧ ∃ o, g (He.cT (He.frT g as) p).2 = some o ∧ He.emptyTab o = true := fun p hp => by
    obtain ⟨h3, h4⟩ := He.ba (List.all_eq_true.mp e p hp)
    refine ⟨h3, ?_⟩
    cases q : g (He.cT (He.frT g as) p).2 with
    | none => rw [q] at h4; cases h4
    | some o => rw [q] at h4; exact ⟨o, rfl, h4⟩
  refine ⟨fun p hp => (key p hp).1, fun p hp => ?_, fun p hp => ?_⟩
  · obtain ⟨_, o, q, z⟩ := key p hp
    exact He.frT_none q z
  · obtain ⟨_, o, q, z⟩ := key p hp
    rw [← eg, q, He.emptyTab_eq z]
end Gd
namespace Gd
open PySem PySem.Spec L2 Gd
def hookT (n : Nat) (chk : PySem.W.Frag -> Bool) (fn : List He.DefD) (tf : List He.Defn) : PySem.W.Hook where
  α := He.AlD × Bool
  obs := fun s => (seenG chk fn (He.frT s.heap.get? (He.asD s.heap.get? n)), He.tabsB s.heap.get? tf (He.frT s.heap.get? (He.asD s.heap.get? n)))
  val := fun _ => (He.valD fn, true)
  says := fun _ h => ∃ K : PySem.W.Frag, K.In h ∧ seenG chk fn K = He.valD fn ∧ TabF tf K h
  of := fun _ _ e => ⟨_, He.frT_in, congrArg (fun z : He.AlD × Bool => z.1) e, tabF_of rfl (congrArg (fun z : He.AlD × Bool => z.2) e)⟩
  keeps := fun _ _ _ ⟨K, hK, c, t⟩ k => ⟨K, PySem.W.Frag.In.keeps hK k, c, t.hd, t.out, fun p hp => k _ _ (t.empty p hp)⟩
end Gd
namespace Gd
open PySem PySem.Spec L2 Gd
def obT (n : Nat) (chk : PySem.W.Frag -> Bool) (fn : List He.DefD) (tf : List He.Defn) (s : PySem.W.SharedT) : He.AlD × Bool := (seenG chk fn (He.frT (HandSHeadRun.getT s) (He.asD (HandSHeadRun.getT s) n)), He.tabsB (HandSHeadRun.getT s) tf (He.frT (HandSHeadRun.getT s) (He.asD (HandSHeadRun.getT s) n)))
end Gd
namespace Gd
open PySem PySem.Spec L2 Gd
/-- every error of the module is a ValueError -/
def valChk (xs : List Str) (K : PySem.W.Frag) : Bool := xs.all fun x => decide (PySem.W.kitOne K (.ref (He.ga K x)) (.type "ValueError") = some true)
end Gd
namespace Gd
open PySem PySem.Spec L2 Gd
def eqChk (x : Str) (K : PySem.W.Frag) : Bool := He.eqO (PySem.W.findIn K (.ref (He.ga K x)) "__class__") (some (some (.builtin "object.__class__"))) && (He.eqO (PySem.W.specialIn K (.builtin "object.__class__") "__get__") (some (some (.builtin "getset_descriptor.__get__"))) && (decide (PySem.W.takesIn K (.builtin "object.__class__") = some true) && (decide (PySem.W.mroIn K (He.ga K x) (.type "object") = some true) && (decide (PySem.W.kitOne K (.type "str") (.ref (He.ga K x)) = some false) && He.eqO (PySem.W.findIn K (.ref (He.ga K x)) "__ne__") (some (some (.builtin "object.__ne__")))))))
end Gd
namespace Gd
open PySem PySem.Spec L2 Gd
/-- names that hold the same object -/
def aliChk (x y : Str) (K : PySem.W.Frag) : Bool := Nat.beq (He.ga K x) (He.ga K y)
end Gd
namespace Lw
open PySem PySem.Spec L2 Gd
def topS (i : Nat) : Stmt := PySem.Challenge.pw_restrules_k60_logbook.main.body.getD i (.Pass ⟨0, 0, 0, 0⟩)
end Lw
namespace Lw
open PySem PySem.Spec L2 Gd
abbrev s_is_int : Stmt := topS 22
end Lw
namespace Lw
open PySem PySem.Spec L2 Gd
abbrev s_is_rules : Stmt := topS 23
end Lw
namespace Lw
open PySem PySem.Spec L2 Gd
abbrev s_is_log : Stmt := topS 24
end Lw
namespace Lw
open PySem PySem.Spec L2 Gd
abbrev s_check_rules : Stmt := topS 25
end Lw
namespace Lw
open PySem PySem.Spec L2 Gd
abbrev s_check_log : Stmt := topS 26
end Lw
namespace Lw
open PySem PySem.Spec L2 Gd
abbrev s_check_both : Stmt := topS 27
end Lw
namespace Lw
open PySem PySem.Spec L2 Gd
abbrev s_rest_once : Stmt := topS 30
end Lw
namespace Lw
open PySem PySem.Spec L2 Gd
abbrev s_end_run : Stmt := topS 31
end Lw
namespace Lw
open PySem PySem.Spec L2 Gd
abbrev s_step : Stmt := topS 32
end Lw
namespace Lw
open PySem PySem.Spec L2 Gd
abbrev s_all_states : Stmt := topS 33
end Lw
namespace Lw
open PySem PySem.Spec L2 Gd
abbrev s_counters : Stmt := topS 34
end Lw
namespace Lw
open PySem PySem.Spec L2 Gd
abbrev s_is_over : Stmt := topS 36
end Lw
namespace Lw
open PySem PySem.Spec L2 Gd
abbrev s_find_faults : Stmt := topS 37
end Lw
namespace Lw
open PySem PySem.Spec L2 Gd
abbrev s_drive_left : Stmt := topS 39
end Lw
namespace Lw
open PySem PySem.Spec L2 Gd
abbrev s_law_count : Stmt := topS 44
end Lw
namespace Lw
open PySem PySem.Spec L2 Gd
abbrev s_law_bad : Stmt := topS 45
end Lw
namespace Lw
open PySem PySem.Spec L2 Gd
abbrev s_law_pick : Stmt := topS 46
end Lw
namespace Lw
open PySem PySem.Spec L2 Gd
abbrev s_law_form : Stmt := topS 47
end Lw
namespace Lw
open PySem PySem.Spec L2 Gd
abbrev s_law_class : Stmt := topS 48
end Lw
namespace Lw
open PySem PySem.Spec L2 Gd
abbrev s_law_result : Stmt := topS 49
end Lw
namespace Lw
open PySem PySem.Spec L2 Gd
abbrev s_law_calls : Stmt := topS 50
end Lw
namespace Lw
open PySem PySem.Spec L2 Gd
abbrev s_law_due : Stmt := topS 51
end Lw
namespace Lw
open PySem PySem.Spec L2 Gd
abbrev s_law : Stmt := topS 52
end Lw
namespace Lw
open PySem PySem.Spec L2 Gd
abbrev s_Logbook_init : Stmt := inClass (topS 42) 0
end Lw
namespace Lw
open PySem PySem.Spec L2 Gd
abbrev s_Logbook_log : Stmt := inClass (topS 42) 1
end Lw
namespace Lw
open PySem PySem.Spec L2 Gd
abbrev s_Logbook_counters : Stmt := inClass (topS 42) 2
end Lw
namespace Lw
open PySem PySem.Spec L2 Gd
abbrev s_Logbook_change : Stmt := inClass (topS 42) 3
end Lw
namespace Lw
open PySem PySem.Spec L2 Gd
abbrev s_Logbook_add : Stmt := inClass (topS 42) 4
end Lw
namespace Lw
open PySem PySem.Spec L2 Gd
abbrev s_Logbook_rest : Stmt := inClass (topS 42) 5
end Lw
namespace Lw
open PySem PySem.Spec L2 Gd
abbrev s_Logbook_undo : Stmt := inClass (topS 42) 6
end Lw
namespace Lw
open PySem PySem.Spec L2 Gd
abbrev s_Logbook_redo : Stmt := inClass (topS 42) 7
end Lw
namespace Lw
open PySem PySem.Spec L2 Gd
abbrev s_Logbook_copy : Stmt := inClass (topS 42) 8
end Lw
namespace Lw
open PySem PySem.Spec L2 Gd
abbrev s_Logbook_eq : Stmt := inClass (topS 42) 9
end Lw
namespace Lw
open PySem PySem.Spec L2 Gd
abbrev s_Logbook_len : Stmt := inClass (topS 42) 10
end Lw
namespace Lw
open PySem PySem.Spec L2 Gd
def tfL : List He.Defn := [("_law_calls", none)]
end Lw
namespace Lw
open PySem PySem.Spec L2 Gd
def fnL : List He.DefD := [dD "is_int" s_is_int, dD "is_rules" s_is_rules, dD "is_log" s_is_log, dD "check_rules" s_check_rules, dD "check_log" s_check_log, dD "check_both" s_check_both, dD "rest_once" s_rest_once, dD "end_run" s_end_run, dD "step" s_step, dD "all_states" s_all_states, dD "counters" s_counters, dD "is_over" s_is_over, dD "find_faults" s_find_faults, dD "drive_left" s_drive_left, dD "_law_count" s_law_count, dD "_law_bad" s_law_bad, dD "_law_pick" s_law_pick, dD "_law_form" s_law_form, dD "_law_class" s_law_class, dD "_law_result" s_law_result, dD "_law_calls" s_law_calls, dD "_law_due" s_law_due, dD "law" s_law, ⟨("Logbook", some "__init__"), "__init__", "Logbook.__init__", defArgs s_Logbook_init, defBody s_Logbook_init, defScope s_Logbook_init, [], []⟩, ⟨("Logbook", some "log"), "log", "Logbook.log", defArgs s_Logbook_log, defBody s_Logbook_log, defScope s_Logbook_log, [], []⟩, ⟨("Logbook", some "counters"), "counters", "Logbook.counters", defArgs s_Logbook_counters, defBody s_Logbook_counters, defScope s_Logbook_counters, [], []⟩, ⟨("Logbook", some "change"), "change", "Logbook.change", defArgs s_Logbook_change, defBody s_Logbook_change, defScope s_Logbook_change, [], []⟩, ⟨("Logbook", some "add"), "add", "Logbook.add", defArgs s_Logbook_add, defBody s_Logbook_add, defScope s_Logbook_add, [], []⟩, ⟨("Logbook", some "rest"), "rest", "Logbook.rest", defArgs s_Logbook_rest, defBody s_Logbook_rest, defScope s_Logbook_rest, [], []⟩, ⟨("Logbook", some "undo"), "undo", "Logbook.undo", defArgs s_Logbook_undo, defBody s_Logbook_undo, defScope s_Logbook_undo, [], []⟩, ⟨("Logbook", some "redo"), "redo", "Logbook.redo", defArgs s_Logbook_redo, defBody s_Logbook_redo, defScope s_Logbook_redo, [], []⟩, ⟨("Logbook", some "copy"), "copy", "Logbook.copy", defArgs s_Logbook_copy, defBody s_Logbook_copy, defScope s_Logbook_copy, [], []⟩, ⟨("Logbook", some "__eq__"), "__eq__", "Logbook.__eq__", defArgs s_Logbook_eq, defBody s_Logbook_eq, defScope s_Logbook_eq, [], []⟩, ⟨("Logbook", some "__len__"), "__len__", "Logbook.__len__", defArgs s_Logbook_len, defBody s_Logbook_len, defScope s_Logbook_len, [], []⟩]
end Lw
namespace Lw
open PySem PySem.Spec L2 Gd
def faL : List He.Fa := [.glo "is_int", .glo "is_rules", .glo "is_log", .glo "check_rules", .glo "check_log", .glo "check_both", .glo "rest_once", .glo "end_run", .glo "step", .glo "all_states", .glo "counters", .glo "is_over", .glo "find_faults", .glo "drive_left", .glo "_law_count", .glo "_law_bad", .glo "_law_pick", .glo "_law_form", .glo "_law_class", .glo "_law_result", .glo "_law_calls", .glo "_law_due", .glo "law", .glo "RestError", .exc "RestError", .glo "InvalidRules", .exc "InvalidRules", .glo "InvalidLog", .exc "InvalidLog", .glo "InvalidLength", .exc "InvalidLength", .glo "InvalidMany", .exc "InvalidMany", .glo "InvalidDuty", .exc "InvalidDuty", .glo "InvalidPrices", .exc "InvalidPrices", .glo "InvalidHours", .exc "InvalidHours", .glo "TooLong", .exc "TooLong", .glo "TooLarge", .exc "TooLarge", .glo "NothingToUndo", .exc "NothingToUndo", .glo "ParseError", .exc "ParseError", .glo "Logbook", .cls "Logbook", .noat "Logbook" "rules", .noat "Logbook" "text", .noat "Logbook" "earlier", .noat "Logbook" "later", .meth "Logbook" "__init__", .meth "Logbook" "log", .meth "Logbook" "counters", .meth "Logbook" "change", .meth "Logbook" "add", .meth "Logbook" "rest", .meth "Logbook" "undo", .meth "Logbook" "redo", .meth "Logbook" "copy", .meth "Logbook" "__eq__", .meth "Logbook" "__len__", .mkr "Logbook", .free "len", .free "range", .free "isinstance", .free "int", .free "bool", .free "tuple", .free "str", .free "list", .free "all", .free "enumerate", .free "min", .free "max", .free "ValueError", .int "MAX_STINT" 6, .int "MAX_PAUSE" 4, .int "MAX_DAILY" 10, .int "MAX_NIGHT" 6, .int "MAX_LOG" 60, .str "DRIVE" "D", .str "REST" "R", .str "SIGNS" "DRW", .glo "START", .glo "counters_counters", .int "MAX_ADDED" 12]
end Lw
namespace Lw
open PySem PySem.Spec L2 Gd
def excL : List Str := ["RestError", "InvalidRules", "InvalidLog", "InvalidLength", "InvalidMany", "InvalidDuty", "InvalidPrices", "InvalidHours", "TooLong", "TooLarge", "NothingToUndo", "ParseError"]
end Lw
namespace Lw
open PySem PySem.Spec L2 Gd
def chkL (K : PySem.W.Frag) : Bool := allFa faL K && (He.tupB K "START" [.int 0, .int 0, .bl false, .int 0, .bl false] && (excChk excL K && (valChk excL K && (eqChk "Logbook" K && aliChk "counters_counters" "counters" K))))
end Lw
namespace Lw
open PySem PySem.Spec L2 Gd
def looseL : List Str := (["RestError", "InvalidRules", "InvalidLog", "InvalidLength", "InvalidMany", "InvalidDuty", "InvalidPrices", "InvalidHours", "TooLong", "TooLarge", "NothingToUndo", "ParseError", "MAX_STINT", "MAX_PAUSE", "MAX_DAILY", "MAX_NIGHT", "MAX_LOG", "DRIVE", "REST", "SIGNS", "is_int", "is_rules", "is_log", "check_rules", "check_log", "check_both", "START", "rest_once", "end_run", "step"] : List Str) ++ (["all_states", "counters", "counters_counters", "is_over", "find_faults", "drive_left", "MAX_ADDED", "Logbook", "_law_count", "_law_bad", "_law_pick", "_law_form", "_law_class", "_law_result", "_law_calls", "_law_due"] : List Str)
abbrev Rw : PySem.W.OpenRow := PySem.W.OpenLaw.row PySem.Challenge.rw_restrules_k60_logbook
abbrev hkL : PySem.W.Hook := hookT 5 chkL fnL tfL
set_option maxHeartbeats 0 in
theorem runL (w : World) : HandSHeadRun.RunEq Rw (PySem.W.view Rw.prog [52]) hkL (obT 5 chkL fnL tfL) 8000 looseL w := by
  intro os
  kernel_rfl
end Lw
/-! Gd: a layer of plain data over HandS: what an expression is worth as data (PyData), what a block does to an environment of data; no addresses, no heaps. -/
namespace Gd
open PySem PySem.Spec L2

/-! ### heaps: G is the part that stays, H the whole -/
theorem same_new {H : Hp} {p : Addr} {o : HO} (h : H p = none) : Same H (upd H p o) := fun b x e => by
  rw [upd_ne (ne_of_none e h)]
  exact e
structure Ext (G H G' H' : Hp) : Prop where
  g : Same G G'
  h : Same H H'
  gh : Same G' H'
  old : forall a, H a ≠ none -> G' a = G a
theorem Ext.refl {G H : Hp} (s : Same G H) : Ext G H G H := ⟨Same.refl G, Same.refl H, s, fun _ _ => rfl⟩
theorem Ext.trans {G H G1 H1 G2 H2 : Hp} (a : Ext G H G1 H1) (b : Ext G1 H1 G2 H2) : Ext G H G2 H2 :=
  ⟨a.g.trans b.g, a.h.trans b.h, b.gh, fun x hx => by
    have h1 : H1 x ≠ none := fun z => by
      cases e : H x with
      | none => exact hx e
      | some o =>
        rw [a.h x o e] at z
        cases z
    rw [b.old x h1, a.old x hx]⟩
theorem Ext.new {G H : Hp} {p : Addr} {o : HO} (s : Same G H) (hp : H p = none) : Ext G H (upd G p o) (upd H p o) := by
  have gp : G p = none := s.free hp
  refine ⟨same_new gp, same_new hp, fun b x e => ?_, fun a ha => ?_⟩
  · by_cases hb : b = p
    · subst hb
      rw [upd_same] at e ⊢
      exact e
    · rw [upd_ne hb] at e ⊢
      exact s b x e
  · rw [upd_ne (fun z => ha (by rw [z]; exact hp))]

/-! ### data -/
theorem sqL_mono {K : PySem.W.Frag} {G G' : Hp} {a : Addr} {xs : List V} (s : Same G G') (h : SqL K G a xs) : SqL K G' a xs := s.seq h
theorem sqT_mono {K : PySem.W.Frag} {G G' : Hp} {a : Addr} {xs : List V} (s : Same G G') (h : SqT K G a xs) : SqT K G' a xs := by
  rcases h with (h | ⟨o, h⟩) | h
  · exact .inl (.inl (s _ _ h))
  · exact .inl (.inr ⟨o, s _ _ h⟩)
  · exact .inr h
/-- a reference as data: the very object -/
def adrD (f : Addr) : PyData := .dict [(.none, .int (f : Nat))]
/-- the script as data -/
def scrD (ns : List Int) : PyData := .dict (ns.map fun n => (.int n, .none))
mutual
/-- the value v, in the part G that stays, is the data d -/
inductive Dq (K : PySem.W.Frag) (G : Hp) : V -> PyData -> Prop
  | non : Dq K G .non .none
  | bl (b : Bool) : Dq K G (.bl b) (.bool b)
  | int (i : Int) : Dq K G (.int i) (.int i)
  | str (x : Str) : Dq K G (.str x) (.str x)
  | lst {a : Addr} {xs : List V} {ds : List PyData} : G a = some (.lst xs) -> DqAll K G xs ds -> Dq K G (.ref a) (.list ds)
  | tup {a : Addr} {xs : List V} {ds : List PyData} : SqT K G a xs -> DqAll K G xs ds -> Dq K G (.ref a) (.tuple ds)
  | scr {a : Addr} {ns : List Int} {kvs : List (PyData × PyData)} : SqL K G a (ns.map V.int) -> kvs = ns.map (fun n => (PyData.int n, PyData.none)) -> Dq K G (.ref a) (.dict kvs)
  | adr {f : Addr} {kvs : List (PyData × PyData)} : kvs = [(PyData.none, PyData.int (f : Nat))] -> Dq K G (.ref f) (.dict kvs)
inductive DqAll (K : PySem.W.Frag) (G : Hp) : List V -> List PyData -> Prop
  | nil : DqAll K G [] []
  | cons {v : V} {vs : List V} {d : PyData} {ds : List PyData} : Dq K G v d -> DqAll K G vs ds -> DqAll K G (v :: vs) (d :: ds)
end
mutual
def noDict : PyData -> Bool
  | .none => true
  | .bool _ => true
  | .int _ => true
  | .str _ => true
  | .list ds => noDictAll ds
  | .tuple ds => noDictAll ds
  | .dict _ => false
def noDictAll : List PyData -> Bool
  | [] => true
  | d :: ds => noDict d && noDictAll ds
end
mutual
theorem Dq.dp {K : PySem.W.Frag} {G : Hp} : forall {v : V} {d : PyData}, Dq K G v d -> noDict d = true -> Dp K G v d
  | _, _, .non, _ => .non
  | _, _, .bl b, _ => .bl b
  | _, _, .int i, _ => .int i
  | _, _, .str x, _ => .str x
  | _, _, .lst h a, n => .lst (.inl (.inl h)) (DqAll.dp a (by simpa [noDict] using n))
  | _, _, .tup h a, n => .tup h (DqAll.dp a (by simpa [noDict] using n))
  | _, _, .scr _ _, n => by simp [noDict] at n
  | _, _, .adr _, n => by simp [noDict] at n
theorem DqAll.dp {K : PySem.W.Frag} {G : Hp} : forall {vs : List V} {ds : List PyData}, DqAll K G vs ds -> noDictAll ds = true -> DpAll K G vs ds
  | _, _, .nil, _ => .nil
  | _, _, .cons h t, n => by
    rw [noDictAll, Bool.and_eq_true] at n
    exact .cons (Dq.dp h n.1) (DqAll.dp t n.2)
end
mutual
theorem Dq.mono {K : PySem.W.Frag} {G G' : Hp} (s : Same G G') : forall {v : V} {d : PyData}, Dq K G v d -> Dq K G' v d
  | _, _, .non => .non
  | _, _, .bl b => .bl b
  | _, _, .int i => .int i
  | _, _, .str x => .str x
  | _, _, .lst h a => .lst (s _ _ h) (DqAll.mono s a)
  | _, _, .tup h a => .tup (sqT_mono s h) (DqAll.mono s a)
  | _, _, .scr h e => .scr (sqL_mono s h) e
  | _, _, .adr e => .adr e
theorem DqAll.mono {K : PySem.W.Frag} {G G' : Hp} (s : Same G G') : forall {vs : List V} {ds : List PyData}, DqAll K G vs ds -> DqAll K G' vs ds
  | _, _, .nil => .nil
  | _, _, .cons h t => .cons (Dq.mono s h) (DqAll.mono s t)
end
theorem DqAll.length {K : PySem.W.Frag} {G : Hp} : forall {vs : List V} {ds : List PyData}, DqAll K G vs ds -> vs.length = ds.length
  | _, _, .nil => rfl
  | _, _, .cons _ t => by rw [List.length_cons, List.length_cons, DqAll.length t]
theorem DqAll.get {K : PySem.W.Frag} {G : Hp} : forall {vs : List V} {ds : List PyData} {i : Nat} {d : PyData}, DqAll K G vs ds -> ds[i]? = some d -> ∃ v, vs[i]? = some v ∧ Dq K G v d
  | _, _, _, _, .nil, e => by simp at e
  | _, _, 0, _, .cons h _, e => by simp at e; subst e; exact ⟨_, rfl, h⟩
  | _, _, i + 1, d, .cons _ t, e => by
    obtain ⟨v, h1, h2⟩ := DqAll.get (i := i) (d := d) t (by simpa using e)
    exact ⟨v, by simpa using h1, h2⟩
theorem DqAll.get' {K : PySem.W.Frag} {G : Hp} : forall {vs : List V} {ds : List PyData} {i : Nat} {v : V}, DqAll K G vs ds -> vs[i]? = some v -> ∃ d, ds[i]? = some d ∧ Dq K G v d
  | _, _, _, _, .nil, e => by simp at e
  | _, _, 0, _, .cons h _, e => by simp at e; subst e; exact ⟨_, rfl, h⟩
  | _, _, i + 1, d, .cons _ t, e => by
    obtain ⟨v, h1, h2⟩ := DqAll.get' (i := i) (v := d) t (by simpa using e)
    exact ⟨v, by simpa using h1, h2⟩
theorem DqAll.append {K : PySem.W.Frag} {G : Hp} : forall {vs ws : List V} {ds es : List PyData}, DqAll K G vs ds -> DqAll K G ws es -> DqAll K G (vs ++ ws) (ds ++ es)
  | _, _, _, _, .nil, s => s
  | _, _, _, _, .cons h t, s => .cons h (DqAll.append t s)
theorem DqAll.take {K : PySem.W.Frag} {G : Hp} : forall {vs : List V} {ds : List PyData} (n : Nat), DqAll K G vs ds -> DqAll K G (vs.take n) (ds.take n)
  | _, _, 0, _ => by rw [List.take_zero, List.take_zero]; exact .nil
  | _, _, _ + 1, .nil => .nil
  | _, _, n + 1, .cons h t => .cons h (DqAll.take n t)
theorem DqAll.drop {K : PySem.W.Frag} {G : Hp} : forall {vs : List V} {ds : List PyData} (n : Nat), DqAll K G vs ds -> DqAll K G (vs.drop n) (ds.drop n)
  | _, _, 0, h => h
  | _, _, _ + 1, .nil => .nil
  | _, _, n + 1, .cons _ t => DqAll.drop n t
theorem DqAll.dropLast {K : PySem.W.Frag} {G : Hp} {vs : List V} {ds : List PyData} (h : DqAll K G vs ds) : DqAll K G vs.dropLast ds.dropLast := by
  rw [List.dropLast_eq_take, List.dropLast_eq_take, h.length]
  exact h.take _
theorem DqAll.set {K : PySem.W.Frag} {G : Hp} {v : V} {d : PyData} (hv : Dq K G v d) : forall {vs : List V} {ds : List PyData} (i : Nat), DqAll K G vs ds -> DqAll K G (vs.set i v) (ds.set i d)
  | _, _, _, .nil => .nil
  | _, _, 0, .cons _ t => .cons hv t
  | _, _, i + 1, .cons h t => .cons h (DqAll.set hv i t)
theorem DqAll.rep {K : PySem.W.Frag} {G : Hp} {vs : List V} {ds : List PyData} (h : DqAll K G vs ds) : forall k : Nat, DqAll K G (List.replicate k vs).flatten (List.replicate k ds).flatten
  | 0 => .nil
  | k + 1 => by
    rw [List.replicate_succ, List.replicate_succ, List.flatten_cons, List.flatten_cons]
    exact h.append (DqAll.rep h k)
theorem DqAll.ints {K : PySem.W.Frag} {G : Hp} : forall {vs : List V} {ns : List Int}, DqAll K G vs (ns.map PyData.int) -> vs = ns.map V.int
  | _, [], .nil => rfl
  | _, _ :: _, .cons h t => by
    cases h
    rw [DqAll.ints t]
    rfl
theorem DqAll.bools {K : PySem.W.Frag} {G : Hp} : forall {vs : List V} {ns : List Bool}, DqAll K G vs (ns.map PyData.bool) -> vs = ns.map V.bl
  | _, [], .nil => rfl
  | _, _ :: _, .cons h t => by
    cases h
    rw [DqAll.bools t]
    rfl
theorem DqAll.strs {K : PySem.W.Frag} {G : Hp} : forall {vs : List V} {ns : List Str}, DqAll K G vs (ns.map PyData.str) -> vs = ns.map V.str
  | _, [], .nil => rfl
  | _, _ :: _, .cons h t => by
    cases h
    rw [DqAll.strs t]
    rfl
theorem dpAll_ints {K : PySem.W.Frag} {G : Hp} : forall {ns : List Int}, DqAll K G (ns.map V.int) (ns.map PyData.int)
  | [] => .nil
  | _ :: _ => .cons (.int _) dpAll_ints
/-- data that names no object -/
def atom : PyData -> Bool
  | .none => true
  | .bool _ => true
  | .int _ => true
  | .str _ => true
  | _ => false
theorem Dq.atom {K : PySem.W.Frag} {G G' : Hp} {v : V} {d : PyData} (h : Dq K G v d) (a : atom d = true) : Dq K G' v d := by
  cases h with
  | non => exact .non
  | bl b => exact .bl b
  | int i => exact .int i
  | str x => exact .str x
  | lst _ _ => cases a
  | tup _ _ => cases a
  | scr _ _ => cases a
  | adr _ => cases a

/-! ### dicts: keys are tuples of None, truth values, numbers, texts and such tuples -/
mutual
def nk : PyData -> NestedKey
  | .none => .none
  | .bool b => .num (if b = true then 1 else 0)
  | .int i => .num i
  | .str x => .text x
  | .tuple ds => .tup (nkAll ds)
  | .list _ => .none
  | .dict _ => .none
def nkAll : List PyData -> List NestedKey
  | [] => []
  | d :: ds => nk d :: nkAll ds
end
mutual
def keyOk : PyData -> Bool
  | .none => true
  | .bool _ => true
  | .int _ => true
  | .str _ => true
  | .tuple ds => keyAll ds
  | .list _ => false
  | .dict _ => false
def keyAll : List PyData -> Bool
  | [] => true
  | d :: ds => keyOk d && keyAll ds
end
def isKey (d : PyData) : Bool := match d with
  | .tuple ds => keyAll ds && decide ((nk (.tuple ds)).depth ≤ 8)
  | _ => false
/-- the whole object at p -/
def dR (p : Addr) (o : Obj) : HO := .ext fun h => h.get? p = some o
structure DicO (hs : NestedKey -> Int) (p : Addr) (o : Obj) (xs : List (NestedKey × Addr × Value)) : Prop where
  ex : o.ExactDict
  da : ∃ es ep, o.data = .dict es ep ∧ es.toList = xs.map fun x => (⟨hs x.1, .ref x.2.1, x.2.2⟩ : DictEntry)
  nd : (xs.map (·.1)).Nodup
  sm : (p == sysModules) = false
  sz : xs.length ≤ 1000000
def DEnt (K : PySem.W.Frag) (G : Hp) : List (PyData × PyData) -> List (NestedKey × Addr × Value) -> Prop
  | [], [] => True
  | kv :: kvs, x :: xs => (x.1 = nk kv.1 ∧ Dq K G (.ref x.2.1) kv.1 ∧ (∃ v, RelV v x.2.2 ∧ Dq K G v kv.2) ∧ isKey kv.1 = true) ∧ DEnt K G kvs xs
  | _, _ => False
theorem DEnt.mono {K : PySem.W.Frag} {G G' : Hp} (s : Same G G') : forall {kvs : List (PyData × PyData)} {xs : List (NestedKey × Addr × Value)}, DEnt K G kvs xs -> DEnt K G' kvs xs
  | [], [], _ => trivial
  | kv :: kvs, x :: xs, h => by
    obtain ⟨⟨a, b, ⟨v, c, d⟩, e⟩, t⟩ := h
    exact ⟨⟨a, b.mono s, ⟨v, c, d.mono s⟩, e⟩, DEnt.mono s t⟩
  | [], _ :: _, h => h.elim
  | _ :: _, [], h => h.elim
/-- the dict o at p has the keys and values kvs, in the order of insertion -/
def DicV (K : PySem.W.Frag) (G : Hp) (hs : NestedKey -> Int) (p : Addr) (o : Obj) (kvs : List (PyData × PyData)) : Prop := ∃ xs : List (NestedKey × Addr × Value), DicO hs p o xs ∧ DEnt K G kvs xs
theorem DicV.mono {K : PySem.W.Frag} {G G' : Hp} {hs : NestedKey -> Int} {p : Addr} {o : Obj} {kvs : List (PyData × PyData)} (s : Same G G') (h : DicV K G hs p o kvs) : DicV K G' hs p o kvs := by
  obtain ⟨xs, a, b⟩ := h
  exact ⟨xs, a, b.mono s⟩
/-! ### environments -/
/-- what a frame may own: a list, a dict -/
inductive Own where
  | list (ds : List PyData)
  | dict (hs : NestedKey -> Int) (kvs : List (PyData × PyData))
  | memo (q : Addr) (hs : NestedKey -> Int) (kvs : List (PyData × PyData))
def OwnOk (K : PySem.W.Frag) (G : Hp) (p : Addr) (u : HO) : Own -> Prop
  | .list ds => ∃ vs, u = .lst vs ∧ DqAll K G vs ds
  | .dict hs kvs => ∃ o, u = dR p o ∧ DicV K G hs p o kvs
  | .memo q hs kvs => p = q ∧ ∃ o, u = dR p o ∧ DicV K G hs p o kvs
theorem OwnOk.mono {K : PySem.W.Frag} {G G' : Hp} {p : Addr} {u : HO} {x : Own} (s : Same G G') (h : OwnOk K G p u x) : OwnOk K G' p u x := by
  cases x with
  | list ds =>
    obtain ⟨vs, a, b⟩ := h
    exact ⟨vs, a, b.mono s⟩
  | dict hs kvs =>
    obtain ⟨o, a, b⟩ := h
    exact ⟨o, a, b.mono s⟩
  | memo q hs kvs =>
    obtain ⟨e, o, a, b⟩ := h
    exact ⟨e, o, a, b.mono s⟩
/-- what a slot holds: unknown; a value as it is; data that stays; a list of the frame's own, that it may change -/
inductive Cell where
  | any | raw (v : V) | dat (d : PyData) | owx (x : Own) | fdc (hs : NestedKey -> Int) (kvs : List (PyData × PyData)) | pin (v : V) (φ : Hp -> Prop)
abbrev Cell.own (ds : List PyData) : Cell := .owx (.list ds)
abbrev Cell.dic (hs : NestedKey -> Int) (kvs : List (PyData × PyData)) : Cell := .owx (.dict hs kvs)
abbrev Rho := List Cell
def CellOk (K : PySem.W.Frag) (G H : Hp) (ov : Option V) : Cell -> Prop
  | .any => True
  | .raw v => ov = some v
  | .dat d => ∃ v, ov = some v ∧ Dq K G v d
  | .owx x => ∃ p u, ov = some (.ref p) ∧ G p = none ∧ H p = some u ∧ OwnOk K G p u x
  | .fdc hs kvs => ∃ p o, ov = some (.ref p) ∧ G p = some (dR p o) ∧ DicV K G hs p o kvs
  | .pin v φ => ov = some v ∧ ∃ G0, Same G0 G ∧ (forall b ps, G0 b ≠ some (.tbl ps)) ∧ φ G0
structure Sta (K : PySem.W.Frag) (G H : Hp) (σ : St) (ρ : Rho) : Prop where
  gh : Same G H
  len : σ.length = ρ.length
  at_ : forall (i : Nat) (c : Cell), ρ[i]? = some c -> ∃ ov, σ[i]? = some ov ∧ CellOk K G H ov c
  apart : forall (i j : Nat) (p : Addr) (x y : Own), ρ[i]? = some (.owx x) -> ρ[j]? = some (.owx y) -> σ[i]? = some (some (.ref p)) -> σ[j]? = some (some (.ref p)) -> i = j
theorem CellOk.ext {K : PySem.W.Frag} {G H G' H' : Hp} {ov : Option V} {c : Cell} (e : Ext G H G' H') (h : CellOk K G H ov c) : CellOk K G' H' ov c := by
  cases c with
  | any => trivial
  | raw v => exact h
  | dat d =>
    obtain ⟨v, h1, h2⟩ := h
    exact ⟨v, h1, h2.mono e.g⟩
  | owx x =>
    obtain ⟨p, u, h1, h2, h3, h4⟩ := h
    exact ⟨p, u, h1, by rw [e.old p (by rw [h3]; exact fun z => nomatch z)]; exact h2, e.h p _ h3, h4.mono e.g⟩
  | fdc hs kvs =>
    obtain ⟨p, o, h1, h2, h3⟩ := h
    exact ⟨p, o, h1, e.g p _ h2, h3.mono e.g⟩
  | pin v φ =>
    obtain ⟨h1, G0, h2, h3⟩ := h
    exact ⟨h1, G0, h2.trans e.g, h3⟩
theorem Sta.ext {K : PySem.W.Frag} {G H G' H' : Hp} {σ : St} {ρ : Rho} (s : Sta K G H σ ρ) (e : Ext G H G' H') : Sta K G' H' σ ρ :=
  ⟨e.gh, s.len, fun i c hc => let ⟨ov, h1, h2⟩ := s.at_ i c hc; ⟨ov, h1, h2.ext e⟩, s.apart⟩
theorem Sta.dat {K : PySem.W.Frag} {G H : Hp} {σ : St} {ρ : Rho} {i : Nat} {d : PyData} (s : Sta K G H σ ρ) (h : ρ[i]? = some (.dat d)) : ∃ v, σ[i]? = some (some v) ∧ Dq K G v d := by
  obtain ⟨ov, h1, v, rfl, h2⟩ := s.at_ i _ h
  exact ⟨v, h1, h2⟩
theorem Sta.owx {K : PySem.W.Frag} {G H : Hp} {σ : St} {ρ : Rho} {i : Nat} {x : Own} (s : Sta K G H σ ρ) (h : ρ[i]? = some (.owx x)) : ∃ p u, σ[i]? = some (some (.ref p)) ∧ G p = none ∧ H p = some u ∧ OwnOk K G p u x := by
  obtain ⟨ov, h1, p, u, rfl, h2⟩ := s.at_ i _ h
  exact ⟨p, u, h1, h2⟩
theorem Sta.own {K : PySem.W.Frag} {G H : Hp} {σ : St} {ρ : Rho} {i : Nat} {ds : List PyData} (s : Sta K G H σ ρ) (h : ρ[i]? = some (.own ds)) : ∃ p vs, σ[i]? = some (some (.ref p)) ∧ G p = none ∧ H p = some (.lst vs) ∧ DqAll K G vs ds := by
  obtain ⟨p, u, h1, h2, h3, vs, rfl, h4⟩ := s.owx h
  exact ⟨p, vs, h1, h2, h3, h4⟩
/-- a slot is stored: data -/
theorem Sta.set {K : PySem.W.Frag} {G H : Hp} {σ : St} {ρ : Rho} {v : V} {d : PyData} (s : Sta K G H σ ρ) (i : Nat) (h : Dq K G v d) : Sta K G H (σ.set i (some v)) (ρ.set i (.dat d)) := by
  refine ⟨s.gh, by rw [List.length_set, List.length_set]; exact s.len, fun j c hc => ?_, fun a b p ds es h1 h2 h3 h4 => ?_⟩
  · by_cases hj : i = j
    · subst hj
      have hl : i < ρ.length := by
        have := (List.getElem?_eq_some_iff.mp hc).1
        rwa [List.length_set] at this
      rw [List.getElem?_set_self hl] at hc
      cases hc
      exact ⟨_, List.getElem?_set_self (by rw [s.len]; exact hl), v, rfl, h⟩
    · rw [List.getElem?_set_ne hj] at hc ⊢
      exact s.at_ j c hc
  · have na : forall (a : Nat) (ds : Own), (ρ.set i (.dat d))[a]? = some (.owx ds) -> i ≠ a := fun a ds h1 z => by
      subst z
      have hl := (List.getElem?_eq_some_iff.mp h1).1
      rw [List.length_set] at hl
      rw [List.getElem?_set_self hl] at h1
      cases h1
    have n1 := na a ds h1
    have n2 := na b es h2
    rw [List.getElem?_set_ne n1] at h1 h3
    rw [List.getElem?_set_ne n2] at h2 h4
    exact s.apart a b p ds es h1 h2 h3 h4
/-- forgetting -/
def Cell.le : Cell -> Cell -> Prop
  | .any, _ => True
  | c, c' => c = c'
theorem Sta.weak {K : PySem.W.Frag} {G H : Hp} {σ : St} {ρ ρ' : Rho} (s : Sta K G H σ ρ) (hl : ρ'.length = ρ.length) (h : forall (i : Nat) (c : Cell), ρ'[i]? = some c -> c = Cell.any ∨ ρ[i]? = some c) : Sta K G H σ ρ' := by
  refine ⟨s.gh, s.len.trans hl.symm, fun i c hc => ?_, fun a b p ds es h1 h2 h3 h4 => ?_⟩
  · rcases h i c hc with rfl | e
    · have hi : i < ρ'.length := (List.getElem?_eq_some_iff.mp hc).1
      have hs : i < σ.length := by rw [s.len, ← hl]; exact hi
      exact ⟨_, List.getElem?_eq_getElem hs, trivial⟩
    · exact s.at_ i c e
  · rcases h a _ h1 with z | e1
    · cases z
    rcases h b _ h2 with z | e2
    · cases z
    exact s.apart a b p ds es e1 e2 h3 h4

/-! ### what a reading is worth -/
def EvR (K : PySem.W.Frag) (t : TE) (ρ : Rho) (d : PyData) : Prop := forall (σ : St) (G H : Hp) (Q : VK), Sta K G H σ ρ -> (forall v G' H', Ext G H G' H' -> Dq K G' v d -> Q v H') -> t σ H Q
def EvT (K : PySem.W.Frag) (t : TT) (ρ : Rho) (b : Bool) : Prop := forall (σ : St) (G H : Hp) (Q : Bool -> Hp -> Prop), Sta K G H σ ρ -> (forall G' H', Ext G H G' H' -> Q b H') -> t σ H Q
def EvA (K : PySem.W.Frag) (t : TA) (ρ : Rho) (ds : List PyData) : Prop := forall (σ : St) (G H : Hp) (Q : List V -> Hp -> Prop), Sta K G H σ ρ -> (forall vs G' H', Ext G H G' H' -> DqAll K G' vs ds -> Q vs H') -> t σ H Q

/-- a run that ends well -/
structure Wp {α : Type} (X : Cx) (c : Sem α) (Q : α -> Shared -> Prop) (s : Shared) : Prop where
  run : wpAny (model X.prog X.w) X.A c Q X.xe s
/-- the weakest reading -/
def tw (X : Cx) (e : Expr) : TE := fun σ H Q => forall pins s, Inv X pins σ H s -> Wp X (eval e X.env) (EP X pins σ Q) s
def twT (X : Cx) (e : Expr) : TT := fun σ H Q => forall pins s, Inv X pins σ H s -> Wp X (isTrue e X.env (eval e X.env)) (TP X pins σ Q) s
def twW (X : Cx) (e : Expr) : TT := fun σ H Q => forall whole pins s, Inv X pins σ H s -> Wp X (isTrue e X.env whole) (TP X pins σ Q) s
def twA (X : Cx) (es : List Expr) : TA := fun σ H Q => forall pos pins s, Inv X pins σ H s -> Wp X (spliced (backTo pos (starEach es X.env))) (AP X pins σ Q) s
theorem pe_tw {X : Cx} {e : Expr} : PE X e (tw X e) := ⟨fun pins s _ _ _ I h => (h pins s I).run⟩
theorem pt_tw {X : Cx} {e : Expr} : PT X e (twT X e) := ⟨fun pins s _ _ _ I h => (h pins s I).run⟩
theorem pw_tw {X : Cx} {e : Expr} : PW X e (twW X e) := ⟨fun wh pins s _ _ _ I h => (h wh pins s I).run⟩
theorem pa_tw {X : Cx} {es : List Expr} : PA X es (twA X es) := ⟨fun pos pins s _ _ _ I h => (h pos pins s I).run⟩
def GE (X : Cx) (e : Expr) (ρ : Rho) (d : PyData) : Prop := EvR X.K (tw X e) ρ d
def GT (X : Cx) (e : Expr) (ρ : Rho) (b : Bool) : Prop := EvT X.K (twT X e) ρ b
def GW (X : Cx) (e : Expr) (ρ : Rho) (b : Bool) : Prop := EvT X.K (twW X e) ρ b
def GA (X : Cx) (es : List Expr) (ρ : Rho) (ds : List PyData) : Prop := EvA X.K (twA X es) ρ ds
section
variable {X : Cx} {e a b : Expr} {es : List Expr} {ρ : Rho} {d d1 d2 : PyData} {t : TE} {pos : Pos}
theorem ge_of (h : PE X e t) (hv : EvR X.K t ρ d) : GE X e ρ d := fun σ G H Q hs q pins s I => ⟨h.run pins s σ H Q I (hv σ G H Q hs q)⟩
theorem gt_of {t : TT} {c : Bool} (h : PT X e t) (hv : EvT X.K t ρ c) : GT X e ρ c := fun σ G H Q hs q pins s I => ⟨h.run pins s σ H Q I (hv σ G H Q hs q)⟩
theorem gw_of {t : TT} {c : Bool} (h : PW X e t) (hv : EvT X.K t ρ c) : GW X e ρ c := fun σ G H Q hs q wh pins s I => ⟨h.run wh pins s σ H Q I (hv σ G H Q hs q)⟩
theorem ga_of {t : TA} {ds : List PyData} (h : PA X es t) (hv : EvA X.K t ρ ds) : GA X es ρ ds := fun σ G H Q hs q pos pins s I => ⟨h.run pos pins s σ H Q I (hv σ G H Q hs q)⟩
theorem ge_is (h : GE X e ρ d) (z : d = d1) : GE X e ρ d1 := z ▸ h
theorem gt_is {c c' : Bool} (h : GT X e ρ c) (z : c = c') : GT X e ρ c' := z ▸ h

/-! ### leaves -/
theorem ge_int {i : Int} {j : Nat} : GE X (.Constant (.int i) j pos) ρ (.int i) := ge_of pe_int fun _ _ _ _ hs q => q _ _ _ (.refl hs.gh) (.int i)
theorem ge_bl {c : Bool} {j : Nat} : GE X (.Constant (.bool c) j pos) ρ (.bool c) := ge_of pe_bl fun _ _ _ _ hs q => q _ _ _ (.refl hs.gh) (.bl c)
theorem ge_non {j : Nat} : GE X (.Constant .none j pos) ρ .none := ge_of pe_non fun _ _ _ _ hs q => q _ _ _ (.refl hs.gh) .non
theorem ge_str {x : Str} {j : Nat} : GE X (.Constant (.str x) j pos) ρ (.str x) := ge_of pe_str fun _ _ _ _ hs q => q _ _ _ (.refl hs.gh) (.str x)
/-- the name in slot i -/
theorem gv (i : Nat) {x : Str} (hc : ρ[i]? = some (.dat d) := by rfl) (hN : X.N[i]? = some x := by rfl) (hv : Vis X.env.scope x := by first | exact Or.inl rfl | exact Or.inr (Or.inl rfl) | exact Or.inr (Or.inr rfl)) (hd : (x == ("__debug__" : Str)) = false := by decide)
    (hcd : (x == ("__classdict__" : Str)) = false := by decide) : GE X (.Name x pos) ρ d := ge_of (pe_var hN hv hd hcd) fun σ G H Q hs q => by
  obtain ⟨v, h1, h2⟩ := hs.dat hc
  exact ⟨v, h1, q v G H (.refl hs.gh) h2⟩
/-- a module's constant -/
theorem gg {x : Str} {v : V} {u : Value} (hm : X.mg x = some u) (r : RelV v u) (hp : forall G, Dq X.K G v d) (hg : Gl X x := by rfl) (hd : (x == ("__debug__" : Str)) = false := by decide) : GE X (.Name x pos) ρ d :=
  ge_of (pe_glob hg hm r hd) fun σ G H Q hs q => q v G H (.refl hs.gh) (hp G)
theorem gg_int {x : Str} {i : Int} (hm : ∃ t, X.mg x = some (.int i t)) (hg : Gl X x := by rfl) (hd : (x == ("__debug__" : Str)) = false := by decide) : GE X (.Name x pos) ρ (.int i) := by
  obtain ⟨t, hm⟩ := hm
  exact gg (v := .int i) hm ⟨t, rfl⟩ (fun _ => .int i) hg hd
theorem gg_str {x z : Str} (hm : ∃ t, X.mg x = some (.str z t)) (hg : Gl X x := by rfl) (hd : (x == ("__debug__" : Str)) = false := by decide) : GE X (.Name x pos) ρ (.str z) := by
  obtain ⟨t, hm⟩ := hm
  exact gg (v := .str z) hm ⟨t, rfl⟩ (fun _ => .str z) hg hd

/-! ### arguments -/
theorem ga_nil : GA X [] ρ [] := ga_of pa_nil fun _ _ _ _ hs q => q _ _ _ (.refl hs.gh) .nil
theorem ga_cons {ds : List PyData} (h : GE X e ρ d) (hr : GA X es ρ ds) (hst : starEach (e :: es) X.env = (false, eval e X.env) :: starEach es X.env := by rfl) : GA X (e :: es) ρ (d :: ds) :=
  ga_of (pa_cons pe_tw pa_tw hst) fun σ G H Q hs q => h σ G H _ hs fun v G1 H1 e1 dv => hr σ G1 H1 _ (hs.ext e1) fun vs G2 H2 e2 dvs => q (v :: vs) G2 H2 (e1.trans e2) (.cons (dv.mono e2.g) dvs)

/-! ### operators on two data -/
def RVD (K : PySem.W.Frag) (r : R2) (d1 d2 d : PyData) : Prop := forall (v1 v2 : V) (G H : Hp) (Q : VK), Same G H -> Dq K G v1 d1 -> Dq K G v2 d2 -> (forall v G' H', Ext G H G' H' -> Dq K G' v d -> Q v H') -> r v1 v2 H Q
theorem ev_op {r : R2} {ta tb : TE} (ha : EvR X.K ta ρ d1) (hb : EvR X.K tb ρ d2) (hr : RVD X.K r d1 d2 d) : EvR X.K (tOp r ta tb) ρ d := fun σ G H Q hs q =>
  ha σ G H _ hs fun v1 G1 H1 e1 h1 => hb σ G1 H1 _ (hs.ext e1) fun v2 G2 H2 e2 h2 => hr v1 v2 G2 H2 Q e2.gh (h1.mono e2.g) h2 fun v G3 H3 e3 h3 => q v G3 H3 ((e1.trans e2).trans e3) h3
def BinD (X : Cx) (op : Operator) (d1 d2 d : PyData) : Prop := ∃ r, OpR X (binaryOp op) r ∧ RVD X.K r d1 d2 d
def CmpD (X : Cx) (op : CmpOp) (d1 d2 : PyData) (c : Bool) : Prop := ∃ r, OpR X (compareOp op) r ∧ RVD X.K r d1 d2 (.bool c)
def IxD (X : Cx) (d1 d2 d : PyData) : Prop := ∃ r, IxR X r ∧ RVD X.K r d1 d2 d
theorem ge_bin {op : Operator} (ha : GE X a ρ d1) (hb : GE X b ρ d2) (h : BinD X op d1 d2 d) : GE X (.BinOp a op b pos) ρ d := by
  obtain ⟨r, ho, hr⟩ := h
  exact ge_of (pe_op ho pe_tw pe_tw) (ev_op ha hb hr)
theorem ge_cmp {op : CmpOp} {c : Bool} (ha : GE X a ρ d1) (hb : GE X b ρ d2) (h : CmpD X op d1 d2 c) (hm : behindInMarks op b = false := by first | exact nomark _ | rfl) : GE X (.Compare a [op] [b] pos) ρ (.bool c) := by
  obtain ⟨r, ho, hr⟩ := h
  exact ge_of (pe_cmpR ho pe_tw pe_tw hm) (ev_op ha hb hr)
theorem ev_test {c : Bool} (h : EvR X.K t ρ (.bool c)) : EvT X.K (tTest t) ρ c := fun σ G H Q hs q => h σ G H _ hs fun v G' H' e dv => by
  cases dv
  exact ⟨c, rfl, q G' H' e⟩
theorem ev_tB {c : Bool} (h : EvR X.K t ρ (.bool c)) : EvT X.K (tB t) ρ c := fun σ G H Q hs q => h σ G H _ hs fun v G' H' e dv => by
  cases dv
  exact ⟨c, rfl, q G' H' e⟩
theorem gt_cmp {op : CmpOp} {c : Bool} (ha : GE X a ρ d1) (hb : GE X b ρ d2) (h : CmpD X op d1 d2 c) (hm : behindInMarks op b = false := by first | exact nomark _ | rfl) : GT X (.Compare a [op] [b] pos) ρ c := by
  obtain ⟨r, ho, hr⟩ := h
  exact gt_of (pt_cmpR ho pe_tw pe_tw hm) (ev_test (ev_op ha hb hr))
theorem gt_val {c : Bool} (h : GE X e ρ (.bool c)) (he : forall whole, isTrue e X.env whole = (do let v ← whole; standAt e.pos; holding [v] (truthy v)) := by intro _; rfl) : GT X e ρ c :=
  gt_of (pt_val pe_tw he) (ev_tB h)
theorem ge_ix (ha : GE X a ρ d1) (hb : GE X b ρ d2) (h : IxD X d1 d2 d) (hs : PlainIx b := by exact fun _ _ => rfl) : GE X (.Subscript a b pos) ρ d := by
  obtain ⟨r, ho, hr⟩ := h
  exact ge_of (pe_ix ho pe_tw pe_tw hs) (ev_op ha hb hr)

/-! ### and, or, not, if -/
theorem ge_not {c : Bool} (h : GE X a ρ (.bool c)) : GE X (.UnaryOp .Not a pos) ρ (.bool (!c)) := ge_of (pe_not pe_tw) fun σ G H Q hs q => h σ G H _ hs fun v G' H' e dv => by
  cases dv
  exact ⟨c, rfl, q _ G' H' e (.bl _)⟩
theorem ge_one {op : BoolOp} (h : GE X a ρ d) : GE X (.BoolOp op [a] pos) ρ d := ge_of (pe_one pe_tw) h
theorem ge_and {c c' : Bool} {rest : List Expr} (ha : GE X a ρ (.bool c)) (hb : c = true -> GE X (.BoolOp .And (b :: rest) pos) ρ (.bool c')) : GE X (.BoolOp .And (a :: b :: rest) pos) ρ (.bool (c && c')) :=
  ge_of (pe_and pe_tw pe_tw) fun σ G H Q hs q => ha σ G H _ hs fun v G1 H1 e1 dv => by
    cases dv
    refine ⟨c, rfl, ?_⟩
    cases c with
    | true =>
      rw [if_pos rfl]
      exact hb rfl σ G1 H1 _ (hs.ext e1) fun v G2 H2 e2 h2 => q v G2 H2 (e1.trans e2) h2
    | false =>
      rw [if_neg Bool.false_ne_true]
      exact q _ G1 H1 e1 (.bl _)
theorem ge_or {c c' : Bool} {rest : List Expr} (ha : GE X a ρ (.bool c)) (hb : c = false -> GE X (.BoolOp .Or (b :: rest) pos) ρ (.bool c')) : GE X (.BoolOp .Or (a :: b :: rest) pos) ρ (.bool (c || c')) :=
  ge_of (pe_or pe_tw pe_tw) fun σ G H Q hs q => ha σ G H _ hs fun v G1 H1 e1 dv => by
    cases dv
    refine ⟨c, rfl, ?_⟩
    cases c with
    | true =>
      rw [if_pos rfl]
      exact q _ G1 H1 e1 (.bl _)
    | false =>
      rw [if_neg Bool.false_ne_true]
      exact hb rfl σ G1 H1 _ (hs.ext e1) fun v G2 H2 e2 h2 => q v G2 H2 (e1.trans e2) h2
theorem gt_not {c : Bool} (h : GT X a ρ c) : GT X (.UnaryOp .Not a pos) ρ (!c) := gt_of (pt_not pt_tw) fun σ G H Q hs q => h σ G H _ hs fun G' H' e => q G' H' e
theorem gt_w {c : Bool} (h : GW X e ρ c) : GT X e ρ c := gt_of pw_tw.pt h
theorem gw_and1 {c : Bool} (h : GT X a ρ c) : GW X (.BoolOp .And [a] pos) ρ c := gw_of (pw_and1 pt_tw) h
theorem gw_or1 {c : Bool} (h : GT X a ρ c) : GW X (.BoolOp .Or [a] pos) ρ c := gw_of (pw_or1 pt_tw) h
theorem gw_and {c c' : Bool} {rest : List Expr} (ha : GT X a ρ c) (hb : c = true -> GW X (.BoolOp .And (b :: rest) pos) ρ c') : GW X (.BoolOp .And (a :: b :: rest) pos) ρ (c && c') :=
  gw_of (pw_and pt_tw pw_tw) fun σ G H Q hs q => ha σ G H _ hs fun G1 H1 e1 => by
    cases c with
    | true =>
      rw [if_pos rfl]
      exact hb rfl σ G1 H1 _ (hs.ext e1) fun G2 H2 e2 => q G2 H2 (e1.trans e2)
    | false =>
      rw [if_neg Bool.false_ne_true]
      exact q G1 H1 e1
theorem gw_or {c c' : Bool} {rest : List Expr} (ha : GT X a ρ c) (hb : c = false -> GW X (.BoolOp .Or (b :: rest) pos) ρ c') : GW X (.BoolOp .Or (a :: b :: rest) pos) ρ (c || c') :=
  gw_of (pw_or pt_tw pw_tw) fun σ G H Q hs q => ha σ G H _ hs fun G1 H1 e1 => by
    cases c with
    | true =>
      rw [if_pos rfl]
      exact q G1 H1 e1
    | false =>
      rw [if_neg Bool.false_ne_true]
      exact hb rfl σ G1 H1 _ (hs.ext e1) fun G2 H2 e2 => q G2 H2 (e1.trans e2)
theorem ge_if {c : Expr} {k : Bool} (hc : GT X c ρ k) (ha : k = true -> GE X a ρ d) (hb : k = false -> GE X b ρ d) : GE X (.IfExp c a b pos) ρ d :=
  ge_of (pe_ifExp pt_tw pe_tw pe_tw) fun σ G H Q hs q => hc σ G H _ hs fun G1 H1 e1 => by
    cases k with
    | true =>
      rw [if_pos rfl]
      exact ha rfl σ G1 H1 _ (hs.ext e1) fun v G2 H2 e2 h2 => q v G2 H2 (e1.trans e2) h2
    | false =>
      rw [if_neg Bool.false_ne_true]
      exact hb rfl σ G1 H1 _ (hs.ext e1) fun v G2 H2 e2 h2 => q v G2 H2 (e1.trans e2) h2

/-! ### tuples and lists written -/
theorem ge_tup {ds : List PyData} {k : Nat} (h : GA X es ρ ds) (hz : ds.length ≤ 100000 := by exact Nat.le_of_ble_eq_true rfl) : GE X (.Tuple es k pos) ρ (.tuple ds) := ge_of (pe_tup pa_tw) fun σ G H Q hs q => h σ G H _ hs fun vs G1 H1 e1 dv => by
  refine ⟨by rw [dv.length]; exact Nat.le_trans hz (by decide), fun p hp => ?_⟩
  have e2 : Ext G1 H1 (upd G1 p (.tup vs)) (upd H1 p (.tup vs)) := .new e1.gh hp
  exact q _ _ _ (e1.trans e2) (.tup (.inl (.inl upd_same)) (dv.mono e2.g))
theorem ge_lst {ds : List PyData} (h : GA X es ρ ds) (hz : ds.length ≤ 100000 := by exact Nat.le_of_ble_eq_true rfl) : GE X (.List es pos) ρ (.list ds) := ge_of (pe_lst pa_tw) fun σ G H Q hs q => h σ G H _ hs fun vs G1 H1 e1 dv => by
  refine ⟨by rw [dv.length]; exact Nat.le_trans hz (by decide), fun p hp => ?_⟩
  have e2 : Ext G1 H1 (upd G1 p (.lst vs)) (upd H1 p (.lst vs)) := .new e1.gh hp
  exact q _ _ _ (e1.trans e2) (.lst upd_same (dv.mono e2.g))
end
end Gd

namespace Gd
open PySem PySem.Spec L2

/-- a text by its signs -/
def S (l : List Nat) : Str := ⟨l.toArray⟩
theorem S_inj {a b : List Nat} : S a = S b <-> a = b := by
  constructor
  · intro h
    have := congrArg (fun z : Str => z.cps.toList) h
    simpa [S] using this
  · intro h; rw [h]
theorem S_cps (l : List Nat) : (S l).cps.toList = l := by simp [S]
theorem S_len (l : List Nat) : (S l).length = l.length := by simp [S, Str.length]
theorem S_app (a b : List Nat) : S a ++ S b = S (a ++ b) := by
  show Str.append _ _ = _
  simp [S, Str.append]
theorem S_of (z : Str) : z = S z.cps.toList := by
  cases z
  simp [S]

section
variable {X : Cx} {e a b : Expr} {es : List Expr} {ρ : Rho} {d d1 d2 : PyData} {t : TE} {pos : Pos} {i j : Int}
/-! ### ints -/
theorem rvd_i0 {K : PySem.W.Frag} {g : Int -> Int -> V} (hd : forall G, Dq K G (g i j) d) : RVD K (rI0 g) (.int i) (.int j) d := fun v1 v2 G H Q gh h1 h2 q => by
  cases h1; cases h2
  exact ⟨i, j, rfl, rfl, q _ G H (.refl gh) (hd G)⟩
theorem rvd_i {K : PySem.W.Frag} {C : Int -> Int -> Prop} {g : Int -> Int -> V} (hc : C i j) (hd : forall G, Dq K G (g i j) d) : RVD K (rI C g) (.int i) (.int j) d := fun v1 v2 G H Q gh h1 h2 q => by
  cases h1; cases h2
  exact ⟨i, j, rfl, rfl, hc, q _ G H (.refl gh) (hd G)⟩
theorem b_add : BinD X .Add (.int i) (.int j) (.int (i + j)) := ⟨_, op_add, rvd_i0 fun _ => .int _⟩
theorem b_sub : BinD X .Sub (.int i) (.int j) (.int (i - j)) := ⟨_, op_sub, rvd_i0 fun _ => .int _⟩
theorem b_mul (h : CMul i j) : BinD X .Mult (.int i) (.int j) (.int (i * j)) := ⟨_, op_mul, rvd_i h fun _ => .int _⟩
theorem b_mulW (h : CMulW i j) : BinD X .Mult (.int i) (.int j) (.int (i * j)) := ⟨_, op_mulW, rvd_i h fun _ => .int _⟩
theorem b_mod (h : 0 < j) : BinD X .Mod (.int i) (.int j) (.int (i % j)) := ⟨_, op_mod, rvd_i h fun _ => .int _⟩
theorem b_div (h : CDiv i j) : BinD X .FloorDiv (.int i) (.int j) (.int (i / j)) := ⟨_, op_fdiv, rvd_i h fun _ => .int _⟩
theorem b_divW (h : CDivW i j) : BinD X .FloorDiv (.int i) (.int j) (.int (i / j)) := ⟨_, op_fdivW, rvd_i h fun _ => .int _⟩
theorem b_pow (h : CPow i j) : BinD X .Pow (.int i) (.int j) (.int (i ^ j.toNat)) := ⟨_, op_pow, rvd_i h fun _ => .int _⟩
theorem ge_neg (h : GE X a ρ (.int i)) : GE X (.UnaryOp .USub a pos) ρ (.int (-i)) := ge_of (pe_un un_neg pe_tw) fun σ G H Q hs q => h σ G H _ hs fun v G1 H1 e1 dv => by
  cases dv
  exact ⟨i, rfl, q _ G1 H1 e1 (.int _)⟩
theorem c_lt : CmpD X .Lt (.int i) (.int j) (decide (i < j)) := ⟨_, op_lt, rvd_i0 fun _ => .bl _⟩
theorem c_le : CmpD X .LtE (.int i) (.int j) (decide (i ≤ j)) := ⟨_, op_le, rvd_i0 fun _ => .bl _⟩
theorem c_gt : CmpD X .Gt (.int i) (.int j) (decide (j < i)) := ⟨_, op_gt, rvd_i0 fun _ => .bl _⟩
theorem c_ge : CmpD X .GtE (.int i) (.int j) (decide (j ≤ i)) := ⟨_, op_ge, rvd_i0 fun _ => .bl _⟩
/-! ### == of scalars, of data -/
theorem c_eqI : CmpD X .Eq (.int i) (.int j) (decide (i = j)) := ⟨_, op_eq, fun v1 v2 G H Q gh h1 h2 q => by
  cases h1; cases h2
  refine ⟨rfl, ?_⟩
  have e : decide (V.int i = V.int j) = decide (i = j) := by simp
  rw [e]
  exact q _ G H (.refl gh) (.bl _)⟩
theorem c_neI : CmpD X .NotEq (.int i) (.int j) (!decide (i = j)) := ⟨_, op_ne, fun v1 v2 G H Q gh h1 h2 q => by
  cases h1; cases h2
  refine ⟨rfl, ?_⟩
  have e : decide (V.int i = V.int j) = decide (i = j) := by simp
  rw [e]
  exact q _ G H (.refl gh) (.bl _)⟩
theorem c_eqS {x y : Str} : CmpD X .Eq (.str x) (.str y) (decide (x = y)) := ⟨_, op_eq, fun v1 v2 G H Q gh h1 h2 q => by
  cases h1; cases h2
  refine ⟨rfl, ?_⟩
  have e : decide (V.str x = V.str y) = decide (x = y) := by simp
  rw [e]
  exact q _ G H (.refl gh) (.bl _)⟩
theorem c_neS {x y : Str} : CmpD X .NotEq (.str x) (.str y) (!decide (x = y)) := ⟨_, op_ne, fun v1 v2 G H Q gh h1 h2 q => by
  cases h1; cases h2
  refine ⟨rfl, ?_⟩
  have e : decide (V.str x = V.str y) = decide (x = y) := by simp
  rw [e]
  exact q _ G H (.refl gh) (.bl _)⟩
theorem c_eqSS {x y : List Nat} : CmpD X .Eq (.str (S x)) (.str (S y)) (decide (x = y)) := by
  have h := c_eqS (X := X) (x := S x) (y := S y)
  have e : decide (S x = S y) = decide (x = y) := by simp [S_inj]
  rw [e] at h
  exact h
theorem c_neSS {x y : List Nat} : CmpD X .NotEq (.str (S x)) (.str (S y)) (!decide (x = y)) := by
  have h := c_neS (X := X) (x := S x) (y := S y)
  have e : decide (S x = S y) = decide (x = y) := by simp [S_inj]
  rw [e] at h
  exact h
/-- data that may be compared by == -/
def shap (d : PyData) : Bool := noDict d && SeqAt.shaped d
theorem shap_n (h : shap d = true) : noDict d = true := (Bool.and_eq_true_iff.mp h).1
theorem shap_s (h : shap d = true) : SeqAt.shaped d = true := (Bool.and_eq_true_iff.mp h).2
theorem c_eqD (hu : X.A.units + 64 < cLine) (h1 : shap d1 = true) (h2 : shap d2 = true) : CmpD X .Eq d1 d2 (PyData.eqv d1 d2) := ⟨_, op_eqD hu, fun v1 v2 G H Q gh a1 a2 q =>
  ⟨d1, d2, (a1.mono gh).dp (shap_n h1), (a2.mono gh).dp (shap_n h2), shap_s h1, shap_s h2, q _ G H (.refl gh) (.bl _)⟩⟩
theorem c_neD (hu : X.A.units + 64 < cLine) (h1 : shap d1 = true) (h2 : shap d2 = true) : CmpD X .NotEq d1 d2 (!PyData.eqv d1 d2) := ⟨_, op_neD hu, fun v1 v2 G H Q gh a1 a2 q =>
  ⟨d1, d2, (a1.mono gh).dp (shap_n h1), (a2.mono gh).dp (shap_n h2), shap_s h1, shap_s h2, q _ G H (.refl gh) (.bl _)⟩⟩
/-! ### is -/
def isNon : PyData -> Bool
  | .none => true
  | _ => false
theorem dp_isNon {K : PySem.W.Frag} {G : Hp} {v : V} (h : Dq K G v d) : decide (v = V.non) = isNon d := by
  cases h <;> simp [isNon]
theorem c_isN : CmpD X .Is d1 .none (isNon d1) := ⟨_, op_isN, fun v1 v2 G H Q gh h1 h2 q => by
  cases h2
  refine ⟨rfl, ?_⟩
  rw [dp_isNon h1]
  exact q _ G H (.refl gh) (.bl _)⟩
theorem c_notN : CmpD X .IsNot d1 .none (!isNon d1) := ⟨_, op_notN, fun v1 v2 G H Q gh h1 h2 q => by
  cases h2
  refine ⟨rfl, ?_⟩
  rw [dp_isNon h1]
  exact q _ G H (.refl gh) (.bl _)⟩
theorem c_isB {p q : Bool} : CmpD X .Is (.bool p) (.bool q) (p == q) := ⟨_, op_isBl, fun v1 v2 G H Q gh h1 h2 k => by
  cases h1; cases h2
  exact ⟨p, q, rfl, rfl, k _ G H (.refl gh) (.bl _)⟩⟩
theorem c_notB {p q : Bool} : CmpD X .IsNot (.bool p) (.bool q) (!(p == q)) := ⟨_, op_notBl, fun v1 v2 G H Q gh h1 h2 k => by
  cases h1; cases h2
  exact ⟨p, q, rfl, rfl, k _ G H (.refl gh) (.bl _)⟩⟩
/-! ### texts -/
theorem b_addS {x y : List Nat} (h : x.length + y.length ≤ 100000) : BinD X .Add (.str (S x)) (.str (S y)) (.str (S (x ++ y))) := ⟨_, op_add_str, fun v1 v2 G H Q gh h1 h2 q => by
  cases h1; cases h2
  refine ⟨_, _, rfl, rfl, by rw [S_len, S_len]; exact Nat.le_trans h (by decide), ?_⟩
  rw [S_app]
  exact q _ G H (.refl gh) (.str _)⟩
theorem foldl_app (x : Array Nat) : forall (n : Nat) (acc : Array Nat), ((List.replicate n x).foldl (· ++ ·) acc).toList = acc.toList ++ (List.replicate n x.toList).flatten
  | 0, acc => by simp
  | n + 1, acc => by
    rw [List.replicate_succ, List.foldl_cons, foldl_app x n, Array.toList_append, List.replicate_succ, List.flatten_cons, List.append_assoc]
theorem mul_S (x : List Nat) (n : Int) : Txt.mul (S x) n = S (List.replicate n.toNat x).flatten := by
  unfold Txt.mul
  by_cases h1 : n < 1
  · rw [if_pos h1]
    have e : n.toNat = 0 := by omega
    rw [e]
    rfl
  · rw [if_neg h1]
    by_cases h2 : (n == 1 || (S x).length == 0) = true
    · rw [if_pos h2]
      rw [Bool.or_eq_true] at h2
      rcases h2 with h2 | h2
      · have e : n = 1 := by simpa using h2
        rw [e]
        show S x = S (x ++ [])
        rw [List.append_nil]
      · have e : x = [] := by
          rw [S_len] at h2
          have : x.length = 0 := by simpa using h2
          exact List.length_eq_zero_iff.mp this
        subst e
        have : forall k : Nat, (List.replicate k ([] : List Nat)).flatten = [] := fun k => by
          induction k with
          | zero => rfl
          | succ k ih => rw [List.replicate_succ, List.flatten_cons, ih]; rfl
        rw [this]
    · rw [if_neg h2]
      have := foldl_app (S x).cps n.toNat #[]
      rw [S_cps] at this
      rw [S_of (⟨_⟩ : Str)]
      congr 1
theorem mulOk {x : List Nat} {n : Int} (h : x.length * n.toNat ≤ 100000) (hn : -1000000 ≤ n) (hx : n ≤ 1000000) : MulOk (S x) n := by
  refine ⟨?_, fun h1 _ => ?_, fun h1 _ => ?_⟩
  · rw [decide_eq_false (by omega), decide_eq_false (by omega)] <;> rfl
  · rw [S_len]
    intro z
    have h2 : ((x.length : Nat) : Int) ≤ (2 ^ 63 - 1) / n := by
      rw [Int.le_ediv_iff_mul_le (by omega)]
      have e : n = ((n.toNat : Nat) : Int) := by omega
      rw [e]
      have h3 : ((x.length * n.toNat : Nat) : Int) ≤ 100000 := by omega
      rw [Int.natCast_mul] at h3
      omega
    omega
  · rw [S_len]
    show decide _ = false
    exact decide_eq_false (by show ¬ _ > sizeLine; rw [sizeLine_eq]; omega)
theorem b_mulS {x : List Nat} {n : Int} (h : x.length * n.toNat ≤ 100000) (hn : -1000000 ≤ n) (hx : n ≤ 1000000) : BinD X .Mult (.str (S x)) (.int n) (.str (S (List.replicate n.toNat x).flatten)) := by
  refine ⟨fun v1 v2 H Q => ∃ x n, v1 = .str x ∧ v2 = .int n ∧ MulOk x n ∧ Q (.str (Txt.mul x n)) H, ?_, fun v1 v2 G H Q gh h1 h2 q => ?_⟩
  · intro pins s σ H v1 v2 u1 u2 Q I r1 r2 hq
    obtain ⟨x, n, rfl, rfl, ok, q⟩ := hq
    obtain ⟨t, rfl⟩ := r1
    obtain ⟨t', rfl⟩ := r2
    exact SB.mul ok fun t2 k => ⟨.str _, H, I.tok k, ⟨t2, rfl⟩, q⟩
  · cases h1; cases h2
    refine ⟨_, _, rfl, rfl, mulOk h hn hx, ?_⟩
    rw [mul_S]
    exact q _ G H (.refl gh) (.str _)
theorem c_in1 {c : Nat} {l : List Nat} : CmpD X .In (.str (S [c])) (.str (S l)) (decide (c ∈ l)) := ⟨_, op_in_sign, fun v1 v2 G H Q gh h1 h2 q => by
  cases h1; cases h2
  refine ⟨c, S l, rfl, rfl, ?_⟩
  rw [S_cps]
  exact q _ G H (.refl gh) (.bl _)⟩
/-! ### items -/
theorem x_str {l : List Nat} {c : Nat} (hl : l.length ≤ 100000) (h : atI l i = some c) : IxD X (.str (S l)) (.int i) (.str (S [c])) := ⟨_, ix_str, fun v1 v2 G H Q gh h1 h2 q => by
  cases h1; cases h2
  exact ⟨S l, i, c, rfl, rfl, by rw [S_len]; exact Nat.le_trans hl (by decide), by rw [S_cps]; exact h, q _ G H (.refl gh) (.str _)⟩⟩
theorem atI_dp {K : PySem.W.Frag} {G : Hp} {vs : List V} {ds : List PyData} (h : DqAll K G vs ds) (e : atI ds i = some d) : ∃ v, atI vs i = some v ∧ Dq K G v d := by
  unfold atI at e ⊢
  rw [h.length]
  cases hj : ixN ds.length i with
  | none => rw [hj] at e; cases e
  | some j =>
    rw [hj] at e
    exact h.get e
theorem x_lst {ds : List PyData} (h : atI ds i = some d) : IxD X (.list ds) (.int i) d := ⟨_, ix_list, fun v1 v2 G H Q gh h1 h2 q => by
  cases h2
  cases h1 with
  | lst sq al =>
    obtain ⟨v, hv, dv⟩ := atI_dp al h
    exact ⟨_, _, i, v, rfl, rfl, .inl (.inl (gh _ _ sq)), hv, q _ G H (.refl gh) dv⟩⟩
theorem x_tup {ds : List PyData} (h : atI ds i = some d) : IxD X (.tuple ds) (.int i) d := ⟨_, ix_tup, fun v1 v2 G H Q gh h1 h2 q => by
  cases h2
  cases h1 with
  | tup sq al =>
    obtain ⟨v, hv, dv⟩ := atI_dp al h
    exact ⟨_, _, i, v, rfl, rfl, sqT_mono gh sq, hv, q _ G H (.refl gh) dv⟩⟩
/-! ### lists + and * -/
theorem b_cat {xs ys : List PyData} (h : xs.length + ys.length ≤ 100000) : BinD X .Add (.list xs) (.list ys) (.list (xs ++ ys)) := ⟨_, op_cat, fun v1 v2 G H Q gh h1 h2 q => by
  cases h1 with
  | lst s1 a1 =>
    cases h2 with
    | lst s2 a2 =>
      refine ⟨_, _, _, _, rfl, rfl, gh _ _ s1, gh _ _ s2, by rw [a1.length, a2.length]; exact Nat.le_trans h (by decide), fun p hp => ?_⟩
      exact q _ _ _ (.new gh hp) (.lst upd_same ((a1.append a2).mono (same_new (gh.free hp))))⟩
theorem b_rep {xs : List PyData} (h0 : 0 ≤ i) (h1 : i ≤ 100000) (h : xs.length * i.toNat ≤ 100000) : BinD X .Mult (.list xs) (.int i) (.list (List.replicate i.toNat xs).flatten) := ⟨_, op_rep, fun v1 v2 G H Q gh h1 h2 q => by
  cases h2
  cases h1 with
  | lst s1 a1 =>
    refine ⟨_, i, _, rfl, rfl, gh _ _ s1, by omega, by omega, by rw [a1.length]; exact Nat.le_trans h (by decide), fun p hp => ?_⟩
    exact q _ _ _ (.new gh hp) (.lst upd_same ((a1.rep _).mono (same_new (gh.free hp))))⟩
end
end Gd

namespace Gd
open PySem PySem.Spec L2
section
variable {X : Cx} {e a b : Expr} {es : List Expr} {ρ : Rho} {d d1 d2 d3 : PyData} {t : TE} {pos : Pos} {i j : Int} {c c' : Bool}
/-! ### chains of comparisons -/
def GCh (X : Cx) (pos : Pos) (d1 : PyData) (ops : List CmpOp) (es : List Expr) (ρ : Rho) (c : Bool) : Prop :=
  forall (σ : L2.St) (G H : Hp) (Q : VK) (v : V) (u : Value) (pins : List (Addr × Obj)) (s : Shared), Sta X.K G H σ ρ -> Dq X.K G v d1 -> RelV v u -> Inv X pins σ H s -> (forall G' H', Ext G H G' H' -> Q (.bl c) H') ->
    Wp X (compareChain pos u ops (evalEach es X.env)) (EP X pins σ Q) s
def GTh (X : Cx) (pos : Pos) (d1 : PyData) (ops : List CmpOp) (es : List Expr) (ρ : Rho) (c : Bool) : Prop :=
  forall (σ : L2.St) (G H : Hp) (Q : Bool -> Hp -> Prop) (v : V) (u : Value) (pins : List (Addr × Obj)) (s : Shared), Sta X.K G H σ ρ -> Dq X.K G v d1 -> RelV v u -> Inv X pins σ H s -> (forall G' H', Ext G H G' H' -> Q c H') ->
    Wp X (testChain pos u ops (evalEach es X.env)) (TP X pins σ Q) s
theorem ch_last {op : CmpOp} (hb : GE X b ρ d2) (h : CmpD X op d1 d2 c) : GCh X pos d1 [op] [b] ρ c := fun σ G H Q v u pins s hs hv r I q => by
  refine Wp.mk ?_
  obtain ⟨r2, ho, hr⟩ := h
  refine PyProof.Rows.chain_last (thn (hb σ G H (fun y H2 => r2 v y H2 Q) hs (fun y G1 H1 e1 dy => hr v y G1 H1 Q e1.gh (hv.mono e1.g) dy fun z G2 H2 e2 dz => by
    cases dz
    exact q G2 H2 (e1.trans e2)) pins s I).run fun w s1 ⟨y, H1, I1, ry, q1⟩ => ?_)
  exact ho pins s1 σ H1 v y u w Q I1 r ry q1
theorem ch_link {op op' : CmpOp} {ops : List CmpOp} {b' : Expr} (hb : GE X b ρ d2) (h : CmpD X op d1 d2 c) (ht : c = true -> GCh X pos d2 (op' :: ops) (b' :: es) ρ c') : GCh X pos d1 (op :: op' :: ops) (b :: b' :: es) ρ (c && c') := fun σ G H Q v u pins s hs hv r I q => by
  refine Wp.mk ?_
  obtain ⟨r2, ho, hr⟩ := h
  show wpAny _ _ (compareChain pos u (op :: op' :: ops) (eval b X.env :: eval b' X.env :: evalEach es X.env)) _ _ _
  refine PyProof.Rows.chain_link (thn (hb σ G H (fun y H1 => ∃ G1, Ext G H G1 H1 ∧ Dq X.K G1 y d2) hs (fun y G1 H1 e1 dy => ⟨G1, e1, dy⟩) pins s I).run fun w s1 ⟨y, H1, I1, ry, G1, e1, dy⟩ => ?_)
  refine thn (ho pins s1 σ H1 v y u w (fun z H2 => z = .bl c ∧ ∃ G2, Ext G1 H1 G2 H2) I1 r ry (hr v y G1 H1 _ e1.gh (hv.mono e1.g) dy fun z G2 H2 e2 dz => by
    cases dz
    exact ⟨rfl, G2, e2⟩)) fun k s2 ⟨z, H2, I2, rz, hz, G2, e2⟩ => ?_
  subst hz
  cases rz
  refine wpAny_truthy_bool ?_
  have e12 := e1.trans e2
  cases c with
  | false => exact PyProof.Rows.ite_ff ⟨.bl false, H2, I2, rfl, q G2 H2 e12⟩
  | true => exact PyProof.Rows.ite_tt (ht rfl σ G2 H2 Q y w pins s2 (hs.ext e12) (dy.mono e2.g) ry I2 fun G3 H3 e3 => q G3 H3 (e12.trans e3)).run
theorem ge_chain {op op' : CmpOp} {ops : List CmpOp} {b' : Expr} (ha : GE X a ρ d1) (h : GCh X pos d1 (op :: op' :: ops) (b :: b' :: es) ρ c) (hm : lastMarks (op :: op' :: ops) (b :: b' :: es) = false := by with_unfolding_all rfl) : GE X (.Compare a (op :: op' :: ops) (b :: b' :: es) pos) ρ (.bool c) := fun σ G H Q hs q pins s I => by
  refine Wp.mk ?_
  refine PyProof.Rows.Compare_chain (thn (ha σ G H (fun x H1 => ∃ G1, Ext G H G1 H1 ∧ Dq X.K G1 x d1) hs (fun x G1 H1 e1 dx => ⟨G1, e1, dx⟩) pins s I).run fun v s1 ⟨x, H1, I1, rx, G1, e1, dx⟩ => ?_) hm
  exact (h σ G1 H1 Q x v pins s1 (hs.ext e1) dx rx I1 fun G2 H2 e2 => q _ G2 H2 (e1.trans e2) (.bl c)).run
theorem th_last {op : CmpOp} (hb : GE X b ρ d2) (h : CmpD X op d1 d2 c) : GTh X pos d1 [op] [b] ρ c := fun σ G H Q v u pins s hs hv r I q => by
  refine Wp.mk ?_
  obtain ⟨r2, ho, hr⟩ := h
  refine PyProof.Rows.test_last (thn (hb σ G H (fun y H1 => ∃ G1, Ext G H G1 H1 ∧ Dq X.K G1 y d2) hs (fun y G1 H1 e1 dy => ⟨G1, e1, dy⟩) pins s I).run fun w s1 ⟨y, H1, I1, ry, G1, e1, dy⟩ => ?_)
  refine thn (ho pins s1 σ H1 v y u w (fun z H2 => z = .bl c ∧ ∃ G2, Ext G1 H1 G2 H2) I1 r ry (hr v y G1 H1 _ e1.gh (hv.mono e1.g) dy fun z G2 H2 e2 dz => by
    cases dz
    exact ⟨rfl, G2, e2⟩)) fun k s2 ⟨z, H2, I2, rz, hz, G2, e2⟩ => ?_
  subst hz
  cases rz
  exact wpAny_truthy_bool ⟨H2, I2, q G2 H2 (e1.trans e2)⟩
theorem th_link {op op' : CmpOp} {ops : List CmpOp} {b' : Expr} (hb : GE X b ρ d2) (h : CmpD X op d1 d2 c) (ht : c = true -> GTh X pos d2 (op' :: ops) (b' :: es) ρ c') : GTh X pos d1 (op :: op' :: ops) (b :: b' :: es) ρ (c && c') := fun σ G H Q v u pins s hs hv r I q => by
  refine Wp.mk ?_
  obtain ⟨r2, ho, hr⟩ := h
  show wpAny _ _ (testChain pos u (op :: op' :: ops) (eval b X.env :: eval b' X.env :: evalEach es X.env)) _ _ _
  refine PyProof.Rows.test_link (thn (hb σ G H (fun y H1 => ∃ G1, Ext G H G1 H1 ∧ Dq X.K G1 y d2) hs (fun y G1 H1 e1 dy => ⟨G1, e1, dy⟩) pins s I).run fun w s1 ⟨y, H1, I1, ry, G1, e1, dy⟩ => ?_)
  refine thn (ho pins s1 σ H1 v y u w (fun z H2 => z = .bl c ∧ ∃ G2, Ext G1 H1 G2 H2) I1 r ry (hr v y G1 H1 _ e1.gh (hv.mono e1.g) dy fun z G2 H2 e2 dz => by
    cases dz
    exact ⟨rfl, G2, e2⟩)) fun k s2 ⟨z, H2, I2, rz, hz, G2, e2⟩ => ?_
  subst hz
  cases rz
  refine wpAny_truthy_bool ?_
  have e12 := e1.trans e2
  cases c with
  | false => exact PyProof.Rows.ite_ff ⟨H2, I2, q G2 H2 e12⟩
  | true => exact PyProof.Rows.ite_tt (ht rfl σ G2 H2 Q y w pins s2 (hs.ext e12) (dy.mono e2.g) ry I2 fun G3 H3 e3 => q G3 H3 (e12.trans e3)).run
theorem gt_chain {op op' : CmpOp} {ops : List CmpOp} {b' : Expr} (ha : GE X a ρ d1) (h : GTh X pos d1 (op :: op' :: ops) (b :: b' :: es) ρ c) (hm : lastMarks (op :: op' :: ops) (b :: b' :: es) = false := by with_unfolding_all rfl) : GT X (.Compare a (op :: op' :: ops) (b :: b' :: es) pos) ρ c := fun σ G H Q hs q pins s I => by
  refine Wp.mk ?_
  refine PyProof.Rows.isTrue_chain (thn (ha σ G H (fun x H1 => ∃ G1, Ext G H G1 H1 ∧ Dq X.K G1 x d1) hs (fun x G1 H1 e1 dx => ⟨G1, e1, dx⟩) pins s I).run fun v s1 ⟨x, H1, I1, rx, G1, e1, dx⟩ => ?_) hm
  exact (h σ G1 H1 Q x v pins s1 (hs.ext e1) dx rx I1 fun G2 H2 e2 => q G2 H2 (e1.trans e2)).run

/-! ### calls of built-ins by name -/
def CalD (X : Cx) (f : Value) (ds : List PyData) (d : PyData) : Prop := ∃ r, CallR X f r ∧ forall (vs : List V) (G H : Hp) (Q : VK), Same G H -> DqAll X.K G vs ds -> (forall v G' H', Ext G H G' H' -> Dq X.K G' v d -> Q v H') -> r vs H Q
theorem ev_cb {r : List V -> Hp -> VK -> Prop} {ta : TA} {ds : List PyData} (ha : EvA X.K ta ρ ds) (h : forall (vs : List V) (G H : Hp) (Q : VK), Same G H -> DqAll X.K G vs ds -> (forall v G' H', Ext G H G' H' -> Dq X.K G' v d -> Q v H') -> r vs H Q) : EvR X.K (tCB r ta) ρ d := fun σ G H Q hs q =>
  ha σ G H _ hs fun vs G1 H1 e1 dv => h vs G1 H1 Q e1.gh dv fun v G2 H2 e2 d2 => q v G2 H2 (e1.trans e2) d2
theorem ge_cb {x : Str} {id : String} {ds : List PyData} {p : Pos} (hm : X.mg x = none) (hv : bootBuiltins x = some (.builtin id)) (h : CalD X (.builtin id) ds d) (ha : GA X (e :: es) ρ ds) (hg : Gl X x := by rfl) (hn : x ≠ "__name__" := by decide) (hdb : (x == ("__debug__" : Str)) = false := by decide)
    (he : starEach (e :: es) X.env = (false, eval e X.env) :: starEach es X.env := by rfl) (hpl : (backTo pos (starEach es X.env)).any (·.1) = false := by rfl) : GE X (.Call (.Name x p) (e :: es) [] pos) ρ d := by
  obtain ⟨r, hc, hr⟩ := h
  exact ge_of (pe_callB hc hg hm hv pa_tw hn hdb he hpl) (ev_cb ha hr)
theorem ge_cty {x : Str} {T : String} {ds : List PyData} {p : Pos} (hm : X.mg x = none) (hv : bootBuiltins x = some (.type T)) (h : CalD X (.type T) ds d) (ha : GA X (e :: es) ρ ds) (hg : Gl X x := by rfl) (hn : x ≠ "__name__" := by decide) (hdb : (x == ("__debug__" : Str)) = false := by decide)
    (he : starEach (e :: es) X.env = (false, eval e X.env) :: starEach es X.env := by rfl) (hpl : (backTo pos (starEach es X.env)).any (·.1) = false := by rfl) : GE X (.Call (.Name x p) (e :: es) [] pos) ρ d := by
  obtain ⟨r, hc, hr⟩ := h
  exact ge_of (pe_callTy hc hg hm hv pa_tw hn hdb he hpl) (ev_cb ha hr)
theorem k_lenS {l : List Nat} (h : l.length ≤ 100000) : CalD X (.builtin "len") [.str (S l)] (.int l.length) := ⟨_, call_len, fun vs G H Q gh dv q => by
  cases dv with
  | cons h1 h2 =>
    cases h2; cases h1
    refine ⟨_, l.length, rfl, ⟨by rw [S_len]; exact Nat.le_trans h (by decide), by rw [S_len]⟩, q _ G H (.refl gh) (.int _)⟩⟩
theorem k_lenL {ds : List PyData} : CalD X (.builtin "len") [.list ds] (.int ds.length) := ⟨_, call_len, fun vs G H Q gh dv q => by
  cases dv with
  | cons h1 h2 =>
    cases h2
    cases h1 with
    | lst s1 a1 => exact ⟨_, ds.length, rfl, .inl ⟨_, .inl (.inl (gh _ _ s1)), a1.length.symm⟩, q _ G H (.refl gh) (.int _)⟩⟩
theorem k_lenT {ds : List PyData} : CalD X (.builtin "len") [.tuple ds] (.int ds.length) := ⟨_, call_len, fun vs G H Q gh dv q => by
  cases dv with
  | cons h1 h2 =>
    cases h2
    cases h1 with
    | tup s1 a1 => exact ⟨_, ds.length, rfl, .inr ⟨_, sqT_mono gh s1, a1.length.symm⟩, q _ G H (.refl gh) (.int _)⟩⟩
theorem scr_inj {ns ms : List Int} (h : ns.map (fun n => (PyData.int n, PyData.none)) = ms.map (fun n => (PyData.int n, PyData.none))) : ns = ms := by
  have := congrArg (List.map fun p : PyData × PyData => match p.1 with | .int n => n | _ => 0) h
  simpa [List.map_map, Function.comp_def] using this
theorem scr_adr {ns : List Int} {z : Int} (h : ns.map (fun n => (PyData.int n, PyData.none)) = [(PyData.none, PyData.int z)]) : False := by
  cases ns with
  | nil => cases h
  | cons _ _ => cases h
theorem k_lenScr {ns : List Int} : CalD X (.builtin "len") [scrD ns] (.int ns.length) := ⟨_, call_len, fun vs G H Q gh dv q => by
  cases dv with
  | cons h1 h2 =>
    cases h2
    unfold scrD at h1
    cases h1 with
    | adr e1 => exact (scr_adr e1).elim
    | scr s1 e1 =>
      obtain rfl := scr_inj e1
      exact ⟨_, ns.length, rfl, .inl ⟨_, sqL_mono gh s1, by rw [List.length_map]⟩, q _ G H (.refl gh) (.int _)⟩⟩
theorem x_scr {ns : List Int} {n : Int} (h : atI ns i = some n) : IxD X (scrD ns) (.int i) (.int n) := ⟨_, ix_list, fun v1 v2 G H Q gh h1 h2 q => by
  cases h2
  unfold scrD at h1
  cases h1 with
  | adr e1 => exact (scr_adr e1).elim
  | scr s1 e1 =>
    obtain rfl := scr_inj e1
    refine ⟨_, _, i, .int n, rfl, rfl, sqL_mono gh s1, ?_, q _ G H (.refl gh) (.int _)⟩
    unfold atI at h ⊢
    rw [List.length_map]
    cases hj : ixN ns.length i with
    | none => rw [hj] at h; cases h
    | some k =>
      rw [hj] at h
      have h' : ns[k]? = some n := h
      show (ns.map V.int)[k]? = some (.int n)
      rw [List.getElem?_map, h'] <;> rfl⟩
theorem dp_ints {K : PySem.W.Frag} {G : Hp} : forall {ns : List Int}, DpAll K G (ns.map V.int) (ns.map PyData.int)
  | [] => .nil
  | _ :: _ => .cons (.int _) dp_ints
theorem canLay_ints : forall ns : List Int, noDictAll (ns.map PyData.int) = true
  | [] => rfl
  | _ :: ns => by
    rw [List.map_cons, noDictAll, canLay_ints ns]
    rfl
/-- script != [] -/
theorem c_scrNe {ns : List Int} (hu : X.A.units + 64 < cLine) (hsh : SeqAt.shaped (.list (ns.map PyData.int)) = true) : CmpD X .NotEq (scrD ns) (.list []) (!PyData.eqv (.list (ns.map PyData.int)) (.list [])) := ⟨_, op_neD hu, fun v1 v2 G H Q gh h1 h2 q => by
  unfold scrD at h1
  cases h1 with
  | adr e1 => exact (scr_adr e1).elim
  | scr s1 e1 =>
    obtain rfl := scr_inj e1
    exact ⟨.list (ns.map PyData.int), .list [], .lst (sqL_mono gh s1) dp_ints, (h2.mono gh).dp rfl, hsh, by decide, q _ G H (.refl gh) (.bl _)⟩⟩
theorem k_min2 (hc : X.calm = true) : CalD X (.builtin "min") [.int i, .int j] (.int (if j < i then j else i)) := ⟨_, call_min2 hc, fun vs G H Q gh dv q => by
  cases dv with
  | cons h1 h2 =>
    cases h2 with
    | cons h3 h4 =>
      cases h4; cases h1; cases h3
      exact ⟨i, j, rfl, q _ G H (.refl gh) (.int _)⟩⟩
theorem k_max2 (hc : X.calm = true) : CalD X (.builtin "max") [.int i, .int j] (.int (if j > i then j else i)) := ⟨_, call_max2 hc, fun vs G H Q gh dv q => by
  cases dv with
  | cons h1 h2 =>
    cases h2 with
    | cons h3 h4 =>
      cases h4; cases h1; cases h3
      exact ⟨i, j, rfl, q _ G H (.refl gh) (.int _)⟩⟩
theorem k_all {bs : List Bool} (hc : X.calm = true) : CalD X (.builtin "all") [.list (bs.map PyData.bool)] (.bool (bs.all id)) := ⟨_, cr_all hc, fun vs G H Q gh dv q => by
  cases dv with
  | cons h1 h2 =>
    cases h2
    cases h1 with
    | lst s1 a1 =>
      rw [a1.bools] at s1
      exact ⟨_, bs, rfl, .inl (.inl (gh _ _ s1)), q _ G H (.refl gh) (.bl _)⟩⟩
theorem k_any {bs : List Bool} (hc : X.calm = true) : CalD X (.builtin "any") [.list (bs.map PyData.bool)] (.bool (bs.any id)) := ⟨_, cr_any hc, fun vs G H Q gh dv q => by
  cases dv with
  | cons h1 h2 =>
    cases h2
    cases h1 with
    | lst s1 a1 =>
      rw [a1.bools] at s1
      exact ⟨_, bs, rfl, .inl (.inl (gh _ _ s1)), q _ G H (.refl gh) (.bl _)⟩⟩
theorem k_sum {ns : List Int} (hc : X.calm = true) : CalD X (.builtin "sum") [.list (ns.map PyData.int)] (.int ns.sum) := ⟨_, cr_sum hc, fun vs G H Q gh dv q => by
  cases dv with
  | cons h1 h2 =>
    cases h2
    cases h1 with
    | lst s1 a1 =>
      rw [a1.ints] at s1
      exact ⟨_, ns, rfl, .inl (.inl (gh _ _ s1)), q _ G H (.refl gh) (.int _)⟩⟩

/-! ### isinstance(x, T) -/
def tyN : PyData -> String
  | .none => "NoneType"
  | .bool _ => "bool"
  | .int _ => "int"
  | .str _ => "str"
  | .list _ => "list"
  | .tuple _ => "tuple"
  | .dict _ => "list"
theorem dq_ty {K : PySem.W.Frag} {G H : Hp} {v : V} (gh : Same G H) (hd : noDict d = true) (h : Dq K G v d) : TyX K H v (.type (tyN d)) := by
  cases h with
  | non => exact .base .non
  | bl b => exact .base (.bl b)
  | int i => exact .base (.int i)
  | str x => exact .base (.str x)
  | lst s a => exact .base (.lst (gh _ _ s))
  | tup s a =>
    rcases s with (s | ⟨o, s⟩) | ⟨o, its, n, hk, hc, _⟩
    · exact .base (.tup (gh _ _ s))
    · exact .fTuple (gh _ _ s)
    · exact .kTuple hk hc
  | scr s e => simp [noDict] at hd
  | adr e => simp [noDict] at hd
theorem ge_isi {T : Str} {U : String} {p pT : Pos} (hm : X.mg "isinstance" = none) (hmT : X.mg T = none) (hv : bootBuiltins T = some (.type U)) (h : GE X a ρ d) (hd : noDict d = true) (hk : kitB (tyN d) U = some c) (hg : Gl X "isinstance" := by rfl) (hgT : Gl X T := by rfl)
    (hnT : T ≠ "__name__" := by decide) (hdT : (T == ("__debug__" : Str)) = false := by decide)
    (hs1 : starEach [a, .Name T pT] X.env = (false, eval a X.env) :: starEach [.Name T pT] X.env := by rfl) (hs2 : starEach [.Name T pT] X.env = (false, eval (.Name T pT) X.env) :: starEach [] X.env := by rfl) (hpl : (backTo pos (starEach [.Name T pT] X.env)).any (·.1) = false := by rfl) :
    GE X (.Call (.Name "isinstance" p) [a, .Name T pT] [] pos) ρ (.bool c) :=
  ge_of (pe_callB call_isi hg hm (by decide +kernel) (pa_cons pe_tw (pa_cons (pe_bltn (v := .ty U) hgT hmT hv rfl hnT hdT) pa_nil hs2) hs1) (by decide) (by decide) hs1 hpl) fun σ G H Q hs q =>
    h σ G H _ hs fun v G1 H1 e1 dv => ⟨v, .ty U, .type (tyN d), .type U, c, rfl, .ty U, dq_ty e1.gh hd dv, kit_ty hk, q _ G1 H1 e1 (.bl c)⟩
end
end Gd

namespace Gd
open PySem PySem.Spec L2
/-! ### blocks -/
/-- a def's entry: the part that stays, the whole -/
structure En where
  g : Hp
  h : Hp
  /-- a part that is kept, besides -/
  p : Hp := fun _ => none
structure ExN (N : En) (G H : Hp) : Prop extends Ext N.g N.h G H where
  pin : Same N.p G
theorem ExN.trans {N : En} {G H G' H' : Hp} (a : ExN N G H) (b : Ext G H G' H') : ExN N G' H' := ⟨a.toExt.trans b, a.pin.trans b.g⟩
/-- a dict of the caller's that a def may fill: where, what holds of its entries -/
structure Mem where
  q : Addr
  hs : NestedKey -> Int
  I : List (PyData × PyData) -> Prop
structure Post where
  nx : Rho -> Prop
  rt : PyData -> Prop
  bk : Rho -> Prop := fun _ => False
  ct : Rho -> Prop := fun _ => False
  mm : Option Mem := none
def MemOk (K : PySem.W.Frag) (G H : Hp) : Option Mem -> Prop
  | none => True
  | some m => ∃ o kvs, G m.q = none ∧ H m.q = some (dR m.q o) ∧ DicV K G m.hs m.q o kvs ∧ m.I kvs
def MRet (ρ : Rho) : Option Mem -> Prop
  | none => True
  | some m => ∃ (i : Nat) (kvs : List (PyData × PyData)), ρ[i]? = some (Cell.owx (.memo m.q m.hs kvs)) ∧ m.I kvs
theorem MRet.ok {K : PySem.W.Frag} {G H : Hp} {σ : L2.St} {ρ : Rho} {m : Option Mem} (h : MRet ρ m) (s : Sta K G H σ ρ) : MemOk K G H m := by
  cases m with
  | none => trivial
  | some m =>
    obtain ⟨i, kvs, h1, h2⟩ := h
    obtain ⟨p, u, e1, e2, e3, rfl, o, rfl, e5⟩ := s.owx h1
    exact ⟨o, kvs, e2, e3, e5, h2⟩
/-- the state of a def's body: P is a part that is kept -/
def Fr (K : PySem.W.Frag) (N : En) (P : Hp) (σ : L2.St) (H : Hp) (ρ : Rho) : Prop :=
  ∃ G, ExN N G H ∧ Same P G ∧ Sta K G H σ ρ ∧ forall (i : Nat) (ds : Own) (p : Addr), ρ[i]? = some (.owx ds) -> σ[i]? = some (some (.ref p)) -> N.h p = none
def Rt (K : PySem.W.Frag) (N : En) (P : Hp) (m : Option Mem) (v : V) (H : Hp) (d : PyData) : Prop := ∃ G, ExN N G H ∧ Same P G ∧ Dq K G v d ∧ MemOk K G H m
def ends (K : PySem.W.Frag) (N : En) (P : Hp) (Φ : Post) : Ends where
  nx := fun σ H => ∃ ρ, Fr K N P σ H ρ ∧ Φ.nx ρ
  rt := fun v H => ∃ d, Rt K N P Φ.mm v H d ∧ Φ.rt d
  bk := fun σ H => ∃ ρ, Fr K N P σ H ρ ∧ Φ.bk ρ
  ct := fun σ H => ∃ ρ, Fr K N P σ H ρ ∧ Φ.ct ρ
def tws (X : Cx) (ss : List Stmt) : TS := fun D σ H => forall pins s, Inv X pins σ H s -> Wp X (execs ss X.env) (SP X pins D) s
def twp (X : Cx) (st : Stmt) : TS := fun D σ H => forall pins s, Inv X pins σ H s -> Wp X (exec st X.env) (SP X pins D) s
theorem pss_tw {X : Cx} {ss : List Stmt} : PSs X ss (tws X ss) := ⟨fun pins s _ _ _ I h => (h pins s I).run⟩
theorem ps_tw {X : Cx} {st : Stmt} : PS X st (twp X st) := ⟨fun pins s _ _ _ I h => (h pins s I).run⟩
def GS (X : Cx) (N : En) (ss : List Stmt) (ρ : Rho) (Φ : Post) : Prop := forall (P : Hp) (σ : L2.St) (H : Hp), Fr X.K N P σ H ρ -> tws X ss (ends X.K N P Φ) σ H
def G1 (X : Cx) (N : En) (st : Stmt) (ρ : Rho) (Φ : Post) : Prop := forall (P : Hp) (σ : L2.St) (H : Hp), Fr X.K N P σ H ρ -> twp X st (ends X.K N P Φ) σ H
structure EndsLe (D D' : Ends) : Prop where
  nx : forall σ H, D.nx σ H -> D'.nx σ H
  rt : forall v H, D.rt v H -> D'.rt v H
  bk : forall σ H, D.bk σ H -> D'.bk σ H
  ct : forall σ H, D.ct σ H -> D'.ct σ H
theorem sp_mono {X : Cx} {pins : List (Addr × Obj)} {D D' : Ends} {f : Flow} {s : Shared} (l : EndsLe D D') (h : SP X pins D f s) : SP X pins D' f s := by
  cases f with
  | next => obtain ⟨σ, H, I, q⟩ := h; exact ⟨σ, H, I, l.nx _ _ q⟩
  | brk => obtain ⟨σ, H, I, q⟩ := h; exact ⟨σ, H, I, l.bk _ _ q⟩
  | cont => obtain ⟨σ, H, I, q⟩ := h; exact ⟨σ, H, I, l.ct _ _ q⟩
  | ret u => obtain ⟨v, σ, H, I, r, q⟩ := h; exact ⟨v, σ, H, I, r, l.rt _ _ q⟩
theorem twp_mono {X : Cx} {st : Stmt} {D D' : Ends} {σ : L2.St} {H : Hp} (l : EndsLe D D') (h : twp X st D σ H) : twp X st D' σ H := fun pins s I => ⟨thn (h pins s I).run fun _ _ q => sp_mono l q⟩
theorem tws_mono {X : Cx} {ss : List Stmt} {D D' : Ends} {σ : L2.St} {H : Hp} (l : EndsLe D D') (h : tws X ss D σ H) : tws X ss D' σ H := fun pins s I => ⟨thn (h pins s I).run fun _ _ q => sp_mono l q⟩
theorem Fr.weakP {K : PySem.W.Frag} {N : En} {P P' : Hp} {σ : L2.St} {H : Hp} {ρ : Rho} (f : Fr K N P σ H ρ) (s : Same P' P) : Fr K N P' σ H ρ := by
  obtain ⟨G, a, b, c⟩ := f
  exact ⟨G, a, s.trans b, c⟩
theorem ends_weakP {K : PySem.W.Frag} {N : En} {P P' : Hp} {Φ : Post} (s : Same P' P) : EndsLe (ends K N P Φ) (ends K N P' Φ) :=
  ⟨fun _ _ ⟨ρ, f, q⟩ => ⟨ρ, f.weakP s, q⟩, fun _ _ ⟨d, ⟨G, a, b, c⟩, q⟩ => ⟨d, ⟨G, a, s.trans b, c⟩, q⟩, fun _ _ ⟨ρ, f, q⟩ => ⟨ρ, f.weakP s, q⟩, fun _ _ ⟨ρ, f, q⟩ => ⟨ρ, f.weakP s, q⟩⟩
section
variable {X : Cx} {N : En} {st : Stmt} {rest body orelse : List Stmt} {e a b : Expr} {es : List Expr} {ρ ρ' : Rho} {d d1 d2 : PyData} {pos pos' : Pos} {Φ : Post} {k : Bool} {K : PySem.W.Frag} {P : Hp} {σ : L2.St} {H : Hp} {t : TS}
theorem gs_nil (h : Φ.nx ρ) : GS X N [] ρ Φ := fun P σ H f => fun pins s I => ⟨pss_nil.run pins s σ H _ I ⟨ρ, f, h⟩⟩
theorem gs_cons (h : G1 X N st ρ { Φ with nx := fun ρ' => GS X N rest ρ' Φ }) : GS X N (st :: rest) ρ Φ := fun P σ H f pins s I => Wp.mk <|
  (pss_cons ps_tw pss_tw).run pins s σ H _ I (twp_mono (D := ends X.K N P { Φ with nx := fun ρ' => GS X N rest ρ' Φ }) ⟨fun _ _ ⟨_, f', g⟩ => g P _ _ f', fun _ _ q => q, fun _ _ q => q, fun _ _ q => q⟩ (h P σ H f))
theorem g1_of (h : PS X st t) (hr : forall P σ H, Fr X.K N P σ H ρ -> t (ends X.K N P Φ) σ H) : G1 X N st ρ Φ := fun P σ H f pins s I => ⟨h.run pins s σ H _ I (hr P σ H f)⟩
/-- an expression, then what is to be shown of the state behind it -/
theorem Fr.ev {te : TE} {Q : VK} (f : Fr K N P σ H ρ) (h : EvR K te ρ d) (q : forall v G H', ExN N G H' -> Same P G -> Sta K G H' σ ρ -> (forall (i : Nat) (ds : Own) (p : Addr), ρ[i]? = some (.owx ds) -> σ[i]? = some (some (.ref p)) -> N.h p = none) -> Dq K G v d -> Q v H') : te σ H Q := by
  obtain ⟨G, e0, sp, sta, fr⟩ := f
  exact h σ G H Q sta fun v G' H' e1 dv => q v G' H' (e0.trans e1) (sp.trans e1.g) (sta.ext e1) fr dv
theorem Fr.evT {tt : TT} {Q : Bool -> Hp -> Prop} (f : Fr K N P σ H ρ) (h : EvT K tt ρ k) (q : forall H', Fr K N P σ H' ρ -> Q k H') : tt σ H Q := by
  obtain ⟨G, e0, sp, sta, fr⟩ := f
  exact h σ G H Q sta fun G' H' e1 => q H' ⟨G', e0.trans e1, sp.trans e1.g, sta.ext e1, fr⟩
theorem fresh_set {σ : L2.St} {h0 : Hp} {i : Nat} {v : V} (fr : forall (i : Nat) (ds : Own) (p : Addr), ρ[i]? = some (.owx ds) -> σ[i]? = some (some (.ref p)) -> h0 p = none) :
    forall (j : Nat) (ds : Own) (p : Addr), (ρ.set i (.dat d))[j]? = some (.owx ds) -> (σ.set i (some v))[j]? = some (some (.ref p)) -> h0 p = none := fun j ds p h1 h2 => by
  have n : i ≠ j := fun z => by
    subst z
    have hl := (List.getElem?_eq_some_iff.mp h1).1
    rw [List.length_set] at hl
    rw [List.getElem?_set_self hl] at h1
    cases h1
  rw [List.getElem?_set_ne n] at h1 h2
  exact fr j ds p h1 h2
/-! ### statements -/
theorem g1_set (i : Nat) {x : Str} (he : GE X e ρ d) (h : Φ.nx (ρ.set i (.dat d))) (hN : X.N.Nodup) (hi : X.N[i]? = some x := by rfl) (hx : Loc X.env.scope x := by first | exact Or.inl rfl | exact Or.inr rfl) (hs : swapsWith e (some (.Name x pos')) pos.line X.env = pure false := by rfl)
    (hf : X.fn x = true ∨ X.env.scope.names.lookup x = some .local := by first | exact .inl rfl | exact .inr rfl | assumption) : G1 X N (.Assign [.Name x pos'] e pos) ρ Φ :=
  g1_of (ps_set hN hi hx pe_tw hs hf) fun P σ H f => f.ev he fun v G H' e1 sp sta fr dv => ⟨_, ⟨G, e1, sp, sta.set i dv, fresh_set fr⟩, h⟩
theorem g1_expr (he : GE X e ρ d) (h : Φ.nx ρ) (hs : swapsWith e none pos.line X.env = pure false := by rfl) : G1 X N (.Expr e pos) ρ Φ :=
  g1_of (ps_expr pe_tw hs) fun P σ H f => f.ev he fun v G H' e1 sp sta fr dv => ⟨_, ⟨G, e1, sp, sta, fr⟩, h⟩
theorem g1_ret (he : GE X e ρ d) (h : Φ.rt d) (hm : MRet ρ Φ.mm := by exact trivial) : G1 X N (.Return (some e) pos) ρ Φ :=
  g1_of (ps_ret pe_tw) fun P σ H f => f.ev he fun v G H' e1 sp sta fr dv => ⟨d, ⟨G, e1, sp, dv, hm.ok sta⟩, h⟩
theorem g1_retN (h : Φ.rt .none) (hm : MRet ρ Φ.mm := by exact trivial) : G1 X N (.Return none pos) ρ Φ :=
  g1_of ps_retN fun P σ H f => by
    obtain ⟨G, e0, sp, sta, fr⟩ := f
    exact ⟨.none, ⟨G, e0, sp, .non, hm.ok sta⟩, h⟩
theorem g1_pass (h : Φ.nx ρ) : G1 X N (.Pass pos) ρ Φ := g1_of ps_pass fun P σ H f => ⟨ρ, f, h⟩
theorem g1_break (h : Φ.bk ρ) : G1 X N (.Break pos) ρ Φ := g1_of ps_break fun P σ H f => ⟨ρ, f, h⟩
theorem g1_cont (h : Φ.ct ρ) : G1 X N (.Continue pos) ρ Φ := g1_of ps_continue fun P σ H f => ⟨ρ, f, h⟩
theorem g1_if {c : Expr} (hc : GT X c ρ k) (ht : k = true -> GS X N body ρ Φ) (hf : k = false -> GS X N orelse ρ Φ) : G1 X N (.If c body orelse pos) ρ Φ :=
  g1_of (ps_if pt_tw pss_tw pss_tw) fun P σ H f => f.evT hc fun H' f' => by
    cases k with
    | true => rw [if_pos rfl]; exact ht rfl P σ H' f'
    | false => rw [if_neg Bool.false_ne_true]; exact hf rfl P σ H' f'
/-- forgetting -/
theorem Fr.weak (f : Fr K N P σ H ρ) (hl : ρ'.length = ρ.length) (h : forall (i : Nat) (c : Cell), ρ'[i]? = some c -> c = Cell.any ∨ ρ[i]? = some c) : Fr K N P σ H ρ' := by
  obtain ⟨G, e0, sp, sta, fr⟩ := f
  refine ⟨G, e0, sp, sta.weak hl h, fun i ds p h1 h2 => ?_⟩
  rcases h i _ h1 with z | z
  · cases z
  · exact fr i ds p z h2
/-! ### targets -/
inductive Tg where
  | nm (i : Nat) | tp (is : List Nat)
def putAll : List Nat -> List PyData -> Rho -> Option Rho
  | [], [], ρ => some ρ
  | i :: is, d :: ds, ρ => putAll is ds (ρ.set i (.dat d))
  | _, _, _ => none
def Tg.put : Tg -> PyData -> Rho -> Option Rho
  | .nm i, d, ρ => some (ρ.set i (.dat d))
  | .tp is, .tuple ds, ρ => putAll is ds ρ
  | _, _, _ => none
def Tg.sl : Tg -> List Nat
  | .nm i => [i]
  | .tp is => is
def rdAll : List Nat -> TGs
  | [] => gNil
  | i :: is => gCons (gName i) (rdAll is)
def Tg.rd (K : PySem.W.Frag) : Tg -> TG
  | .nm i => gName i
  | .tp is => gTup K is.length (rdAll is)
def GTg (X : Cx) (tg : Expr) (T : Tg) : Prop := PG X tg (T.rd X.K)
theorem tg_nm (i : Nat) {x : Str} (hN : X.N.Nodup) (hi : X.N[i]? = some x := by rfl) (hx : Loc X.env.scope x := by first | exact Or.inl rfl | exact Or.inr rfl) (hf : X.fn x = true ∨ X.env.scope.names.lookup x = some .local := by first | exact .inl rfl | exact .inr rfl | assumption) : GTg X (.Name x pos) (.nm i) := pg_name hN hi hx hf
theorem tg_tp {is : List Nat} {k : Nat} (h : PGs X es (rdAll is)) (hc : X.calm = true := by rfl) (hn : (assignEach es X.env).length = is.length := by rfl) (hst : (assignEach es X.env).findIdx? (·.1) = none := by rfl) : GTg X (.Tuple es k pos) (.tp is) := pg_tup hc h hn hst
theorem tgs_nil : PGs X [] (rdAll []) := pgs_nil
theorem tgs_cons (i : Nat) {is : List Nat} {x : Str} (hN : X.N.Nodup) (h : PGs X es (rdAll is)) (hi : X.N[i]? = some x := by rfl) (hx : Loc X.env.scope x := by first | exact Or.inl rfl | exact Or.inr rfl) (hf : X.fn x = true ∨ X.env.scope.names.lookup x = some .local := by first | exact .inl rfl | exact .inr rfl | assumption)
    (hs : (assignEach (.Name x pos :: es) X.env).map (·.2) = assign (.Name x pos) X.env :: (assignEach es X.env).map (·.2) := by rfl) : PGs X (.Name x pos :: es) (rdAll (i :: is)) := pgs_cons (pg_name hN hi hx hf) h hs
theorem rdAll_ok {K : PySem.W.Frag} {G H : Hp} {Q : L2.St -> Hp -> Prop} : forall {is : List Nat} {ds : List PyData} {vs : List V} {ρ ρ' : Rho} {σ : L2.St}, putAll is ds ρ = some ρ' -> Sta K G H σ ρ -> DqAll K G vs ds ->
    (forall σ', Sta K G H σ' ρ' -> (forall j, j ∉ is -> σ'[j]? = σ[j]?) -> Q σ' H) -> rdAll is vs σ H Q
  | [], [], _, _, _, _, e, s, .nil, q => by
    cases e
    exact ⟨rfl, q _ s fun _ _ => rfl⟩
  | i :: is, d :: ds, _, ρ, ρ', σ, e, s, .cons (v := v) h t, q => by
    refine ⟨_, _, rfl, ?_⟩
    refine rdAll_ok (is := is) (ds := ds) (ρ := ρ.set i (.dat d)) (σ := σ.set i (some v)) e (s.set i h) t fun σ' s' hj => q σ' s' fun j hn => ?_
    rw [hj j (fun z => hn (List.mem_cons_of_mem _ z)), List.getElem?_set_ne (fun z => hn (by rw [z]; exact List.mem_cons_self))]
  | [], _ :: _, _, _, _, _, e, _, _, _ => by simp [putAll] at e
  | _ :: _, [], _, _, _, _, e, _, _, _ => by simp [putAll] at e
theorem putAll_own {ds' : Own} {j : Nat} : forall {is : List Nat} {ds : List PyData} {ρ ρ' : Rho}, putAll is ds ρ = some ρ' -> ρ'[j]? = some (.owx ds') -> j ∉ is ∧ ρ[j]? = some (.owx ds')
  | [], [], _, _, e, h => by cases e; exact ⟨by simp, h⟩
  | i :: is, d :: ds, ρ, ρ', e, h => by
    obtain ⟨h1, h2⟩ := putAll_own (is := is) (ds := ds) (ρ := ρ.set i (.dat d)) e h
    have n : i ≠ j := fun z => by
      subst z
      have hl := (List.getElem?_eq_some_iff.mp h2).1
      rw [List.length_set] at hl
      rw [List.getElem?_set_self hl] at h2
      cases h2
    rw [List.getElem?_set_ne n] at h2
    exact ⟨fun z => (List.mem_cons.mp z).elim (fun y => n y.symm) h1, h2⟩
  | [], _ :: _, _, _, e, _ => by simp [putAll] at e
  | _ :: _, [], _, _, e, _ => by simp [putAll] at e
theorem Tg.put_own {T : Tg} {j : Nat} {ds' : Own} (h : T.put d ρ = some ρ') (ho : ρ'[j]? = some (.owx ds')) : j ∉ T.sl ∧ ρ[j]? = some (.owx ds') := by
  cases T with
  | nm i =>
    have e : ρ.set i (.dat d) = ρ' := Option.some.inj h
    subst e
    have n : i ≠ j := fun z => by
      subst z
      have hl := (List.getElem?_eq_some_iff.mp ho).1
      rw [List.length_set] at hl
      rw [List.getElem?_set_self hl] at ho
      cases ho
    rw [List.getElem?_set_ne n] at ho
    exact ⟨by simpa [Tg.sl] using fun z : j = i => n z.symm, ho⟩
  | tp is =>
    cases d with
    | tuple ds => exact putAll_own h ho
    | _ => cases h
theorem Tg.rd_ok {T : Tg} {G : Hp} {v : V} {Q : L2.St -> Hp -> Prop} (hp : T.put d ρ = some ρ') (s : Sta K G H σ ρ) (dv : Dq K G v d) (q : forall σ', Sta K G H σ' ρ' -> (forall j, j ∉ T.sl -> σ'[j]? = σ[j]?) -> Q σ' H) : T.rd K v σ H Q := by
  cases T with
  | nm i =>
    have e : ρ.set i (.dat d) = ρ' := Option.some.inj hp
    subst e
    exact q _ (s.set i dv) fun j hj => List.getElem?_set_ne (fun z => hj (by rw [z]; simp [Tg.sl]))
  | tp is =>
    cases dv with
    | tup sq al =>
      refine ⟨_, _, rfl, sqT_mono s.gh sq, ?_, ?_⟩
      · have l1 : forall {is : List Nat} {ds : List PyData} {ρ ρ' : Rho}, putAll is ds ρ = some ρ' -> ds.length = is.length := fun {is} => by
          induction is with
          | nil => intro ds ρ ρ' e; cases ds with
            | nil => rfl
            | cons _ _ => simp [putAll] at e
          | cons i is ih => intro ds ρ ρ' e; cases ds with
            | nil => simp [putAll] at e
            | cons _ ds => rw [List.length_cons, List.length_cons, ih (ds := ds) e]
        rw [al.length]
        exact l1 hp
      · exact rdAll_ok hp s al q
    | _ => cases hp
theorem g1_asg {tg : Expr} {T : Tg} (ht : GTg X tg T) (he : GE X e ρ d) (hp : T.put d ρ = some ρ') (h : Φ.nx ρ') (hs : swapsWithSole [tg] e pos.line X.env = pure false := by rfl) (hw : swappedStores [tg] e X.env = pure none := by rfl)
    (h1 : (assignEach [tg] X.env).map (·.2) = [assign tg X.env] := by rfl) : G1 X N (.Assign [tg] e pos) ρ Φ :=
  g1_of (ps_asg pe_tw ht hs hw h1) fun P σ H f => f.ev he fun v G H' e1 sp sta fr dv => Tg.rd_ok hp sta dv fun σ' s' hj => ⟨ρ', ⟨G, e1, sp, s', fun i ds p o1 o2 => by
    obtain ⟨n1, n2⟩ := Tg.put_own hp o1
    rw [hj i n1] at o2
    exact fr i ds p n2 o2⟩, h⟩
theorem Fr.evA {ta : TA} {ds : List PyData} {Q : List V -> Hp -> Prop} (f : Fr K N P σ H ρ) (h : EvA K ta ρ ds) (q : forall v G H', ExN N G H' -> Same P G -> Sta K G H' σ ρ -> (forall (i : Nat) (ds : Own) (p : Addr), ρ[i]? = some (.owx ds) -> σ[i]? = some (some (.ref p)) -> N.h p = none) -> DqAll K G v ds -> Q v H') : ta σ H Q := by
  obtain ⟨G, e0, sp, sta, fr⟩ := f
  exact h σ G H Q sta fun v G' H' e1 dv => q v G' H' (e0.trans e1) (sp.trans e1.g) (sta.ext e1) fr dv
/-- a, b = e1, e2 -/
theorem g1_par (i j : Nat) {x y : Str} {px py pt pt2 : Pos} {kt k2 : Nat} (ha : GA X [a, b] ρ [d1, d2]) (h : Φ.nx ((ρ.set i (.dat d1)).set j (.dat d2))) (hN : X.N.Nodup) (hw : swappedStores [.Tuple [.Name x px, .Name y py] kt pt] (.Tuple [a, b] k2 pt2) X.env = pure (some [x, y]) := by rfl) (hc : X.calm = true := by rfl)
    (hi : X.N[i]? = some x := by rfl) (hj : X.N[j]? = some y := by rfl) (hij : i ≠ j := by decide) (hx : X.env.scope.names.lookup x = some .local := by rfl) (hy : X.env.scope.names.lookup y = some .local := by rfl)
    (hs : swapsWithSole [.Tuple [.Name x px, .Name y py] kt pt] (.Tuple [a, b] k2 pt2) pos.line X.env = pure false := by rfl) : G1 X N (.Assign [.Tuple [.Name x px, .Name y py] kt pt] (.Tuple [a, b] k2 pt2) pos) ρ Φ :=
  g1_of (ps_par hc hN hi hj hij hx hy pa_tw hw hs) fun P σ H f => f.evA ha fun vs G H' e1 sp sta fr dv => by
    cases dv with
    | cons h1 h2 =>
      cases h2 with
      | cons h3 h4 =>
        cases h4
        exact ⟨_, _, rfl, _, ⟨G, e1, sp, (sta.set i h1).set j h3, fresh_set (fresh_set fr)⟩, h⟩
theorem g1_par3 (i j l : Nat) {x y z : Str} {c : Expr} {d3 : PyData} {px py pz pt pt2 : Pos} {kt k2 : Nat} (ha : GA X [a, b, c] ρ [d1, d2, d3]) (h : Φ.nx (((ρ.set i (.dat d1)).set j (.dat d2)).set l (.dat d3))) (hN : X.N.Nodup)
    (hw : swappedStores [.Tuple [.Name x px, .Name y py, .Name z pz] kt pt] (.Tuple [a, b, c] k2 pt2) X.env = pure (some [x, y, z]) := by rfl) (hc : X.calm = true := by rfl)
    (hi : X.N[i]? = some x := by rfl) (hj : X.N[j]? = some y := by rfl) (hl : X.N[l]? = some z := by rfl) (hij : i ≠ j := by decide) (hil : i ≠ l := by decide) (hjl : j ≠ l := by decide) (hx : X.env.scope.names.lookup x = some .local := by rfl) (hy : X.env.scope.names.lookup y = some .local := by rfl) (hz : X.env.scope.names.lookup z = some .local := by rfl)
    (hs : swapsWithSole [.Tuple [.Name x px, .Name y py, .Name z pz] kt pt] (.Tuple [a, b, c] k2 pt2) pos.line X.env = pure false := by rfl) : G1 X N (.Assign [.Tuple [.Name x px, .Name y py, .Name z pz] kt pt] (.Tuple [a, b, c] k2 pt2) pos) ρ Φ :=
  g1_of (ps_par3 hc hN hi hj hl hij hil hjl hx hy hz pa_tw hw hs) fun P σ H f => f.evA ha fun vs G H' e1 sp sta fr dv => by
    cases dv with
    | cons h1 h2 =>
      cases h2 with
      | cons h3 h4 =>
        cases h4 with
        | cons h5 h6 =>
          cases h6
          exact ⟨_, _, _, rfl, _, ⟨G, e1, sp, ((sta.set i h1).set j h3).set l h5, fresh_set (fresh_set (fresh_set fr))⟩, h⟩
end
end Gd

namespace Gd
open PySem PySem.Spec L2
section
variable {X : Cx} {N : En} {st : Stmt} {rest body orelse ss : List Stmt} {e a b : Expr} {es : List Expr} {ρ ρ' : Rho} {d d1 d2 : PyData} {ds : List PyData} {pos pos' : Pos} {Φ : Post} {k : Bool} {K : PySem.W.Frag} {P : Hp} {σ : L2.St} {G H : Hp} {t : TS} {p : Addr} {vs : List V}
/-! ### lists of the frame's own -/
theorem set_get {α : Type} {l : List α} {i j : Nat} {x y : α} (h : (l.set i x)[j]? = some y) : (i = j ∧ y = x) ∨ (i ≠ j ∧ l[j]? = some y) := by
  by_cases hij : i = j
  · subst hij
    have hl := (List.getElem?_eq_some_iff.mp h).1
    rw [List.length_set] at hl
    rw [List.getElem?_set_self hl] at h
    exact .inl ⟨rfl, (Option.some.inj h).symm⟩
  · rw [List.getElem?_set_ne hij] at h
    exact .inr ⟨hij, h⟩
theorem Sta.setOwx {u : HO} {x : Own} (s : Sta K G H σ ρ) (i : Nat) (hp : H p = none) (ok : OwnOk K G p u x) : Sta K G (upd H p u) (σ.set i (some (.ref p))) (ρ.set i (.owx x)) := by
  have ext : Ext G H G (upd H p u) := ⟨Same.refl G, same_new hp, s.gh.trans (same_new hp), fun _ _ => rfl⟩
  refine ⟨ext.gh, by rw [List.length_set, List.length_set]; exact s.len, fun j c hc => ?_, fun a b q es fs h1 h2 h3 h4 => ?_⟩
  · rcases set_get hc with ⟨rfl, rfl⟩ | ⟨hij, hc⟩
    · have hl := (List.getElem?_eq_some_iff.mp hc).1
      rw [List.length_set] at hl
      exact ⟨_, List.getElem?_set_self (by rw [s.len]; exact hl), p, u, rfl, s.gh.free hp, upd_same, ok⟩
    · obtain ⟨ov, e1, e2⟩ := s.at_ j c hc
      exact ⟨ov, by rw [List.getElem?_set_ne hij]; exact e1, e2.ext ext⟩
  · have old : forall (j : Nat) (es : Own), i ≠ j -> ρ[j]? = some (.owx es) -> σ[j]? = some (some (.ref q)) -> q ≠ p := fun j es _ o1 o2 z => by
      obtain ⟨p', u', e1, e2, e3, _⟩ := s.owx o1
      rw [o2] at e1
      cases e1
      rw [z, hp] at e3
      cases e3
    rcases set_get h1 with ⟨rfl, _⟩ | ⟨n1, o1⟩
    · rcases set_get h2 with ⟨rfl, _⟩ | ⟨n2, o2⟩
      · rfl
      · rw [List.getElem?_set_ne n2] at h4
        rcases set_get h3 with ⟨_, z⟩ | ⟨z, _⟩
        · cases z
          exact absurd rfl (old b fs n2 o2 h4)
        · exact absurd rfl z
    · rw [List.getElem?_set_ne n1] at h3
      rcases set_get h2 with ⟨rfl, _⟩ | ⟨n2, o2⟩
      · rcases set_get h4 with ⟨_, z⟩ | ⟨z, _⟩
        · cases z
          exact absurd rfl (old a es n1 o1 h3)
        · exact absurd rfl z
      · rw [List.getElem?_set_ne n2] at h4
        exact s.apart a b q es fs o1 o2 h3 h4
theorem Sta.setOwn (s : Sta K G H σ ρ) (i : Nat) (hp : H p = none) (dv : DqAll K G vs ds) : Sta K G (upd H p (.lst vs)) (σ.set i (some (.ref p))) (ρ.set i (.own ds)) := s.setOwx i hp ⟨vs, rfl, dv⟩
theorem Sta.mutOwx {i : Nat} {u : HO} {x y : Own} (s : Sta K G H σ ρ) (hi : ρ[i]? = some (.owx x)) (hp : σ[i]? = some (some (.ref p))) (ok : OwnOk K G p u y) : Sta K G (upd H p u) σ (ρ.set i (.owx y)) := by
  obtain ⟨p', vs0, e1, e2, e3, _⟩ := s.owx hi
  rw [hp] at e1
  cases e1
  have gh : Same G (upd H p u) := fun b o e => by rw [upd_ne (ne_of_none e e2)]; exact s.gh b o e
  refine ⟨gh, by rw [List.length_set]; exact s.len, fun j c hc => ?_, fun a b q xs ys h1 h2 h3 h4 => ?_⟩
  · rcases set_get hc with ⟨rfl, rfl⟩ | ⟨hij, hc⟩
    · exact ⟨_, hp, p, u, rfl, e2, upd_same, ok⟩
    · obtain ⟨ov, o1, o2⟩ := s.at_ j c hc
      refine ⟨ov, o1, ?_⟩
      cases c with
      | any => trivial
      | raw v => exact o2
      | dat d => exact o2
      | fdc hs kvs => exact o2
      | pin v φ => exact o2
      | owx xs =>
        obtain ⟨q, ws, r1, r2, r3, r4⟩ := o2
        subst r1
        have n : q ≠ p := fun z => by
          subst z
          exact hij (s.apart i j q _ _ hi hc hp o1)
        exact ⟨q, ws, rfl, r2, by rw [upd_ne n]; exact r3, r4⟩
  · have fix : forall (j : Nat) (ys : Own), (ρ.set i (.owx y))[j]? = some (.owx ys) -> ∃ zs, ρ[j]? = some (.owx zs) := fun j ys h => by
      rcases set_get h with ⟨rfl, _⟩ | ⟨_, o⟩
      · exact ⟨_, hi⟩
      · exact ⟨ys, o⟩
    obtain ⟨z1, f1⟩ := fix a xs h1
    obtain ⟨z2, f2⟩ := fix b ys h2
    exact s.apart a b q z1 z2 f1 f2 h3 h4
theorem Sta.mutOwn {i : Nat} {es : List PyData} (s : Sta K G H σ ρ) (hi : ρ[i]? = some (.own es)) (hp : σ[i]? = some (some (.ref p))) (dv : DqAll K G vs ds) : Sta K G (upd H p (.lst vs)) σ (ρ.set i (.own ds)) := s.mutOwx hi hp ⟨vs, rfl, dv⟩
theorem g1_own (i : Nat) {x : Str} (ha : GA X es ρ ds) (h : Φ.nx (ρ.set i (.own ds))) (hN : X.N.Nodup) (hz : ds.length ≤ 100000 := by exact Nat.le_of_ble_eq_true rfl) (hi : X.N[i]? = some x := by rfl) (hx : Loc X.env.scope x := by first | exact Or.inl rfl | exact Or.inr rfl) {p2 : Pos} (hs : swapsWith (.List es p2) (some (.Name x pos')) pos.line X.env = pure false := by rfl)
    (hf : X.fn x = true ∨ X.env.scope.names.lookup x = some .local := by first | exact .inl rfl | exact .inr rfl | assumption) : G1 X N (.Assign [.Name x pos'] (.List es p2) pos) ρ Φ :=
  g1_of (ps_set hN hi hx (pe_lst pa_tw) hs hf) fun P σ H f => f.evA ha fun vs G H' e1 sp sta fr dv => by
    refine ⟨by rw [dv.length]; exact Nat.le_trans hz (by decide), fun p hp => ?_⟩
    refine ⟨_, ⟨G, ⟨⟨e1.g, e1.h.trans (same_new hp), e1.gh.trans (same_new hp), e1.old⟩, e1.pin⟩, sp, sta.setOwn i hp dv, fun j xs q o1 o2 => ?_⟩, h⟩
    rcases set_get o1 with ⟨rfl, _⟩ | ⟨n, o1⟩
    · rcases set_get o2 with ⟨_, z⟩ | ⟨z, _⟩
      · cases z
        exact e1.h.free hp
      · exact absurd rfl z
    · rw [List.getElem?_set_ne n] at o2
      exact fr j xs q o1 o2
theorem mut_ext {N : En} (e1 : ExN N G H) (gp : G p = none) (np : N.h p = none) {o : HO} : ExN N G (upd H p o) :=
  ⟨⟨e1.g, fun b u q => by rw [upd_ne (ne_of_none q np)]; exact e1.h b u q, fun b u q => by rw [upd_ne (ne_of_none q gp)]; exact e1.gh b u q, e1.old⟩, e1.pin⟩
theorem fresh_mut {h0 : Hp} {i : Nat} {x y : Own} (hi : ρ[i]? = some (.owx x)) (fr : forall (i : Nat) (ds : Own) (p : Addr), ρ[i]? = some (.owx ds) -> σ[i]? = some (some (.ref p)) -> h0 p = none) :
    forall (j : Nat) (xs : Own) (p : Addr), (ρ.set i (.owx y))[j]? = some (.owx xs) -> σ[j]? = some (some (.ref p)) -> h0 p = none := fun j xs p h1 h2 => by
  rcases set_get h1 with ⟨rfl, _⟩ | ⟨_, o⟩
  · exact fr i _ p hi h2
  · exact fr j xs p o h2
theorem g1_append (i : Nat) {x : Str} {p1 p2 p3 : Pos} (ho : ρ[i]? = some (.own ds)) (he : GE X e ρ d) (hz : ds.length < 100000) (h : Φ.nx (ρ.set i (.own (ds ++ [d])))) (hi : X.N[i]? = some x := by rfl) (hv : Vis X.env.scope x := by first | exact Or.inl rfl | exact Or.inr (Or.inl rfl) | exact Or.inr (Or.inr rfl)) (hd : (x == ("__debug__" : Str)) = false := by decide) (hcd : (x == ("__classdict__" : Str)) = false := by decide)
    (hbase : attributeBase (.Name x p1) "append" X.env (eval (.Name x p1) X.env) = eval (.Name x p1) X.env := by rfl)
    (hfew : ((backTo p3 (starEach (e :: []) X.env)).all (fun x => !x.1) && (backToKw p3 (keywordEach [] X.env)).all (fun x => x.1.isSome) && decide ((e :: []).length + ([] : List Keyword).length + (if ([] : List Keyword).isEmpty then 0 else 1) < 30)) = true := by rfl)
    (hline : (p2.endLine == p3.line) = true := by rfl) (hs1 : starEach (e :: []) X.env = (false, eval e X.env) :: starEach [] X.env := by rfl) (hplain : (backTo p3 (starEach [] X.env)).any (·.1) = false := by rfl)
    (hs : swapsWith (.Call (.Attribute (.Name x p1) "append" p2) [e] [] p3) none pos.line X.env = pure false := by rfl) : G1 X N (.Expr (.Call (.Attribute (.Name x p1) "append" p2) [e] [] p3) pos) ρ Φ :=
  g1_of (ps_expr (pe_bm PySem.F.plainAttrs_list PySem.F.slot_list_append PySem.F.type_list_append mt_append (pe_var hi hv hd hcd) (pa_cons pe_tw pa_nil hs1) hbase hfew hline hs1 hplain) hs) fun P σ H f => by
    obtain ⟨G, e0, sp, sta, fr⟩ := f
    obtain ⟨p, vs, o1, o2, o3, o4⟩ := sta.own ho
    refine ⟨.ref p, o1, .inl ⟨rfl, _, .inl (.inl o3)⟩, ?_⟩
    refine he σ G H _ sta fun v G' H' e1 dv => ?_
    have sta' := sta.ext e1
    obtain ⟨p', vs', r1, r2, r3, r4⟩ := sta'.own ho
    rw [o1] at r1
    cases r1
    refine ⟨p, vs', v, rfl, rfl, r3, by rw [r4.length]; exact Nat.lt_of_lt_of_le hz (by decide), ?_⟩
    exact ⟨_, ⟨G', mut_ext (e0.trans e1) r2 (fr i _ p ho o1), sp.trans e1.g, sta'.mutOwn ho o1 (r4.append (.cons dv .nil)), fresh_mut ho fr⟩, h⟩
/-- target = x.pop() -/
theorem g1_pop (i : Nat) {x : Str} {p1 p2 p3 : Pos} {tg : Expr} {T : Tg} (ho : ρ[i]? = some (.own (ds ++ [d]))) (ht : GTg X tg T) (hp : T.put d (ρ.set i (.own ds)) = some ρ') (h : Φ.nx ρ') (hi : X.N[i]? = some x := by rfl) (hv : Vis X.env.scope x := by first | exact Or.inl rfl | exact Or.inr (Or.inl rfl) | exact Or.inr (Or.inr rfl)) (hd : (x == ("__debug__" : Str)) = false := by decide) (hcd : (x == ("__classdict__" : Str)) = false := by decide)
    (hbase : attributeBase (.Name x p1) "pop" X.env (eval (.Name x p1) X.env) = eval (.Name x p1) X.env := by rfl) (hline : (p2.endLine == p3.line) = true := by rfl)
    (hs : swapsWithSole [tg] (.Call (.Attribute (.Name x p1) "pop" p2) [] [] p3) pos.line X.env = pure false := by rfl) (hw : swappedStores [tg] (.Call (.Attribute (.Name x p1) "pop" p2) [] [] p3) X.env = pure none := by rfl)
    (h1 : (assignEach [tg] X.env).map (·.2) = [assign tg X.env] := by rfl) : G1 X N (.Assign [tg] (.Call (.Attribute (.Name x p1) "pop" p2) [] [] p3) pos) ρ Φ :=
  g1_of (ps_asg (pe_bm0 PySem.F.plainAttrs_list PySem.F.slot_list_pop PySem.F.type_list_pop mt_pop (pe_var hi hv hd hcd) hbase hline) ht hs hw h1) fun P σ H f => by
    obtain ⟨G, e0, sp, sta, fr⟩ := f
    obtain ⟨p, vs, o1, o2, o3, o4⟩ := sta.own ho
    have hl : vs.length - 1 = ds.length := by rw [o4.length, List.length_append]; exact Nat.add_sub_cancel _ _
    obtain ⟨v, hv', dv⟩ := o4.get (i := ds.length) (d := d) (by simp)
    refine ⟨.ref p, o1, .inl ⟨rfl, _, .inl (.inl o3)⟩, p, vs, v, rfl, rfl, o3, by rw [hl]; exact hv', ?_⟩
    have dl : DqAll X.K G vs.dropLast ds := by
      have := o4.dropLast
      rwa [List.dropLast_concat] at this
    have sta' := sta.mutOwn ho o1 dl
    exact Tg.rd_ok hp sta' dv fun σ' s' hj => ⟨ρ', ⟨G, mut_ext e0 o2 (fr i _ p ho o1), sp, s', fun j xs q r1 r2 => by
      obtain ⟨n1, n2⟩ := Tg.put_own hp r1
      rw [hj j n1] at r2
      exact fresh_mut ho fr j xs q n2 r2⟩, h⟩
/-! ### an own list becomes data -/
theorem Sta.freeze {i : Nat} (s : Sta K G H σ ρ) (hi : ρ[i]? = some (.own ds)) (hp : σ[i]? = some (some (.ref p))) (gp : G p = none) (h3 : H p = some (.lst vs)) (dv : DqAll K G vs ds) : Sta K (upd G p (.lst vs)) H σ (ρ.set i (.dat (.list ds))) := by
  have gg : Same G (upd G p (.lst vs)) := same_new gp
  refine ⟨fun b o q => ?_, by rw [List.length_set]; exact s.len, fun j c hc => ?_, fun a b q xs ys h1 h2 h3 h4 => ?_⟩
  · by_cases hb : b = p
    · subst hb
      rw [upd_same] at q
      cases q
      exact h3
    · rw [upd_ne hb] at q
      exact s.gh b o q
  · rcases set_get hc with ⟨rfl, rfl⟩ | ⟨hij, hc⟩
    · exact ⟨_, hp, .ref p, rfl, .lst upd_same (dv.mono gg)⟩
    · obtain ⟨ov, o1, o2⟩ := s.at_ j c hc
      refine ⟨ov, o1, ?_⟩
      cases c with
      | any => trivial
      | raw v => exact o2
      | dat d =>
        obtain ⟨v, r1, r2⟩ := o2
        exact ⟨v, r1, r2.mono gg⟩
      | fdc hs kvs =>
        obtain ⟨q, ob, r1, r2, r3⟩ := o2
        exact ⟨q, ob, r1, gg _ _ r2, r3.mono gg⟩
      | pin v φ =>
        obtain ⟨r1, G0, r2, r3⟩ := o2
        exact ⟨r1, G0, r2.trans gg, r3⟩
      | owx xs =>
        obtain ⟨q, ws, r1, r2, r3, r4⟩ := o2
        subst r1
        have n : q ≠ p := fun z => by
          subst z
          exact hij (s.apart i j q _ _ hi hc hp o1)
        exact ⟨q, ws, rfl, by rw [upd_ne n]; exact r2, r3, r4.mono gg⟩
  · rcases set_get h1 with ⟨_, z⟩ | ⟨_, o1⟩
    · cases z
    rcases set_get h2 with ⟨_, z⟩ | ⟨_, o2⟩
    · cases z
    exact s.apart a b q xs ys o1 o2 h3 h4
theorem Fr.freeze {i : Nat} (f : Fr K N P σ H ρ) (hi : ρ[i]? = some (.own ds)) : Fr K N P σ H (ρ.set i (.dat (.list ds))) := by
  obtain ⟨G, e0, sp, sta, fr⟩ := f
  obtain ⟨p, vs, o1, o2, o3, o4⟩ := sta.own hi
  have np := fr i _ p hi o1
  have st' := sta.freeze hi o1 o2 o3 o4
  refine ⟨_, ⟨⟨e0.g.trans (same_new o2), e0.h, st'.gh, fun a ha => ?_⟩, e0.pin.trans (same_new o2)⟩, sp.trans (same_new o2), st', fun j xs q r1 r2 => ?_⟩
  · rw [upd_ne (fun z => ha (by rw [z]; exact np))]
    exact e0.old a ha
  · rcases set_get r1 with ⟨_, z⟩ | ⟨_, r1⟩
    · cases z
    · exact fr j xs q r1 r2
theorem gs_freeze (i : Nat) (hi : ρ[i]? = some (.own ds)) (h : GS X N ss (ρ.set i (.dat (.list ds))) Φ) : GS X N ss ρ Φ := fun P σ H f => h P σ H (f.freeze hi)
theorem gs_weak (hl : ρ'.length = ρ.length) (hc : forall (i : Nat) (c : Cell), ρ'[i]? = some c -> c = Cell.any ∨ ρ[i]? = some c) (h : GS X N ss ρ' Φ) : GS X N ss ρ Φ := fun P σ H f => h P σ H (f.weak hl hc)
/-- an own list is read where the answer names no object -/
theorem ev_thaw {te : TE} (i : Nat) (hi : ρ[i]? = some (.own ds)) (ha : atom d = true) (h : EvR K te (ρ.set i (.dat (.list ds))) d) : EvR K te ρ d := fun σ G H Q s q => by
  obtain ⟨p, vs, o1, o2, o3, o4⟩ := s.own hi
  refine h σ _ H Q (s.freeze hi o1 o2 o3 o4) fun v G' H' e1 dv => ?_
  refine q v (fun x => if x = p then none else G' x) H' ⟨fun b o z => ?_, e1.h, fun b o z => ?_, fun x hx => ?_⟩ (dv.atom ha)
  · have n : b ≠ p := ne_of_none z o2
    show (if b = p then none else G' b) = some o
    rw [if_neg n]
    exact e1.g b o (by rw [upd_ne n]; exact z)
  · have z' : (if b = p then none else G' b) = some o := z
    by_cases hb : b = p
    · rw [if_pos hb] at z'; cases z'
    · rw [if_neg hb] at z'
      exact e1.gh b o z'
  · show (if x = p then none else G' x) = G x
    by_cases hb : x = p
    · rw [if_pos hb, hb]
      exact o2.symm
    · rw [if_neg hb, e1.old x hx, upd_ne hb]
theorem ge_thaw (i : Nat) (h : GE X e (ρ.set i (.dat (.list ds))) d) (hi : ρ[i]? = some (.own ds) := by rfl) (ha : atom d = true := by rfl) : GE X e ρ d := ev_thaw i hi ha h
theorem ev_thawT {te : TT} (i : Nat) (hi : ρ[i]? = some (.own ds)) (h : EvT K te (ρ.set i (.dat (.list ds))) k) : EvT K te ρ k := fun σ G H Q s q => by
  obtain ⟨p, vs, o1, o2, o3, o4⟩ := s.own hi
  refine h σ _ H Q (s.freeze hi o1 o2 o3 o4) fun G' H' e1 => ?_
  refine q (fun x => if x = p then none else G' x) H' ⟨fun b o z => ?_, e1.h, fun b o z => ?_, fun x hx => ?_⟩
  · have n : b ≠ p := ne_of_none z o2
    show (if b = p then none else G' b) = some o
    rw [if_neg n]
    exact e1.g b o (by rw [upd_ne n]; exact z)
  · have z' : (if b = p then none else G' b) = some o := z
    by_cases hb : b = p
    · rw [if_pos hb] at z'; cases z'
    · rw [if_neg hb] at z'
      exact e1.gh b o z'
  · show (if x = p then none else G' x) = G x
    by_cases hb : x = p
    · rw [if_pos hb, hb]
      exact o2.symm
    · rw [if_neg hb, e1.old x hx, upd_ne hb]
theorem gt_thaw (i : Nat) (h : GT X e (ρ.set i (.dat (.list ds))) k) (hi : ρ[i]? = some (.own ds) := by rfl) : GT X e ρ k := ev_thawT i hi h
/-- x[i], x an own list -/
theorem ge_ixOwn (i : Nat) {x : Str} {p1 : Pos} {z : Int} (hb : GE X b ρ (.int z)) (hat : atI ds z = some d) (ho : ρ[i]? = some (.own ds) := by rfl) (hi : X.N[i]? = some x := by rfl) (hv : Vis X.env.scope x := by first | exact Or.inl rfl | exact Or.inr (Or.inl rfl) | exact Or.inr (Or.inr rfl)) (hd : (x == ("__debug__" : Str)) = false := by decide) (hcd : (x == ("__classdict__" : Str)) = false := by decide)
    (hs : PlainIx b := by exact fun _ _ => rfl) : GE X (.Subscript (.Name x p1) b pos) ρ d :=
  ge_of (pe_ix ix_list (pe_var hi hv hd hcd) pe_tw hs) fun σ G H Q s q => by
    obtain ⟨p, vs, o1, o2, o3, o4⟩ := s.own ho
    refine ⟨.ref p, o1, hb σ G H _ s fun v G' H' e1 dv => ?_⟩
    cases dv
    obtain ⟨w, hw, dw⟩ := atI_dp o4 hat
    exact ⟨p, vs, z, w, rfl, rfl, .inl (.inl (e1.h _ _ o3)), hw, q _ _ _ e1 (dw.mono e1.g)⟩
end
end Gd

namespace Gd
open PySem PySem.Spec L2
/-! ### enumerate(text) -/
def Ites (x : Str) : It := ⟨fun i _ => i < x.cps.size, fun i H v H' => ∃ T c, v = .ref T ∧ H T = none ∧ H' = upd H T (.tup [.int (i : Nat), .str ⟨#[c]⟩]) ∧ x.cps[i]? = some c, fun i _ => x.cps.size ≤ i⟩
theorem turn_enumS {P : Program} {w : World} {K : PySem.W.Frag} {elts : List Expr} {kk : Nat} {tpos : Pos} (x : Str) (t : Tok) (e it : Addr) :
    Turn P w K (.Tuple elts kk tpos) (Ites x) [e, it] e (fun i h => (∃ old, IsEnum h e it ((i : Nat) : Int) old) ∧ h.IsStrIter it (strIterType x) x t i ∧ e ≠ it ∧ i ≤ x.cps.size) where
  mem := by simp
  obj := fun i h st b hb => by
    obtain ⟨⟨old, he⟩, ⟨o, ho, hc, hd⟩, _⟩ := st
    have e' : b = e ∨ b = it := by simpa using hb
    rcases e' with z | z
    · rw [z]; exact ⟨_, he, fun v q => nomatch q⟩
    · rw [z]; exact ⟨o, ho, fun v q => by rw [hd] at q; cases q⟩
  keep := fun i h h' st k => let ⟨⟨old, he⟩, ⟨o, ho, r⟩, hne⟩ := st; ⟨⟨old, k e (by simp) _ he⟩, ⟨o, k it (by simp) o ho, r⟩, hne⟩
  item := by
    intro X hP hw hK hc i pins s σ H E I hf st hg
    subst hP hw hK
    obtain ⟨⟨old, he⟩, hit, hne, hle⟩ := st
    have hlt : i < x.cps.size := hg
    have hel : e < s.heap.objs.size := Heap.lt_size he
    have hil : it < s.heap.objs.size := by obtain ⟨_, q, _⟩ := hit; exact Heap.lt_size q
    have D := Draws.text (prog := X.prog) (w := X.w) (A := X.A.in1) (I.ok.hd hc) it x t
    refine wpAny_pyNext_enum_itemC D he hit hlt hne (by simpa using hne) fun u h' tk hP ho hit' hT hsz hk => ?_
    obtain ⟨c, u', hcx, rfl⟩ := hP
    refine ⟨_, rfl, wpAny_letOwnedTupleGo_enum (s := { s with heap := h', toks := tk + 1 }) ho fun h'' he' sb => ?_⟩
    have hT2 : h''.get? s.heap.objs.size = some { cls := .type "tuple", data := .seq #[.int i tk, .str ⟨#[c]⟩ u'] } := (sb.2 _ (Nat.ne_of_gt hel)).trans hT
    have new : ObjOk X.prog X.w (upd H s.heap.objs.size (.tup [.int (i : Nat), .str ⟨#[c]⟩])) h'' s.heap.objs.size (.tup [.int (i : Nat), .str ⟨#[c]⟩]) :=
      ⟨by show 2 ≤ sizeLine; decide, [.int i tk, .str ⟨#[c]⟩ u'], .cons ⟨_, rfl⟩ (.cons ⟨_, rfl⟩ .nil), ⟨_, hT2, rfl, _, rfl⟩⟩
    have I1 : Inv X pins σ (upd H s.heap.objs.size (.tup [.int (i : Nat), .str ⟨#[c]⟩])) { s with heap := h'', toks := tk + 1 } :=
      I.turnedNew (ch := [e, it]) (fun b ob hb q => (sb.2 b (fun z => hb (by simp [z]))).trans (hk b ob (fun z => hb (by simp [z])) (fun z => hb (by simp [z])) q)) hf (Nat.le_refl _) new
    refine ⟨.ref s.heap.objs.size, _, I1, rfl, ⟨_, c, rfl, I.hok.fresh (Nat.le_refl _), rfl, hcx⟩, ⟨⟨.str ⟨#[c]⟩ u', ?_⟩, ?_, hne, hlt⟩, fun b hb => ?_⟩
    · have e1 : ((i + 1 : Nat) : Int) = (i : Int) + 1 := by omega
      rw [e1]; exact he'
    · obtain ⟨o, q1, q2⟩ := hit'
      exact ⟨o, (sb.2 it (Ne.symm hne)).trans q1, q2⟩
    · have hb' : b < s.heap.objs.size := by
        have e' : b = e ∨ b = it := by simpa using hb
        rcases e' with z | z
        · rw [z]; exact hel
        · rw [z]; exact hil
      rw [upd_ne (Nat.ne_of_lt hb')]
      exact (hf b hb).1
  done := by
    intro X hP hw hK hc i pins s σ H E I hf st hg
    subst hP hw hK
    obtain ⟨⟨old, he⟩, hit, hne, hle⟩ := st
    have hge : x.cps.size ≤ i := hg
    have ei : i = x.cps.size := Nat.le_antisymm hle hge
    obtain ⟨f0, f1, f2, f3, f4, f5⟩ := hf it (by simp)
    have D := Draws.text (prog := X.prog) (w := X.w) (A := X.A.in1) (I.ok.hd hc) it x t
    rw [ei] at hit
    exact wpAny_pyNext_enum_endD D he hit fun h' eb => ⟨rfl, I.turned (t' := s.toks) (fun b o hb q => eb b o hb q) f0 f1 f3 f4 f5⟩
  self := fun A i s Q E st h => let ⟨⟨_, he⟩, _⟩ := st; wpAny_pyIter_enum he h
def iEnumS (ta : TA) : TI := fun σ H R => ta σ H fun vs H1 => ∃ x, vs = [.str x] ∧ R (Ites x) H1
theorem pi_enumS {X : Cx} {e : Expr} {ta : TA} {p pos tpos : Pos} {elts : List Expr} {kk : Nat} (hg : Gl X "enumerate") (hm : X.mg "enumerate" = none) (ha : PA X [e] ta) (hs : starEach [e] X.env = [(false, eval e X.env)] := by rfl) :
    PI X (.Tuple elts kk tpos) (.Call (.Name "enumerate" p) [e] [] pos) (iEnumS ta) := by
  refine ⟨fun pins s σ H R I h => ?_⟩
  refine PyProof.Rows.Call_ (ld_blt I hg hm PyProof.Rows.boot_enumerate (PyProof.Rows.callWith_type1 (thn (ha.run pos pins s σ H _ I h) fun us s1 ⟨vs, H1, I1, r1, q1⟩ => ?_) hs rfl))
  obtain ⟨x, ex, q⟩ := q1
  subst ex
  cases r1 with
  | cons r rr =>
    cases rr
    obtain ⟨t, rfl⟩ := r
    refine call_enumerate_str fun h' he hit hsz hk => wpAny_pyIter_enum he ?_
    have I2 : Inv X pins σ H1 { s1 with heap := h' } := I1.kept (t' := s1.toks) hk
    refine ⟨s1.heap.objs.size + 1, [s1.heap.objs.size + 1, s1.heap.objs.size], _, _, H1, rfl, I2, turn_enumS x t (s1.heap.objs.size + 1) s1.heap.objs.size, ⟨⟨.none, he⟩, hit, Nat.succ_ne_self _, Nat.zero_le _⟩, fun b hb => ?_, q⟩
    have e' : b = s1.heap.objs.size + 1 ∨ b = s1.heap.objs.size := by simpa using hb
    have hle : s1.heap.objs.size ≤ b := by
      rcases e' with z | z
      · rw [z]; exact Nat.le_add_right _ _
      · rw [z]; exact Nat.le_refl _
    exact I1.fpOk hle (I1.hok.fresh hle)

/-! ### what is walked, as data -/
def WalkD (K : PySem.W.Frag) (J : It) (G : Hp) (items : List PyData) : Prop := forall G2 H2, Same G G2 -> Same G2 H2 ->
  (forall (i : Nat) (d : PyData), items[i]? = some d -> J.go i H2 ∧ forall x H3, J.yld i H2 x H3 -> ∃ G3, Ext G2 H2 G3 H3 ∧ Dq K G3 x d) ∧ forall (i : Nat), items.length ≤ i -> J.stop i H2
def GI (X : Cx) (tg iter : Expr) (ρ : Rho) (items : List PyData) : Prop := ∃ wi, PI X tg iter wi ∧ forall (σ : L2.St) (G H : Hp) (R : It -> Hp -> Prop), Sta X.K G H σ ρ -> (forall J G' H', Ext G H G' H' -> WalkD X.K J G' items -> R J H') -> wi σ H R
section
variable {X : Cx} {N : En} {st : Stmt} {rest body orelse ss : List Stmt} {e a b tg iter elt : Expr} {es ifs : List Expr} {ρ ρ' : Rho} {d d1 d2 : PyData} {ds : List PyData} {pos pos' p : Pos} {Φ : Post} {k : Bool} {K : PySem.W.Frag} {P : Hp} {σ : L2.St} {G H : Hp} {t : TS} {vs : List V}
theorem gi_lst (h : GE X e ρ (.list ds)) : GI X tg e ρ ds := ⟨_, pi_list pe_tw, fun σ G H R s q => h σ G H _ s fun v G' H' e1 dv => by
  cases dv with
  | @lst l xs _ h1 h2 =>
    refine ⟨l, rfl, ⟨_, .inl (.inl (e1.gh _ _ h1))⟩, q _ G' H' e1 fun G2 H2 s1 s2 => ⟨fun i d hi => ?_, fun i hi => ?_⟩⟩
    · have hl : H2 l = some (.lst xs) := s2 _ _ (s1 _ _ h1)
      obtain ⟨v, hv, dv⟩ := h2.get hi
      refine ⟨⟨xs, v, .inl (.inl hl), hv⟩, fun x H3 y => ?_⟩
      obtain ⟨rfl, y⟩ := y
      have e2 := y xs (.inl (.inl hl))
      rw [hv] at e2
      cases e2
      exact ⟨G2, .refl s2, dv.mono s1⟩
    · exact ⟨xs, .inl (.inl (s2 _ _ (s1 _ _ h1))), by rw [h2.length]; exact hi⟩⟩
theorem sqT_inj {K : PySem.W.Frag} {G H : Hp} {a : Addr} {xs ys : List V} (h1 : SqT K G a xs) (s : Same G H) : SqT K H a xs := sqT_mono s h1
theorem gi_tup (h : GE X e ρ (.tuple ds)) : GI X tg e ρ ds := ⟨_, pi_tup pe_tw, fun σ G H R s q => h σ G H _ s fun v G' H' e1 dv => by
  cases dv with
  | @tup l xs _ h1 h2 =>
    refine ⟨l, rfl, ⟨_, sqT_mono e1.gh h1⟩, q _ G' H' e1 fun G2 H2 s1 s2 => ⟨fun i d hi => ?_, fun i hi => ?_⟩⟩
    · have hl : SqT X.K H2 l xs := sqT_mono s2 (sqT_mono s1 h1)
      obtain ⟨v, hv, dv⟩ := h2.get hi
      refine ⟨⟨xs, v, hl, hv⟩, fun x H3 y => ?_⟩
      obtain ⟨rfl, y⟩ := y
      have e2 := y xs hl
      rw [hv] at e2
      cases e2
      exact ⟨G2, .refl s2, dv.mono s1⟩
    · exact ⟨xs, sqT_mono s2 (sqT_mono s1 h1), by rw [h2.length]; exact hi⟩⟩
theorem gi_str {l : List Nat} (h : GE X e ρ (.str (S l))) : GI X tg e ρ (l.map fun c => .str (S [c])) := ⟨_, pi_str pe_tw, fun σ G H R s q => h σ G H _ s fun v G' H' e1 dv => by
  cases dv
  refine ⟨S l, rfl, q _ G' H' e1 fun G2 H2 s1 s2 => ⟨fun i d hi => ?_, fun i hi => ?_⟩⟩
  · rw [List.getElem?_map] at hi
    cases hc : l[i]? with
    | none => rw [hc] at hi; cases hi
    | some c =>
      rw [hc] at hi
      cases hi
      have hlt : i < l.length := (List.getElem?_eq_some_iff.mp hc).1
      refine ⟨by show i < (S l).cps.size; simpa [S] using hlt, fun x H3 y => ?_⟩
      obtain ⟨rfl, c', hc', rfl⟩ := y
      have : l[i]? = some c' := by simpa [S] using hc'
      rw [hc] at this
      cases this
      exact ⟨G2, .refl s2, .str _⟩
  · show (S l).cps.size ≤ i
    simpa [S] using hi⟩
theorem range_get {n : Nat} {i : Nat} {f : Nat -> PyData} {d : PyData} (h : ((List.range n).map f)[i]? = some d) : i < n ∧ d = f i := by
  rw [List.getElem?_map] at h
  by_cases hi : i < n
  · rw [List.getElem?_range hi] at h
    exact ⟨hi, (Option.some.inj h).symm⟩
  · rw [List.getElem?_eq_none (by simpa using hi)] at h
    cases h
theorem gi_rng1 {n : Int} (hm : X.mg "range" = none) (h : GA X [a] ρ [.int n]) (h0 : -1000000 ≤ n) (h1 : n ≤ 1000000) (hg : Gl X "range" := by rfl) (hs : starEach [a] X.env = [(false, eval a X.env)] := by rfl) : GI X tg (.Call (.Name "range" p) [a] [] pos) ρ ((List.range n.toNat).map fun i => .int (i : Nat)) :=
  ⟨_, pi_range1 hg hm pa_tw hs, fun σ G H R s q => h σ G H _ s fun vs G' H' e1 dv => by
    cases dv with
    | cons hv hr =>
      cases hr; cases hv
      refine ⟨n, rfl, by omega, by omega, q _ G' H' e1 fun G2 H2 s1 s2 => ⟨fun i d hi => ?_, fun i hi => ?_⟩⟩
      · obtain ⟨hlt, rfl⟩ := range_get hi
        refine ⟨hlt, fun x H3 y => ?_⟩
        obtain ⟨rfl, rfl⟩ := y
        rw [Int.zero_add]
        exact ⟨G2, .refl s2, .int _⟩
      · rw [List.length_map, List.length_range] at hi
        exact hi⟩
theorem gi_rng2 {m n : Int} (hm : X.mg "range" = none) (h : GA X [a, b] ρ [.int m, .int n]) (h0 : -1000000 ≤ m) (h1 : n ≤ 1000000) (h2 : m ≤ 1000000) (h3 : -1000000 ≤ n) (hg : Gl X "range" := by rfl) (hs : starEach [a, b] X.env = [(false, eval a X.env), (false, eval b X.env)] := by rfl) (hs2 : starEach [b] X.env = [(false, eval b X.env)] := by rfl) :
    GI X tg (.Call (.Name "range" p) [a, b] [] pos) ρ ((List.range (n - m).toNat).map fun i => .int (m + (i : Nat))) :=
  ⟨_, pi_range2 hg hm pa_tw hs hs2, fun σ G H R s q => h σ G H _ s fun vs G' H' e1 dv => by
    cases dv with
    | cons hv hr =>
      cases hr with
      | cons hv2 hr =>
        cases hr; cases hv; cases hv2
        refine ⟨m, n, rfl, ⟨by omega, by omega, by omega, by omega⟩, q _ G' H' e1 fun G2 H2 s1 s2 => ⟨fun i d hi => ?_, fun i hi => ?_⟩⟩
        · obtain ⟨hlt, rfl⟩ := range_get hi
          refine ⟨hlt, fun x H3 y => ?_⟩
          obtain ⟨rfl, rfl⟩ := y
          exact ⟨G2, .refl s2, .int _⟩
        · rw [List.length_map, List.length_range] at hi
          exact hi⟩
/-- enumerate of a list: pairs (place, item) -/
theorem gi_enumL {elts : List Expr} {kk : Nat} {tpos : Pos} (hm : X.mg "enumerate" = none) (h : GA X [e] ρ [.list ds]) (hg : Gl X "enumerate" := by rfl) (hs : starEach [e] X.env = [(false, eval e X.env)] := by rfl) :
    GI X (.Tuple elts kk tpos) (.Call (.Name "enumerate" p) [e] [] pos) ρ (ds.zipIdx.map fun x => .tuple [.int (x.2 : Nat), x.1]) :=
  ⟨_, pi_enum hg hm pa_tw hs, fun σ G H R s q => h σ G H _ s fun vs G' H' e1 dv => by
    cases dv with
    | cons hv hr =>
      cases hr
      cases hv with
      | @lst l xs _ h1 h2 =>
        refine ⟨l, xs, rfl, .inl (.inl (e1.gh _ _ h1)), q _ G' H' e1 fun G2 H2 s1 s2 => ⟨fun i d hi => ?_, fun i hi => ?_⟩⟩
        · have hl : H2 l = some (.lst xs) := s2 _ _ (s1 _ _ h1)
          rw [List.getElem?_map, List.getElem?_zipIdx] at hi
          cases hc : ds[i]? with
          | none => rw [hc] at hi; cases hi
          | some d' =>
            rw [hc] at hi
            have ed : d = .tuple [.int ((0 + i : Nat) : Int), d'] := (Option.some.inj hi).symm
            obtain ⟨v, hv, dv⟩ := h2.get hc
            refine ⟨⟨xs, v, .inl (.inl hl), hv⟩, fun x H3 y => ?_⟩
            obtain ⟨T, x', rfl, hT, rfl, y⟩ := y
            have e2 := y xs (.inl (.inl hl))
            rw [hv] at e2
            cases e2
            have ex : Ext G2 H2 (upd G2 T (.tup [.int (i : Nat), v])) (upd H2 T (.tup [.int (i : Nat), v])) := .new s2 hT
            refine ⟨_, ex, ?_⟩
            rw [ed, Nat.zero_add]
            exact .tup (.inl (.inl upd_same)) (.cons (.int _) (.cons ((dv.mono s1).mono ex.g) .nil))
        · rw [List.length_map, List.length_zipIdx] at hi
          exact ⟨xs, .inl (.inl (s2 _ _ (s1 _ _ h1))), by rw [h2.length]; exact hi⟩⟩
theorem gi_enumS {elts : List Expr} {kk : Nat} {tpos : Pos} {l : List Nat} (hm : X.mg "enumerate" = none) (h : GA X [e] ρ [.str (S l)]) (hg : Gl X "enumerate" := by rfl) (hs : starEach [e] X.env = [(false, eval e X.env)] := by rfl) :
    GI X (.Tuple elts kk tpos) (.Call (.Name "enumerate" p) [e] [] pos) ρ (l.zipIdx.map fun x => .tuple [.int (x.2 : Nat), .str (S [x.1])]) :=
  ⟨_, pi_enumS hg hm pa_tw hs, fun σ G H R s q => h σ G H _ s fun vs G' H' e1 dv => by
    cases dv with
    | cons hv hr =>
      cases hr
      cases hv
      refine ⟨S l, rfl, q _ G' H' e1 fun G2 H2 s1 s2 => ⟨fun i d hi => ?_, fun i hi => ?_⟩⟩
      · rw [List.getElem?_map, List.getElem?_zipIdx] at hi
        cases hc : l[i]? with
        | none => rw [hc] at hi; cases hi
        | some c =>
          rw [hc] at hi
          have ed : d = .tuple [.int ((0 + i : Nat) : Int), .str (S [c])] := (Option.some.inj hi).symm
          have hlt : i < l.length := (List.getElem?_eq_some_iff.mp hc).1
          refine ⟨by show i < (S l).cps.size; simpa [S] using hlt, fun x H3 y => ?_⟩
          obtain ⟨T, c', rfl, hT, rfl, y⟩ := y
          have : l[i]? = some c' := by simpa [S] using y
          rw [hc] at this
          cases this
          refine ⟨_, .new s2 hT, ?_⟩
          rw [ed, Nat.zero_add]
          exact .tup (.inl (.inl upd_same)) (.cons (.int _) (.cons (.str _) .nil))
      · rw [List.length_map, List.length_zipIdx] at hi
        show (S l).cps.size ≤ i
        simpa [S] using hi⟩
theorem gi_zip {elts : List Expr} {kk : Nat} {tpos : Pos} {xs ys : List PyData} (hm : X.mg "zip" = none) (h : GA X [a, b] ρ [.list xs, .list ys]) (hg : Gl X "zip" := by rfl) (hs : starEach [a, b] X.env = (false, eval a X.env) :: starEach [b] X.env := by rfl) (hpl : (backTo pos (starEach [b] X.env)).any (·.1) = false := by rfl) :
    GI X (.Tuple elts kk tpos) (.Call (.Name "zip" p) [a, b] [] pos) ρ ((xs.zip ys).map fun x => .tuple [x.1, x.2]) :=
  ⟨_, pi_zip hg hm pa_tw hs hpl, fun σ G H R s q => h σ G H _ s fun vs G' H' e1 dv => by
    cases dv with
    | cons hv hr =>
      cases hr with
      | cons hv2 hr =>
        cases hr
        cases hv with
        | @lst l us _ h1 h2 =>
          cases hv2 with
          | @lst m ws _ h3 h4 =>
            refine ⟨l, m, us, ws, rfl, .inl (.inl (e1.gh _ _ h1)), .inl (.inl (e1.gh _ _ h3)), q _ G' H' e1 fun G2 H2 s1 s2 => ⟨fun i d hi => ?_, fun i hi => ?_⟩⟩
            · have hl : H2 l = some (.lst us) := s2 _ _ (s1 _ _ h1)
              have hm : H2 m = some (.lst ws) := s2 _ _ (s1 _ _ h3)
              rw [List.getElem?_map] at hi
              cases hc : (xs.zip ys)[i]? with
              | none => rw [hc] at hi; cases hi
              | some z =>
                rw [hc] at hi
                have ed : d = .tuple [z.1, z.2] := (Option.some.inj hi).symm
                obtain ⟨z1, z2⟩ := List.getElem?_zip_eq_some.mp hc
                obtain ⟨v1, hv1, dv1⟩ := h2.get z1
                obtain ⟨v2, hv2, dv2⟩ := h4.get z2
                refine ⟨⟨us, ws, v1, v2, .inl (.inl hl), .inl (.inl hm), hv1, hv2⟩, fun x H3 y => ?_⟩
                obtain ⟨T, x1, x2, rfl, hT, rfl, y1, y2⟩ := y
                have q1 := y1 us (.inl (.inl hl))
                have q2 := y2 ws (.inl (.inl hm))
                rw [hv1] at q1
                rw [hv2] at q2
                cases q1
                cases q2
                have ex : Ext G2 H2 (upd G2 T (.tup [v1, v2])) (upd H2 T (.tup [v1, v2])) := .new s2 hT
                refine ⟨_, ex, ?_⟩
                rw [ed]
                exact .tup (.inl (.inl upd_same)) (.cons ((dv1.mono s1).mono ex.g) (.cons ((dv2.mono s1).mono ex.g) .nil))
            · rw [List.length_map, List.length_zip] at hi
              refine ⟨us, ws, .inl (.inl (s2 _ _ (s1 _ _ h1))), .inl (.inl (s2 _ _ (s1 _ _ h3))), ?_⟩
              rw [h2.length, h4.length]
              omega⟩
/-! ### for, while -/
theorem g1_for {α : Type} (L : List α) (g : α -> PyData) {T : Tg} (hi : GI X tg iter ρ (L.map g)) (ht : GTg X tg T) (I : Nat -> Rho -> Prop) (h0 : I 0 ρ)
    (hs : forall (i : Nat) (x : α) (ρ1 : Rho), L[i]? = some x -> I i ρ1 -> ∃ ρ2, T.put (g x) ρ1 = some ρ2 ∧ GS X N body ρ2 { Φ with nx := I (i + 1), ct := I (i + 1), bk := Φ.nx }) (hd : forall ρ1, I L.length ρ1 -> Φ.nx ρ1)
    (hp : PassesOwn (model X.prog X.w) X.A X.env X.xe) (hc : X.calm = true := by rfl) (hfs : forall x, foldedSetIterable iter X.env x = pure x := by intro _; rfl) : G1 X N (.For tg iter body [] pos) ρ Φ := by
  obtain ⟨wi, hpi, hw⟩ := hi
  refine g1_of (ps_for hp hc hpi ht pss_tw hfs) fun P σ H f => ?_
  obtain ⟨G, e0, sp, sta, fr⟩ := f
  refine hw σ G H _ sta fun J G' H' e1 wk => ?_
  have f0 : Fr X.K N G' σ H' ρ := ⟨G', e0.trans e1, Same.refl _, sta.ext e1, fr⟩
  have sp' : Same P G' := sp.trans e1.g
  refine ⟨fun i m σ H => m = L.length - i ∧ i ≤ L.length ∧ ∃ ρ1, Fr X.K N G' σ H ρ1 ∧ I i ρ1, ⟨_, rfl, Nat.zero_le _, ρ, f0, h0⟩, fun i m σ1 H1 hW => ?_⟩
  obtain ⟨rfl, hle, ρ1, f1, hI⟩ := hW
  obtain ⟨G1, e2, sp2, sta1, fr1⟩ := f1
  obtain ⟨wgo, wstop⟩ := wk G1 H1 sp2 sta1.gh
  by_cases hlt : i < L.length
  · have hx : L[i]? = some L[i] := List.getElem?_eq_getElem hlt
    obtain ⟨go, yl⟩ := wgo i (g L[i]) (by rw [List.getElem?_map, hx]; rfl)
    obtain ⟨ρ2, hput, hbody⟩ := hs i L[i] ρ1 hx hI
    refine .inr ⟨go, fun σ' H' => ∃ ρ3, Fr X.K N G' σ' H' ρ3 ∧ I (i + 1) ρ3, fun σ' H' hN => ?_, fun x H3 hy => ?_⟩
    · obtain ⟨ρ3, f3, i3⟩ := hN
      exact ⟨L.length - (i + 1), by omega, rfl, hlt, ρ3, f3, i3⟩
    · obtain ⟨G3, e3, dv⟩ := yl x H3 hy
      refine Tg.rd_ok hput (sta1.ext e3) dv fun σ' s' hj => ?_
      have f2 : Fr X.K N G' σ' H3 ρ2 := ⟨G3, e2.trans e3, sp2.trans e3.g, s', fun j xs q r1 r2 => by
        obtain ⟨n1, n2⟩ := Tg.put_own hput r1
        rw [hj j n1] at r2
        exact fr1 j xs q n2 r2⟩
      refine tws_mono ?_ (hbody G' σ' H3 f2)
      exact ⟨fun _ _ q => q, fun _ _ ⟨d, ⟨G4, a1, a2, a3⟩, q⟩ => ⟨d, ⟨G4, a1, sp'.trans a2, a3⟩, q⟩, fun _ _ ⟨ρ4, f4, q⟩ => ⟨ρ4, f4.weakP sp', q⟩, fun _ _ q => q⟩
  · have ei : i = L.length := by omega
    refine .inl ⟨wstop i (by rw [List.length_map]; omega), ρ1, ⟨G1, e2, sp'.trans sp2, sta1, fr1⟩, hd ρ1 (by rw [← ei]; exact hI)⟩
theorem g1_while {c : Expr} (I : Nat -> Rho -> Prop) (m0 : Nat) (h0 : I m0 ρ)
    (hs : forall (m : Nat) (ρ1 : Rho), I m ρ1 -> ∃ k, GT X c ρ1 k ∧ (k = true -> GS X N body ρ1 { Φ with nx := fun ρ2 => ∃ m', m' < m ∧ I m' ρ2, ct := fun ρ2 => ∃ m', m' < m ∧ I m' ρ2, bk := Φ.nx }) ∧ (k = false -> Φ.nx ρ1))
    (hp : PassesOwn (model X.prog X.w) X.A X.env X.xe) : G1 X N (.While c body [] pos) ρ Φ := by
  refine g1_of (ps_while hp pt_tw pss_tw) fun P σ H f => ?_
  refine ⟨fun m σ H => ∃ ρ1, Fr X.K N P σ H ρ1 ∧ I m ρ1, ⟨m0, ρ, f, h0⟩, fun m σ1 H1 hW => ?_⟩
  obtain ⟨ρ1, f1, i1⟩ := hW
  obtain ⟨k, hc, ht, hf⟩ := hs m ρ1 i1
  refine f1.evT hc fun H' f' => ?_
  cases k with
  | true =>
    rw [if_pos rfl]
    refine ⟨fun σ' H' => ∃ ρ2, Fr X.K N P σ' H' ρ2 ∧ ∃ m', m' < m ∧ I m' ρ2, fun σ' H' hN => ?_, ht rfl P σ1 H' f'⟩
    obtain ⟨ρ2, f2, m', hm, i2⟩ := hN
    exact ⟨m', hm, ρ2, f2, i2⟩
  | false =>
    rw [if_neg Bool.false_ne_true]
    exact ⟨ρ1, f', hf rfl⟩
/-! ### list comprehensions -/
def wipeR (ρ : Rho) : List Nat -> Rho
  | [] => ρ
  | v :: vs => (wipeR ρ vs).set v .any
theorem Sta.setAny (s : Sta K G H σ ρ) (i : Nat) (ov : Option V) : Sta K G H (σ.set i ov) (ρ.set i .any) := by
  refine ⟨s.gh, by rw [List.length_set, List.length_set]; exact s.len, fun j c hc => ?_, fun a b p xs ys h1 h2 h3 h4 => ?_⟩
  · rcases set_get hc with ⟨rfl, rfl⟩ | ⟨hij, hc⟩
    · have hl := (List.getElem?_eq_some_iff.mp hc).1
      rw [List.length_set] at hl
      exact ⟨_, List.getElem?_set_self (by rw [s.len]; exact hl), trivial⟩
    · rw [List.getElem?_set_ne hij]
      exact s.at_ j c hc
  · rcases set_get h1 with ⟨_, z⟩ | ⟨n1, o1⟩
    · cases z
    rcases set_get h2 with ⟨_, z⟩ | ⟨n2, o2⟩
    · cases z
    rw [List.getElem?_set_ne n1] at h3
    rw [List.getElem?_set_ne n2] at h4
    exact s.apart a b p xs ys o1 o2 h3 h4
theorem Sta.wipe (s : Sta K G H σ ρ) : forall vs : List Nat, Sta K G H (L2.wipe σ vs) (wipeR ρ vs)
  | [] => s
  | v :: vs => (Sta.wipe s vs).setAny v none
theorem wipe_get (σ : L2.St) (j : Nat) : forall vs : List Nat, (L2.wipe σ vs)[j]? = if j ∈ vs then (if j < σ.length then some none else none) else σ[j]?
  | [] => by simp [L2.wipe]
  | v :: vs => by
    unfold L2.wipe
    by_cases hv : v = j
    · subst hv
      by_cases hl : v < σ.length
      · rw [List.getElem?_set_self (by rw [wipe_length]; exact hl)]
        simp [hl]
      · rw [List.getElem?_eq_none (by rw [List.length_set, wipe_length]; omega)]
        simp [hl]
    · rw [List.getElem?_set_ne hv, wipe_get σ j vs]
      have : (j ∈ v :: vs) = (j ∈ vs) := by simp [Ne.symm hv]
      simp only [this]
theorem wipe_eq {σ σ' : L2.St} {vs : List Nat} (hl : σ'.length = σ.length) (h : forall j, j ∉ vs -> σ'[j]? = σ[j]?) : L2.wipe σ' vs = L2.wipe σ vs := by
  apply List.ext_getElem?
  intro j
  rw [wipe_get, wipe_get]
  by_cases hj : j ∈ vs
  · rw [if_pos hj, if_pos hj, hl]
  · rw [if_neg hj, if_neg hj, h j hj]
theorem wipe_wipe {σ : L2.St} {vs : List Nat} : L2.wipe (L2.wipe σ vs) vs = L2.wipe σ vs := wipe_eq (wipe_length σ vs) fun j hj => by rw [wipe_get, if_neg hj]
/-- the block's contexts -/
abbrev Blk (X : Cx) (scope : Scope) (s : Shared) (H : Hp) (C : Addr) (cl : List (Str × Addr)) (fp : List Addr) : Cx := X.blk s H scope (compEnvC scope cl C X.env) fp
def GTs (X : Cx) (ifs : List Expr) (ρ : Rho) (k : Bool) : Prop := EvT X.K (fun σ H Q => forall pins s, Inv X pins σ H s ->
    Wp X (forIn ifs true fun c r => if r = true then do let ok ← isTrue c X.env (eval c X.env); pure (ForInStep.yield ok) else pure (ForInStep.yield r)) (TP X pins σ Q) s) ρ k
theorem gts_nil : GTs X [] ρ true := fun σ G H Q s q pins s' I => ⟨pts_nil.run pins s' σ H Q I (q G H (.refl s.gh))⟩
theorem gts_one {c : Expr} (h : GT X c ρ k) : GTs X [c] ρ k := fun σ G H Q s q pins s' I => ⟨(pts_one pt_tw).run pins s' σ H Q I (h σ G H Q s q)⟩
theorem ev_lc {α : Type} (L : List α) (g : α -> PyData) (F : α -> Option PyData) {T : Tg} {wi : TI} {tt : TT} {te : TE} {vs : List Nat}
    (hw : forall (σ : L2.St) (G H : Hp) (R : It -> Hp -> Prop), Sta K G H σ ρ -> (forall J G' H', Ext G H G' H' -> WalkD K J G' (L.map g) -> R J H') -> wi σ H R)
    (hsub : forall j, j ∈ T.sl -> j ∈ vs) (hlen : L.length ≤ 1000000)
    (turn : forall (i : Nat) (x : α), L[i]? = some x -> ∃ ρ2, T.put (g x) (wipeR ρ vs) = some ρ2 ∧ EvT K tt ρ2 (F x).isSome ∧ forall y, F x = some y -> EvR K te ρ2 y) :
    EvR K (tLc wi (T.rd K) tt te vs) ρ (.list (L.filterMap F)) := fun σ G H Q s q => by
  refine hw σ G H _ s fun J G1 H1 e1 wk D hD => ?_
  refine ⟨fun i m H2 => m = L.length - i ∧ i ≤ L.length ∧ ∃ G2 acc, Ext G1 H1 G2 H2 ∧ G2 D = none ∧ H2 D = some (.lst acc) ∧ DqAll K G2 acc ((L.take i).filterMap F), ⟨_, rfl, Nat.zero_le _, G1, [], ?_, e1.gh.free hD, upd_same, by rw [List.take_zero]; exact .nil⟩, fun i m H2 hW => ?_⟩
  · exact ⟨Same.refl _, same_new hD, e1.gh.trans (same_new hD), fun _ _ => rfl⟩
  · obtain ⟨rfl, hle, G2, acc, e2, gD, hD2, dv⟩ := hW
    have nD : forall b o, G2 b = some o -> b ≠ D := fun b o z => ne_of_none z gD
    by_cases hlt : i < L.length
    · have hx : L[i]? = some L[i] := List.getElem?_eq_getElem hlt
      obtain ⟨wgo, _⟩ := wk G2 H2 e2.g e2.gh
      obtain ⟨go, yl⟩ := wgo i (g L[i]) (by rw [List.getElem?_map, hx]; rfl)
      obtain ⟨ρ2, hput, hT, hE⟩ := turn i L[i] hx
      have htake : (L.take (i + 1)).filterMap F = (L.take i).filterMap F ++ (F L[i]).toList := by
        rw [List.take_add_one, hx, List.filterMap_append]
        cases hF : F L[i] <;> simp [hF]
      refine .inr ⟨go, fun H' => ∃ G3 acc, Ext G1 H1 G3 H' ∧ G3 D = none ∧ H' D = some (.lst acc) ∧ DqAll K G3 acc ((L.take (i + 1)).filterMap F), fun H' ⟨G3, ac, z⟩ => ⟨L.length - (i + 1), by omega, rfl, hlt, G3, ac, z⟩, fun x H3 hy => ?_⟩
      obtain ⟨G3, e3, dx⟩ := yl x H3 hy
      have keepD : forall {G4 H4 : Hp}, Ext G2 H2 G4 H4 -> G4 D = none ∧ H4 D = some (.lst acc) := fun e4 => ⟨by rw [e4.old D (by rw [hD2]; exact fun z => nomatch z)]; exact gD, e4.h _ _ hD2⟩
      have sW : Sta K G3 H3 (L2.wipe σ vs) (wipeR ρ vs) := ((s.ext e1).ext e2).wipe vs |>.ext e3
      refine Tg.rd_ok hput sW dx fun σ' s' hj => ⟨?_, ?_⟩
      · have hl : σ'.length = (L2.wipe σ vs).length := by
          have l1 : forall (is : List Nat) (ds : List PyData) (r r' : Rho), putAll is ds r = some r' -> r'.length = r.length := fun is => by
            induction is with
            | nil => intro ds r r' z; cases ds with
              | nil => cases z; rfl
              | cons _ _ => simp [putAll] at z
            | cons j js ih => intro ds r r' z; cases ds with
              | nil => simp [putAll] at z
              | cons d ds => rw [ih ds _ _ z, List.length_set]
          have l2 : ρ2.length = (wipeR ρ vs).length := by
            cases T with
            | nm j =>
              have z : (wipeR ρ vs).set j (.dat (g L[i])) = ρ2 := Option.some.inj hput
              rw [← z, List.length_set]
            | tp js =>
              cases hg : g L[i] with
              | tuple ds => rw [hg] at hput; exact l1 js ds _ _ hput
              | _ => rw [hg] at hput; cases hput
          rw [s'.len, l2, ← sW.len]
        rw [wipe_eq hl fun j hn => hj j fun z => hn (hsub j z), wipe_wipe]
      · refine hT σ' G3 H3 _ s' fun G4 H4 e4 => ?_
        cases hF : F L[i] with
        | none =>
          rw [show (none : Option PyData).isSome = false from rfl, if_neg Bool.false_ne_true]
          have e34 := e3.trans e4
          obtain ⟨k1, k2⟩ := keepD e34
          refine ⟨G4, acc, e2.trans e34, k1, k2, ?_⟩
          rw [htake, hF]
          show DqAll K G4 acc (_ ++ [])
          rw [List.append_nil]
          exact dv.mono e34.g
        | some y =>
          rw [show (some y).isSome = true from rfl, if_pos rfl]
          refine hE y hF σ' G4 H4 _ (s'.ext e4) fun v G5 H5 e5 dy => ?_
          have e35 := (e3.trans e4).trans e5
          obtain ⟨k1, k2⟩ := keepD e35
          refine ⟨acc, k2, ?_, G5, acc ++ [v], ?_, k1, upd_same, ?_⟩
          · rw [dv.length]
            have l1 : ((L.take i).filterMap F).length ≤ (L.take i).length := List.length_filterMap_le ..
            rw [List.length_take] at l1
            exact Nat.lt_of_le_of_lt (Nat.le_trans l1 (by omega : min i L.length ≤ 1000000)) (by decide)
          · have e15 := e2.trans e35
            exact ⟨e15.g, fun b o z => by rw [upd_ne (ne_of_none z hD)]; exact e15.h b o z, fun b o z => by rw [upd_ne (ne_of_none z k1)]; exact e15.gh b o z, e15.old⟩
          · rw [htake, hF]
            exact (dv.mono e35.g).append (.cons dy .nil)
    · have ei : i = L.length := by omega
      obtain ⟨_, wstop⟩ := wk G2 H2 e2.g e2.gh
      refine .inl ⟨wstop i (by rw [List.length_map]; omega), ?_⟩
      have eD : Ext G1 H1 (upd G2 D (.lst acc)) H2 := ⟨e2.g.trans (same_new gD), e2.h, fun b o z => by
        by_cases hb : b = D
        · subst hb; rw [upd_same] at z; cases z; exact hD2
        · rw [upd_ne hb] at z; exact e2.gh b o z, fun a ha => by rw [upd_ne (fun z => ha (by rw [z]; exact hD))]; exact e2.old a ha⟩
      refine q (.ref D) _ H2 (e1.trans eD) (.lst upd_same ?_)
      rw [ei, List.take_length] at dv
      exact dv.mono (same_new gD)
theorem ge_lcF {α : Type} (L : List α) (g : α -> PyData) (F : α -> Option PyData) {T : Tg} {scope : Scope} (own : List (Str × Nat)) (hi : GI X tg iter ρ (L.map g)) (hN : X.N.Nodup) (ok : BlkOk X.N X.env.scope scope own) (hg : forall s H C cl fp, GTg (Blk X scope s H C cl fp) tg T) (hsub : forall j, j ∈ T.sl -> j ∈ own.map (·.2)) (hlen : L.length ≤ 1000000)
    (turn : forall (i : Nat) (x : α), L[i]? = some x -> ∃ ρ2, T.put (g x) (wipeR ρ (own.map (·.2))) = some ρ2 ∧ forall s H C cl fp, GTs (Blk X scope s H C cl fp) ifs ρ2 (F x).isSome ∧ forall y, F x = some y -> GE (Blk X scope s H C cl fp) elt ρ2 y)
    (hc : X.calm = true := by rfl) (hfs : forall x, foldedSetIterable iter X.env x = pure x := by intro _; rfl) : GE X (.ListComp elt [⟨tg, iter, ifs, 0⟩] scope pos) ρ (.list (L.filterMap F)) := by
  obtain ⟨wi, hpi, hw⟩ := hi
  refine ge_of (pe_lc (own := own) (g := T.rd X.K)
    (tt := fun σ H Q => forall s H' C cl fp pins s', Inv (Blk X scope s H' C cl fp) pins σ H s' -> wpAny (model X.prog X.w) (Blk X scope s H' C cl fp).A (forIn ifs true fun c r => if r = true then do let ok ← isTrue c (Blk X scope s H' C cl fp).env (eval c (Blk X scope s H' C cl fp).env); pure (ForInStep.yield ok) else pure (ForInStep.yield r)) (TP (Blk X scope s H' C cl fp) pins σ Q) (Blk X scope s H' C cl fp).xe s')
    (te := fun σ H Q => forall s H' C cl fp, tw (Blk X scope s H' C cl fp) elt σ H Q) hc hN hpi ok (fun s H C cl fp => hg s H C cl fp) (fun s H C cl fp => ⟨fun pins s' σ H' Q I h => h s H C cl fp pins s' I⟩) (fun s H C cl fp => ⟨fun pins s' σ H' Q I h => (h s H C cl fp pins s' I).run⟩) hfs) ?_
  refine ev_lc L g F hw hsub hlen fun i x hx => ?_
  obtain ⟨ρ2, hput, h2⟩ := turn i x hx
  refine ⟨ρ2, hput, fun σ G H Q s q s0 H' C cl fp pins s' I => ((h2 s0 H' C cl fp).1 σ G H Q s q pins s' I).run, fun y hy σ G H Q s q s0 H' C cl fp => (h2 s0 H' C cl fp).2 y hy σ G H Q s q⟩
theorem ge_lc {α : Type} (L : List α) (g : α -> PyData) (F : α -> PyData) {T : Tg} {scope : Scope} (own : List (Str × Nat)) (hi : GI X tg iter ρ (L.map g)) (hN : X.N.Nodup) (ok : BlkOk X.N X.env.scope scope own) (hg : forall s H C cl fp, GTg (Blk X scope s H C cl fp) tg T) (hsub : forall j, j ∈ T.sl -> j ∈ own.map (·.2)) (hlen : L.length ≤ 1000000)
    (turn : forall (i : Nat) (x : α), L[i]? = some x -> ∃ ρ2, T.put (g x) (wipeR ρ (own.map (·.2))) = some ρ2 ∧ forall s H C cl fp, GE (Blk X scope s H C cl fp) elt ρ2 (F x))
    (hc : X.calm = true := by rfl) (hfs : forall x, foldedSetIterable iter X.env x = pure x := by intro _; rfl) : GE X (.ListComp elt [⟨tg, iter, [], 0⟩] scope pos) ρ (.list (L.map F)) := by
  have h := ge_lcF (X := X) (ρ := ρ) (pos := pos) (elt := elt) (ifs := []) L g (fun x => some (F x)) own hi hN ok hg hsub hlen (fun i x hx => by
    obtain ⟨ρ2, h1, h2⟩ := turn i x hx
    exact ⟨ρ2, h1, fun s H C cl fp => ⟨gts_nil, fun y hy => by cases hy; exact h2 s H C cl fp⟩⟩) hc hfs
  rw [List.filterMap_eq_map'] at h
  exact h
end
end Gd

namespace Gd
open PySem PySem.Spec L2
/-! ### what a def is worth -/
inductive Out where
  | ret (d : PyData) | exc (C : Addr)
abbrev Rel := List PyData -> Out -> Prop
def spR (K : PySem.W.Frag) (R : Rel) : Sp := fun vs H Q E => ∃ G ds o, Same G H ∧ DqAll K G vs ds ∧ R ds o ∧
  match o with
  | .ret d => forall v G' H', Ext G H G' H' -> Dq K G' v d -> Q v H'
  | .exc C => forall G' H', Ext G H G' H' -> E (.ref C) none H'
/-- the module's name x holds a def that keeps R -/
structure Can (P : Program) (w : World) (K : PySem.W.Frag) (mg : Str -> Option Value) (base : Heap) (k : Nat) (x : Str) (R : Rel) : Prop where
  ex : ∃ f fd ps, mg x = some (.ref f) ∧ PySem.W.keepIn K (.ref f) = true ∧ Binds K fd ps [] ∧ FnOk P w K mg base (L2.CX P w) k f fd ps (spR K R)
theorem Can.mono {P : Program} {w : World} {K : PySem.W.Frag} {mg : Str -> Option Value} {base : Heap} {j k : Nat} {x : Str} {R : Rel} (c : Can P w K mg base j x R) (h : j ≤ k) : Can P w K mg base k x R := by
  obtain ⟨f, fd, ps, a, b, d, e⟩ := c.ex
  exact ⟨f, fd, ps, a, b, d, e.mono h⟩
theorem Can.imp {P : Program} {w : World} {K : PySem.W.Frag} {mg : Str -> Option Value} {base : Heap} {k : Nat} {x : Str} {R R' : Rel} (c : Can P w K mg base k x R) (h : forall ds o, R' ds o -> R ds o) : Can P w K mg base k x R' := by
  obtain ⟨f, fd, ps, a, b, d, e⟩ := c.ex
  exact ⟨f, fd, ps, a, b, d, e.imp fun vs H Q E ⟨G, ds, o, h1, h2, h3, h4⟩ => ⟨G, ds, o, h1, h2, h _ _ h3, h4⟩⟩
/-- exceptions of the class at C may leave, where the slots are as A says -/
def Xok (X : Cx) (N : En) (A : Rho -> Prop) (C : Addr) : Prop := ∃ W : WX, Takes X W ∧ forall P σ H ρ, A ρ -> Fr X.K N P σ H ρ -> W (.ref C) none σ H
def post (o : Out) : Post := { nx := fun _ => o = .ret .none, rt := fun d => o = .ret d }
def startR (n : Nat) (ds : List PyData) : Rho := ds.map Cell.dat ++ List.replicate (n - ds.length) .any
theorem sta_start {K : PySem.W.Frag} {G H : Hp} {vs : List V} {ds : List PyData} {Nm : List Str} (gh : Same G H) (dv : DqAll K G vs ds) : Sta K G H (start Nm vs) (startR Nm.length ds) := by
  have hl := dv.length
  have no : forall (i : Nat) (es : Own), (startR Nm.length ds)[i]? ≠ some (.owx es) := fun i es h => by
    unfold startR at h
    by_cases hi : i < ds.length
    · rw [List.getElem?_append_left (by simpa using hi), List.getElem?_map] at h
      cases hd : ds[i]? with
      | none => rw [hd] at h; cases h
      | some d => rw [hd] at h; cases h
    · rw [List.getElem?_append_right (by simpa using hi), List.getElem?_replicate] at h
      split at h
      · cases h
      · cases h
  refine ⟨gh, ?_, fun i c hc => ?_, fun i j p es fs h1 => absurd h1 (no i es)⟩
  · unfold L2.start startR
    simp [hl]
  · unfold startR at hc
    by_cases hi : i < ds.length
    · rw [List.getElem?_append_left (by simpa using hi), List.getElem?_map] at hc
      cases hd : ds[i]? with
      | none => rw [hd] at hc; cases hc
      | some d =>
        rw [hd] at hc
        cases hc
        obtain ⟨v, hv, dq⟩ := dv.get hd
        refine ⟨some v, ?_, v, rfl, dq⟩
        unfold L2.start
        rw [List.getElem?_append_left (by simpa [hl] using hi), List.getElem?_map, hv]
        rfl
    · have hlen : i < (List.map Cell.dat ds ++ List.replicate (Nm.length - ds.length) Cell.any).length := (List.getElem?_eq_some_iff.mp hc).1
      rw [List.getElem?_append_right (by simpa using hi), List.getElem?_replicate] at hc
      split at hc
      · cases hc
        have : i < (start Nm vs).length := by
          unfold L2.start
          simp only [List.length_append, List.length_map, List.length_replicate] at hlen ⊢
          omega
        exact ⟨_, List.getElem?_eq_getElem this, trivial⟩
      · cases hc
/-- a def's body's context -/
abbrev cxD (P : Program) (w : World) (K : PySem.W.Frag) (mg : Str -> Option Value) (base : Heap) (Nm : List Str) (x : Str) (st : Stmt) (f : Addr) (cdv : Value) (A : Around) (outer : List Env) (s : Shared) (H : Hp) (E : XK) : Cx := cxOf (L2.CX P w) P w K mg base Nm x (defScope st) f cdv A outer s H E
/-- a def of the text, where it stands -/
abbrev FnP (K : PySem.W.Frag) (x : Str) (st : Stmt) (f : Addr) (fd : FuncData) : Prop := FunD K x x (defArgs st) (defBody st) (defScope st) [] [] f fd
theorem ok_of {P : Program} {w : World} {K : PySem.W.Frag} {mg : Str -> Option Value} {base : Heap} {x : Str} {st : Stmt} {f : Addr} {fd : FuncData} {Nm ps : List Str} {k : Nat} {R : Rel} (F : FnP K x st f fd) (S : FnScope Nm ps (defScope st)) (hlen : forall ds o, R ds o -> ds.length = ps.length)
    (body : forall cdv A outer s H E (N : En) ds o, Room k (cxD P w K mg base Nm x st f cdv A outer s H E).A -> R ds o -> (forall C, o = .exc C -> Xok (cxD P w K mg base Nm x st f cdv A outer s H E) N (fun _ => True) C) -> GS (cxD P w K mg base Nm x st f cdv A outer s H E) N (defBody st) (startR Nm.length ds) (post o)) :
    FnOk P w K mg base (L2.CX P w) (k + 1) f fd ps (spR K R) := by
  refine F.ok S (fun vs H Q E ⟨G, ds, o, gh, dv, hR, _⟩ => by rw [dv.length]; exact hlen ds o hR) fun cdv A outer s H vs Q E hr hsp => ?_
  obtain ⟨G, ds, o, gh, dv, hR, hq⟩ := hsp
  refine ⟨tws _ _, pss_tw, ?_⟩
  have fr0 : Fr K ⟨G, H, fun _ => none⟩ G (start Nm vs) H (startR Nm.length ds) := by
    have st := sta_start (Nm := Nm) gh dv
    refine ⟨G, ⟨.refl gh, fun _ _ z => nomatch z⟩, Same.refl _, st, fun i es p h1 => ?_⟩
    exfalso
    unfold startR at h1
    by_cases hi : i < ds.length
    · rw [List.getElem?_append_left (by simpa using hi), List.getElem?_map] at h1
      cases hd : ds[i]? with
      | none => rw [hd] at h1; cases h1
      | some d => rw [hd] at h1; cases h1
    · rw [List.getElem?_append_right (by simpa using hi), List.getElem?_replicate] at h1
      split at h1
      · cases h1
      · cases h1
  refine tws_mono ?_ (body cdv A outer s H E ⟨G, H, fun _ => none⟩ ds o hr hR (fun C hC => ?_) G (start Nm vs) H fr0)
  · refine ⟨fun σ H' hn => ?_, fun v H' hn => ?_, fun _ _ z => ?_, fun _ _ z => ?_⟩
    · obtain ⟨ρ, ⟨G', e1, _, _, _⟩, hn⟩ := hn
      have hn' : o = .ret .none := hn
      subst hn'
      exact hq _ G' H' e1.toExt .non
    · obtain ⟨d, ⟨G', e1, _, dq, _⟩, hn⟩ := hn
      have hn' : o = .ret d := hn
      subst hn'
      exact hq v G' H' e1.toExt dq
    · obtain ⟨_, _, z⟩ := z; exact z
    · obtain ⟨_, _, z⟩ := z; exact z
  · subst hC
    refine ⟨fun cls d _ H' => E cls d H', takes_of rfl rfl rfl rfl, fun P σ H' ρ _ ⟨G', e1, _⟩ => hq G' H' e1.toExt⟩
theorem can_of {P : Program} {w : World} {K : PySem.W.Frag} {mg : Str -> Option Value} {base : Heap} {x : Str} {st : Stmt} {f : Addr} {fd : FuncData} {Nm ps : List Str} {k : Nat} {R : Rel} (F : FnP K x st f fd) (hm : mg x = some (.ref f)) (S : FnScope Nm ps (defScope st))
    (hb : forall (kV doc pm : Value) (an : Option Addr) (cdv ct : Value) (us : List Value), us.length = ps.length -> bindArgs (PySem.W.fnOf x x (defArgs st) (defBody st) (defScope st) .none kV doc pm an cdv ct) ⟨us, []⟩ = pure (ps.zip us)) (hlen : forall ds o, R ds o -> ds.length = ps.length)
    (body : forall cdv A outer s H E (N : En) ds o, Room k (cxD P w K mg base Nm x st f cdv A outer s H E).A -> R ds o -> (forall C, o = .exc C -> Xok (cxD P w K mg base Nm x st f cdv A outer s H E) N (fun _ => True) C) -> GS (cxD P w K mg base Nm x st f cdv A outer s H E) N (defBody st) (startR Nm.length ds) (post o)) :
    Can P w K mg base (k + 1) x R := ⟨f, fd, ps, hm, F.kp, F.bindsN hb, ok_of F S hlen body⟩
section
variable {X : Cx} {N : En} {st : Stmt} {rest body orelse ss : List Stmt} {e a b : Expr} {es : List Expr} {ρ ρ' : Rho} {d d1 d2 : PyData} {ds : List PyData} {pos pos' p : Pos} {Φ : Post} {k k' : Nat} {x : Str} {R : Rel} {A : Rho -> Prop} {C : Addr}
theorem ge_call (c : Can X.prog X.w X.K X.mg X.base k x R) (hr : Room k' X.A) (ha : GA X (e :: es) ρ ds) (hR : R ds (.ret d)) (hk : k ≤ k' := by decide) (hg : Gl X x := by rfl) (hdb : (x == ("__debug__" : Str)) = false := by decide) (he : starEach (e :: es) X.env = (false, eval e X.env) :: starEach es X.env := by rfl) (hpl : (backTo pos (starEach es X.env)).any (·.1) = false := by rfl) :
    GE X (.Call (.Name x p) (e :: es) [] pos) ρ d := by
  obtain ⟨f, fd, ps, hm, kp, hb, F⟩ := c.ex
  refine ge_of (pe_call F (hr.mono hk) hg hm kp hb .nil passL pa_tw hdb he hpl) fun σ G H Q s q => ha σ G H _ s fun vs G1 H1 e1 dv => ?_
  refine ⟨G1, ds, .ret d, e1.gh, by rw [List.append_nil]; exact dv, hR, fun v G' H' e2 dq => q v G' H' (e1.trans e2) dq⟩
theorem ge_call0 (c : Can X.prog X.w X.K X.mg X.base k x R) (hr : Room k' X.A) (hR : R [] (.ret d)) (hk : k ≤ k' := by decide) (hg : Gl X x := by rfl) (hdb : (x == ("__debug__" : Str)) = false := by decide) : GE X (.Call (.Name x p) [] [] pos) ρ d := by
  obtain ⟨f, fd, ps, hm, kp, hb, F⟩ := c.ex
  refine ge_of (pe_call0 F (hr.mono hk) hg hm kp hb .nil passL hdb) fun σ G H Q s q => ?_
  exact ⟨G, [], .ret d, s.gh, .nil, hR, fun v G' H' e2 dq => q v G' H' e2 dq⟩
/-! ### what is raised -/
/-- e raises, and nothing else -/
def GX (X : Cx) (N : En) (e : Expr) (ρ : Rho) : Prop := forall P σ H, Fr X.K N P σ H ρ -> tw X e σ H fun _ _ => False
theorem gx_of {t : TE} (h : PE X e t) (hv : forall P σ H, Fr X.K N P σ H ρ -> t σ H fun _ _ => False) : GX X N e ρ := fun P σ H f pins s I => ⟨h.run pins s σ H _ I (hv P σ H f)⟩
theorem gx_call (c : Can X.prog X.w X.K X.mg X.base k x R) (hr : Room k' X.A) (ha : GA X (e :: es) ρ ds) (hR : R ds (.exc C)) (hx : Xok X N A C) (hA : A ρ) (hk : k ≤ k' := by decide) (hg : Gl X x := by rfl) (hdb : (x == ("__debug__" : Str)) = false := by decide) (he : starEach (e :: es) X.env = (false, eval e X.env) :: starEach es X.env := by rfl) (hpl : (backTo pos (starEach es X.env)).any (·.1) = false := by rfl) :
    GX X N (.Call (.Name x p) (e :: es) [] pos) ρ := by
  obtain ⟨f, fd, ps, hm, kp, hb, F⟩ := c.ex
  obtain ⟨W, tk, hW⟩ := hx
  refine gx_of (pe_callS (E := WE W) F (hr.mono hk) hg hm kp hb (fun σ => passAt tk σ) pa_tw hdb he hpl) fun P σ H f => f.evA ha fun vs G1 H1 e1 sp sta fr dv => ?_
  exact ⟨G1, ds, .exc C, e1.gh, dv, hR, fun G' H' e2 => hW P σ H' ρ hA ⟨G', e1.trans e2, sp.trans e2.g, sta.ext e2, fr⟩⟩
theorem g1_exprX (he : GX X N e ρ) (hs : swapsWith e none pos.line X.env = pure false := by rfl) : G1 X N (.Expr e pos) ρ Φ := g1_of (ps_expr pe_tw hs) fun P σ H f pins s I => ⟨thn (he P σ H f pins s I).run fun _ _ ⟨_, _, _, _, z⟩ => z.elim⟩
theorem g1_retX (he : GX X N e ρ) : G1 X N (.Return (some e) pos) ρ Φ := g1_of (ps_ret pe_tw) fun P σ H f pins s I => ⟨thn (he P σ H f pins s I).run fun _ _ ⟨_, _, _, _, z⟩ => z.elim⟩
theorem g1_setX (i : Nat) {y : Str} (he : GX X N e ρ) (hN : X.N.Nodup) (hi : X.N[i]? = some y := by rfl) (hx : Loc X.env.scope y := by first | exact Or.inl rfl | exact Or.inr rfl) (hs : swapsWith e (some (.Name y pos')) pos.line X.env = pure false := by rfl)
    (hf : X.fn y = true ∨ X.env.scope.names.lookup y = some .local := by first | exact .inl rfl | exact .inr rfl | assumption) : G1 X N (.Assign [.Name y pos'] e pos) ρ Φ := g1_of (ps_set hN hi hx pe_tw hs hf) fun P σ H f pins s I => ⟨thn (he P σ H f pins s I).run fun _ _ ⟨_, _, _, _, z⟩ => z.elim⟩
/-- an own exception class that stands in the module under x -/
structure ExT (K : PySem.W.Frag) (mg : Str -> Option Value) (x : Str) (C : Addr) : Prop where
  ex : PySem.W.excIn K C He.veBase "ValueError.__new__" = true
  gl : mg x = some (.ref C)
  kp : PySem.W.keepIn K (.ref C) = true
  sb : PySem.W.subIn K (.ref C) (.type "BaseException") = some true
  ty : PySem.W.typeIn K (.ref C) = some (.type "type")
theorem g1_raise {m : Str} {j : Nat} {p2 p3 : Pos} (T : ExT X.K X.mg x C) (hx : Xok X N A C) (hA : A ρ) (hc : X.calm = true := by rfl) (hg : Gl X x := by rfl) (hdb : (x == ("__debug__" : Str)) = false := by decide) : G1 X N (.Raise (some (.Call (.Name x p) [.Constant (.str m) j p2] [] p3)) none pos) ρ Φ := by
  obtain ⟨W, tk, hW⟩ := hx
  exact g1_of (ps_raise hc tk (pmk_own PySem.F.excBase_ValueError T.ex T.gl T.kp (raises_own T.sb T.ty) hg hdb)) fun P σ H f => hW P σ H ρ hA f
end
end Gd

namespace Gd
open PySem PySem.Spec L2
/-! ### the top's facts by a Hook: a Bool over the written part, and the defs -/
def hookG (n : Nat) (chk : PySem.W.Frag -> Bool) (fn : List He.DefD) : PySem.W.Hook where
  α := He.AlD
  obs := fun s => seenG chk fn (He.frG s.heap.get? (He.asD s.heap.get? n))
  val := fun _ => He.valD fn
  says := fun _ h => ∃ K : PySem.W.Frag, K.In h ∧ seenG chk fn K = He.valD fn
  of := fun _ _ e => ⟨_, He.frG_in, e⟩
  keeps := fun _ _ _ ⟨K, hK, c⟩ k => ⟨K, PySem.W.Frag.In.keeps hK k, c⟩
def obG (n : Nat) (chk : PySem.W.Frag -> Bool) (fn : List He.DefD) (s : PySem.W.SharedT) : He.AlD := seenG chk fn (He.frG (HandSHeadRun.getT s) (He.asD (HandSHeadRun.getT s) n))
theorem obG_eq {n : Nat} {chk : PySem.W.Frag -> Bool} {fn : List He.DefD} (s : PySem.W.SharedT) : obG n chk fn s = (hookG n chk fn).obs s.abs := by
  have e : HandSHeadRun.getT s = s.abs.heap.get? := funext (HandSHeadRun.getT_eq s)
  unfold obG
  rw [e]
  rfl
theorem seenG_chk {chk : PySem.W.Frag -> Bool} {fn : List He.DefD} {K : PySem.W.Frag} (c : seenG chk fn K = He.valD fn) : chk K = true :=
  (He.ba (show (chk K && fn.all fun d => d.ok K) = true from congrArg (fun z : He.AlD => z.1) c)).1
theorem seenG_def {chk : PySem.W.Frag -> Bool} {fn : List He.DefD} {K : PySem.W.Frag} (c : seenG chk fn K = He.valD fn) (i : Nat) {d : He.DefD} (h : fn[i]? = some d := by rfl) : ∃ fd, FunD K d.name d.qual d.params d.body d.scope (d.dvs K) (d.kws K) (He.fAd K d.at_) fd := by
  have c2 := (He.ba (show (chk K && fn.all fun d => d.ok K) = true from congrArg (fun z : He.AlD => z.1) c)).2
  have e : fn.map (fun d => He.fnW K d.at_) = fn.map He.DefD.val := congrArg (fun z : He.AlD => z.2) c
  have e2 := congrArg (fun l : List He.FnW => l[i]?) e
  simp only [List.getElem?_map, h, Option.map_some, Option.some.injEq] at e2
  exact He.DefD.funD e2 (List.all_eq_true.mp c2 d (List.mem_of_getElem? h))
theorem fnP_of {chk : PySem.W.Frag -> Bool} {fn : List He.DefD} {K : PySem.W.Frag} (c : seenG chk fn K = He.valD fn) (i : Nat) {x : Str} {st : Stmt} (h : fn[i]? = some (dD x st) := by rfl) : ∃ fd, FnP K x st (He.ga K x) fd := seenG_def c i h
theorem allFa_at {fa : List He.Fa} {K : PySem.W.Frag} (c : allFa fa K = true) (i : Nat) {f : He.Fa} (h : fa[i]? = some f := by rfl) : f.ok K = true := List.all_eq_true.mp c f (List.mem_of_getElem? h)
theorem ext_of {K : PySem.W.Frag} {h : Heap} {mg : Str -> Option Value} (X : K.In h) (G : h.Ns mainGlobals mg) {x : Str} (g : (He.Fa.glo x).ok K = true) (c : (He.Fa.exc x).ok K = true) : ExT K mg x (He.ga K x) := by
  obtain ⟨a, b, d, e⟩ := He.exc_ok c
  exact ⟨a, He.glo_ok X G g, b, d, e⟩
end Gd

namespace Gd
open PySem PySem.Spec L2
theorem bt_len : bootBuiltins "len" = some (.builtin "len") := by decide +kernel
theorem bt_min : bootBuiltins "min" = some (.builtin "min") := by decide +kernel
theorem bt_max : bootBuiltins "max" = some (.builtin "max") := by decide +kernel
theorem bt_all : bootBuiltins "all" = some (.builtin "all") := by decide +kernel
theorem bt_any : bootBuiltins "any" = some (.builtin "any") := by decide +kernel
theorem bt_sum : bootBuiltins "sum" = some (.builtin "sum") := by decide +kernel
theorem bt_sorted : bootBuiltins "sorted" = some (.builtin "sorted") := by decide +kernel
theorem bt_int : bootBuiltins "int" = some (.type "int") := by decide +kernel
theorem bt_bool : bootBuiltins "bool" = some (.type "bool") := by decide +kernel
theorem bt_tuple : bootBuiltins "tuple" = some (.type "tuple") := by decide +kernel
theorem bt_str : bootBuiltins "str" = some (.type "str") := by decide +kernel
theorem bt_list : bootBuiltins "list" = some (.type "list") := by decide +kernel
theorem bt_set : bootBuiltins "set" = some (.type "set") := by decide +kernel
/-- isinstance(d, U) for the built-in classes in use -/
def isiB (d : PyData) (U : String) : Bool := tyN d == U || (tyN d == "bool" && U == "int")
theorem kit_d (d : PyData) (hd : noDict d = true) (U : String) (hU : U ∈ ["int", "bool", "tuple", "str", "list"]) : kitB (tyN d) U = some (isiB d U) := by
  have h : forall t, t ∈ ["NoneType", "bool", "int", "str", "list", "tuple"] -> forall U, U ∈ ["int", "bool", "tuple", "str", "list"] -> kitB t U = some (t == U || (t == "bool" && U == "int")) := by decide +kernel
  refine h (tyN d) ?_ U hU
  cases d <;> first | (simp [tyN]; done) | (simp [noDict] at hd)
section
variable {X : Cx} {N : En} {st : Stmt} {e a b c : Expr} {es : List Expr} {ρ ρ' : Rho} {d d1 d2 : PyData} {ds : List PyData} {pos pos' p p2 : Pos} {Φ : Post} {i j : Int} {l : List Nat} {k : Bool}
theorem ge_isI {pT : Pos} (hm : X.mg "isinstance" = none) (hmT : X.mg "int" = none) (h : GE X a ρ d) (hd : noDict d = true) (hg : Gl X "isinstance" := by rfl) (hgT : Gl X "int" := by rfl)
    (hs1 : starEach [a, .Name "int" pT] X.env = (false, eval a X.env) :: starEach [.Name "int" pT] X.env := by rfl) (hs2 : starEach [.Name "int" pT] X.env = (false, eval (.Name "int" pT) X.env) :: starEach [] X.env := by rfl) (hpl : (backTo pos (starEach [.Name "int" pT] X.env)).any (·.1) = false := by rfl) :
    GE X (.Call (.Name "isinstance" p) [a, .Name "int" pT] [] pos) ρ (.bool (isiB d "int")) := ge_isi hm hmT bt_int h hd (kit_d d hd _ (by decide)) hg hgT (by decide) (by decide) hs1 hs2 hpl
theorem ge_isB {pT : Pos} (hm : X.mg "isinstance" = none) (hmT : X.mg "bool" = none) (h : GE X a ρ d) (hd : noDict d = true) (hg : Gl X "isinstance" := by rfl) (hgT : Gl X "bool" := by rfl)
    (hs1 : starEach [a, .Name "bool" pT] X.env = (false, eval a X.env) :: starEach [.Name "bool" pT] X.env := by rfl) (hs2 : starEach [.Name "bool" pT] X.env = (false, eval (.Name "bool" pT) X.env) :: starEach [] X.env := by rfl) (hpl : (backTo pos (starEach [.Name "bool" pT] X.env)).any (·.1) = false := by rfl) :
    GE X (.Call (.Name "isinstance" p) [a, .Name "bool" pT] [] pos) ρ (.bool (isiB d "bool")) := ge_isi hm hmT bt_bool h hd (kit_d d hd _ (by decide)) hg hgT (by decide) (by decide) hs1 hs2 hpl
theorem ge_isT {pT : Pos} (hm : X.mg "isinstance" = none) (hmT : X.mg "tuple" = none) (h : GE X a ρ d) (hd : noDict d = true) (hg : Gl X "isinstance" := by rfl) (hgT : Gl X "tuple" := by rfl)
    (hs1 : starEach [a, .Name "tuple" pT] X.env = (false, eval a X.env) :: starEach [.Name "tuple" pT] X.env := by rfl) (hs2 : starEach [.Name "tuple" pT] X.env = (false, eval (.Name "tuple" pT) X.env) :: starEach [] X.env := by rfl) (hpl : (backTo pos (starEach [.Name "tuple" pT] X.env)).any (·.1) = false := by rfl) :
    GE X (.Call (.Name "isinstance" p) [a, .Name "tuple" pT] [] pos) ρ (.bool (isiB d "tuple")) := ge_isi hm hmT bt_tuple h hd (kit_d d hd _ (by decide)) hg hgT (by decide) (by decide) hs1 hs2 hpl
theorem ge_isS {pT : Pos} (hm : X.mg "isinstance" = none) (hmT : X.mg "str" = none) (h : GE X a ρ d) (hd : noDict d = true) (hg : Gl X "isinstance" := by rfl) (hgT : Gl X "str" := by rfl)
    (hs1 : starEach [a, .Name "str" pT] X.env = (false, eval a X.env) :: starEach [.Name "str" pT] X.env := by rfl) (hs2 : starEach [.Name "str" pT] X.env = (false, eval (.Name "str" pT) X.env) :: starEach [] X.env := by rfl) (hpl : (backTo pos (starEach [.Name "str" pT] X.env)).any (·.1) = false := by rfl) :
    GE X (.Call (.Name "isinstance" p) [a, .Name "str" pT] [] pos) ρ (.bool (isiB d "str")) := ge_isi hm hmT bt_str h hd (kit_d d hd _ (by decide)) hg hgT (by decide) (by decide) hs1 hs2 hpl
theorem ge_isL {pT : Pos} (hm : X.mg "isinstance" = none) (hmT : X.mg "list" = none) (h : GE X a ρ d) (hd : noDict d = true) (hg : Gl X "isinstance" := by rfl) (hgT : Gl X "list" := by rfl)
    (hs1 : starEach [a, .Name "list" pT] X.env = (false, eval a X.env) :: starEach [.Name "list" pT] X.env := by rfl) (hs2 : starEach [.Name "list" pT] X.env = (false, eval (.Name "list" pT) X.env) :: starEach [] X.env := by rfl) (hpl : (backTo pos (starEach [.Name "list" pT] X.env)).any (·.1) = false := by rfl) :
    GE X (.Call (.Name "isinstance" p) [a, .Name "list" pT] [] pos) ρ (.bool (isiB d "list")) := ge_isi hm hmT bt_list h hd (kit_d d hd _ (by decide)) hg hgT (by decide) (by decide) hs1 hs2 hpl
/-- a written text by its signs -/
theorem gsS (l : List Nat) {x : Str} {n : Nat} (h : x = S l := by rfl) : GE X (.Constant (.str x) n pos) ρ (.str (S l)) := by
  subst h
  exact ge_str
theorem ggS (l : List Nat) {x z : Str} (hm : ∃ t, X.mg x = some (.str z t)) (h : z = S l := by rfl) (hg : Gl X x := by rfl) (hd : (x == ("__debug__" : Str)) = false := by decide) : GE X (.Name x pos) ρ (.str (S l)) := by
  subst h
  exact gg_str hm hg hd
theorem ge_ite {x : Expr} (hc : GT X c ρ k) (ha : k = true -> GE X a ρ d1) (hb : k = false -> GE X b ρ d2) : GE X (.IfExp c a b pos) ρ (if k = true then d1 else d2) := by
  cases k with
  | true => exact ge_if hc (fun h => by rw [if_pos rfl]; exact ha h) (fun h => nomatch h)
  | false => exact ge_if hc (fun h => nomatch h) (fun h => by rw [if_neg Bool.false_ne_true]; exact hb h)
/-! ### slices -/
def GP (X : Cx) (o : Option Expr) (ρ : Rho) (v : Option Int) : Prop := match o, v with
  | none, none => True
  | some e, some i => GE X e ρ (.int i)
  | _, _ => False
theorem ev_sl {r : V -> Option Int -> Option Int -> Hp -> VK -> Prop} {lo hi : Option Expr} {vl vh : Option Int} (hr : SlR X r) (ha : GE X a ρ d1) (hl : GP X lo ρ vl) (hh : GP X hi ρ vh)
    (h : forall v G H (Q : VK), Same G H -> Dq X.K G v d1 -> (forall v G' H', Ext G H G' H' -> Dq X.K G' v d -> Q v H') -> r v vl vh H Q) : GE X (.Subscript a (.Slice lo hi none p2) pos) ρ d := by
  have part : forall (o : Option Expr) (v : Option Int), GP X o ρ v -> ∃ t, PO X o t ∧ forall (σ : L2.St) (G H : Hp) (Q : Option Int -> Hp -> Prop), Sta X.K G H σ ρ -> (forall G' H', Ext G H G' H' -> Q v H') -> t σ H Q := fun o v g => by
    cases o with
    | none =>
      cases v with
      | none => exact ⟨_, po_none, fun σ G H Q s q => q G H (.refl s.gh)⟩
      | some _ => exact g.elim
    | some e =>
      cases v with
      | none => exact g.elim
      | some i => exact ⟨_, po_some pe_tw, fun σ G H Q s q => (show GE X e ρ (.int i) from g) σ G H _ s fun v G' H' e1 dv => by
          cases dv
          exact ⟨i, rfl, q G' H' e1⟩⟩
  obtain ⟨tl, pl, el⟩ := part lo vl hl
  obtain ⟨th, ph, eh⟩ := part hi vh hh
  refine ge_of (pe_slice hr pe_tw pl ph) fun σ G H Q s q => ha σ G H _ s fun v G1 H1 e1 dv => el σ G1 H1 _ (s.ext e1) fun G2 H2 e2 => eh σ G2 H2 _ ((s.ext e1).ext e2) fun G3 H3 e3 => ?_
  exact h v G3 H3 Q e3.gh ((dv.mono e2.g).mono e3.g) fun v' G4 H4 e4 d4 => q v' G4 H4 (((e1.trans e2).trans e3).trans e4) d4
/-- the part of a list between two bounds -/
def cut {α : Type} (l : List α) (lo hi : Option Int) : List α := (l.drop (HT.sIx l.length 0 lo)).take (HT.sIx l.length l.length hi - HT.sIx l.length 0 lo)
theorem cut_to {α : Type} (l : List α) (k : Int) (h : 0 ≤ k) : cut l none (some k) = l.take k.toNat := by
  unfold cut
  have e : k = ((k.toNat : Nat) : Int) := by omega
  rw [e, HT.sIx_none, HT.sIx_nat, List.drop_zero, Nat.sub_zero, Int.toNat_natCast]
  rcases Nat.le_total k.toNat l.length with h1 | h1
  · rw [Nat.min_eq_left h1]
  · rw [Nat.min_eq_right h1, List.take_length, List.take_of_length_le h1]
theorem cut_from {α : Type} (l : List α) (k : Int) (h : 0 ≤ k) : cut l (some k) none = l.drop k.toNat := by
  unfold cut
  have e : k = ((k.toNat : Nat) : Int) := by omega
  rw [e, HT.sIx_none, HT.sIx_nat, Int.toNat_natCast]
  rcases Nat.le_total k.toNat l.length with h1 | h1
  · rw [Nat.min_eq_left h1, List.take_of_length_le (by rw [List.length_drop]; exact Nat.le_refl _)]
  · rw [Nat.min_eq_right h1, List.drop_length, List.drop_eq_nil_of_le h1, List.take_nil]
theorem cut_mid {α : Type} (l : List α) (a b : Int) (h : 0 ≤ a) (h2 : 0 ≤ b) : cut l (some a) (some b) = (l.take b.toNat).drop a.toNat := by
  unfold cut
  have e : a = ((a.toNat : Nat) : Int) := by omega
  have e2 : b = ((b.toNat : Nat) : Int) := by omega
  rw [e, e2, HT.sIx_nat, HT.sIx_nat, Int.toNat_natCast, Int.toNat_natCast, List.drop_take]
  rcases Nat.le_total a.toNat l.length with h1 | h1
  · rw [Nat.min_eq_left h1]
    rcases Nat.le_total b.toNat l.length with h3 | h3
    · rw [Nat.min_eq_left h3]
    · rw [Nat.min_eq_right h3, List.take_of_length_le (by rw [List.length_drop]; exact Nat.le_refl _), List.take_of_length_le (by rw [List.length_drop]; omega)]
  · rw [Nat.min_eq_right h1, List.drop_length, List.drop_eq_nil_of_le h1, List.take_nil, List.take_nil]
theorem ge_slS {lo hi : Option Expr} {vl vh : Option Int} (ha : GE X a ρ (.str (S l))) (hl : GP X lo ρ vl) (hh : GP X hi ρ vh) (hz : l.length ≤ 100000) : GE X (.Subscript a (.Slice lo hi none p2) pos) ρ (.str (S (cut l vl vh))) :=
  ev_sl sl_str ha hl hh fun v G H Q gh dv q => by
    cases dv
    refine ⟨S l, rfl, by rw [S_len]; exact Nat.le_trans hz (by decide), ?_⟩
    have e : cutS (S l) vl vh = S (cut l vl vh) := by
      unfold cutS cut
      rw [S_cps, S_len]
      rfl
    rw [e]
    exact q _ G H (.refl gh) (.str _)
theorem cut_map {α β : Type} (l : List α) (f : α -> β) (lo hi : Option Int) : cut (l.map f) lo hi = (cut l lo hi).map f := by
  unfold cut
  rw [List.length_map, List.map_take, List.map_drop]
theorem dq_cut {K : PySem.W.Frag} {G : Hp} {vs : List V} (h : DqAll K G vs ds) (lo hi : Option Int) : DqAll K G (cutV vs lo hi) (cut ds lo hi) := by
  unfold cutV cut
  rw [h.length]
  exact (h.drop _).take _
theorem ge_slT {lo hi : Option Expr} {vl vh : Option Int} (ha : GE X a ρ (.tuple ds)) (hl : GP X lo ρ vl) (hh : GP X hi ρ vh) (hw : ¬ (HT.sIx ds.length 0 vl = 0 ∧ HT.sIx ds.length ds.length vh = ds.length)) : GE X (.Subscript a (.Slice lo hi none p2) pos) ρ (.tuple (cut ds vl vh)) :=
  ev_sl sl_tup ha hl hh fun v G H Q gh dv q => by
    cases dv with
    | tup s1 a1 =>
      refine ⟨_, _, rfl, sqT_mono gh s1, by rw [a1.length]; exact hw, fun p hp => ?_⟩
      exact q _ _ _ (.new gh hp) (.tup (.inl (.inl upd_same)) ((dq_cut a1 vl vh).mono (same_new (gh.free hp))))
theorem ge_slL {lo hi : Option Expr} {vl vh : Option Int} (ha : GE X a ρ (.list ds)) (hl : GP X lo ρ vl) (hh : GP X hi ρ vh) : GE X (.Subscript a (.Slice lo hi none p2) pos) ρ (.list (cut ds vl vh)) :=
  ev_sl sl_list ha hl hh fun v G H Q gh dv q => by
    cases dv with
    | lst s1 a1 =>
      refine ⟨_, _, rfl, .inl (.inl (gh _ _ s1)), fun p hp => ?_⟩
      exact q _ _ _ (.new gh hp) (.lst upd_same ((dq_cut a1 vl vh).mono (same_new (gh.free hp))))
/-! ### methods of texts -/
theorem ge_m1 {id : String} {name : Str} {apos : Pos} {r : V -> List V -> Hp -> VK -> Prop} (slot : Slot "str" name id) (ty : typeOf (.builtin id) = pure (.type "method_descriptor")) (rule : MtR X id r) (ha : GE X a ρ (.str (S l))) (hb : GE X b ρ d2)
    (h : forall v G H (Q : VK), Same G H -> Dq X.K G v d2 -> (forall v G' H', Ext G H G' H' -> Dq X.K G' v d -> Q v H') -> r (.str (S l)) [v] H Q)
    (hs : starEach [b] X.env = [(false, eval b X.env)] := by rfl) (hbase : attributeBase a name X.env (eval a X.env) = eval a X.env := by rfl) (hline : (apos.endLine == pos.line) = true := by rfl) : GE X (.Call (.Attribute a name apos) [b] [] pos) ρ d :=
  ge_of (pe_m1 slot ty rule pe_tw pe_tw hs hbase hline) fun σ G H Q s q => ha σ G H _ s fun v G1 H1 e1 dv => by
    cases dv
    refine ⟨⟨_, rfl⟩, hb σ G1 H1 _ (s.ext e1) fun v2 G2 H2 e2 d2 => ?_⟩
    exact h v2 G2 H2 Q e2.gh d2 fun v' G3 H3 e3 d3 => q v' G3 H3 ((e1.trans e2).trans e3) d3
theorem ge_count {apos : Pos} {m : List Nat} (ha : GE X a ρ (.str (S l))) (hb : GE X b ρ (.str (S m))) (hs : starEach [b] X.env = [(false, eval b X.env)] := by rfl) (hbase : attributeBase a "count" X.env (eval a X.env) = eval a X.env := by rfl) (hline : (apos.endLine == pos.line) = true := by rfl) :
    GE X (.Call (.Attribute a "count" apos) [b] [] pos) ρ (.int (Txt.count (S l) (S m))) :=
  ge_m1 PySem.F.slot_str_count PySem.F.type_str_count mt_count ha hb (fun v G H Q gh dv q => by
    cases dv
    exact ⟨_, _, rfl, rfl, q _ G H (.refl gh) (.int _)⟩) hs hbase hline
end
end Gd

namespace Gd
open PySem PySem.Spec L2
/-! ### the exception classes of the module -/
theorem excCB_ok {K : PySem.W.Frag} {D : Addr} (h : excCB K D = true) : ExcC K D := by
  obtain ⟨a1, h⟩ := He.ba h
  obtain ⟨a2, h⟩ := He.ba h
  obtain ⟨a3, h⟩ := He.ba h
  obtain ⟨a4, h⟩ := He.ba h
  obtain ⟨a5, h⟩ := He.ba h
  obtain ⟨a6, h⟩ := He.ba h
  obtain ⟨a7, a8⟩ := He.ba h
  exact ⟨of_decide_eq_true a1, of_decide_eq_true a2, of_decide_eq_true a3, a4, of_decide_eq_true a5, of_decide_eq_true a6, of_decide_eq_true a7, of_decide_eq_true a8⟩
theorem exc_C {xs : List Str} {K : PySem.W.Frag} (h : excChk xs K = true) {x : Str} (hx : x ∈ xs) : ExcC K (He.ga K x) := excCB_ok (He.ba (List.all_eq_true.mp h x hx)).1
theorem exc_kit {xs : List Str} {K : PySem.W.Frag} (h : excChk xs K = true) {x y : Str} (hx : x ∈ xs) (hy : y ∈ xs) : PySem.W.kitOne K (.ref (He.ga K x)) (.ref (He.ga K y)) = some (under x y) := of_decide_eq_true (He.ba (List.all_eq_true.mp (He.ba (List.all_eq_true.mp h x hx)).2 y hy)).1
theorem exc_exm {xs : List Str} {K : PySem.W.Frag} (h : excChk xs K = true) {x y : Str} (hx : x ∈ xs) (hy : y ∈ xs) : PySem.W.exmOne K (.ref (He.ga K x)) (.ref (He.ga K y)) = some (under x y) := of_decide_eq_true (He.ba (List.all_eq_true.mp (He.ba (List.all_eq_true.mp h x hx)).2 y hy)).2
section
variable {X : Cx} {N : En} {st : Stmt} {rest body suite : List Stmt} {b0 : Stmt} {e a b func : Expr} {es : List Expr} {ρ ρ' : Rho} {d d1 d2 : PyData} {ds : List PyData} {pos pos' p p2 np : Pos} {Φ : Post} {k k' i : Nat} {x n : Str} {R : Rel} {A : Rho -> Prop} {C : Addr} {K : PySem.W.Frag} {P : Hp} {σ : L2.St} {G H : Hp}
/-! ### a def out of a written list of defs -/
/-- e is the object at f -/
def GF (X : Cx) (e : Expr) (ρ : Rho) (f : Addr) : Prop := forall (σ : L2.St) (G H : Hp) (Q : VK), Sta X.K G H σ ρ -> (forall G' H', Ext G H G' H' -> Q (.ref f) H') -> tw X e σ H Q
def GAF (X : Cx) (es : List Expr) (fs : List Addr) : Prop := forall (σ : L2.St) (H : Hp) (Q : List V -> Hp -> Prop), Q (fs.map V.ref) H -> twA X es σ H Q
theorem gaf_nil : GAF X [] [] := fun σ H Q q pos pins s I => ⟨pa_nil.run pos pins s σ H Q I q⟩
theorem gaf_cons {fs : List Addr} {f : Addr} (hm : X.mg x = some (.ref f)) (h : GAF X es fs) (hg : Gl X x := by rfl) (hd : (x == ("__debug__" : Str)) = false := by decide) (hst : starEach (.Name x p :: es) X.env = (false, eval (.Name x p) X.env) :: starEach es X.env := by rfl) : GAF X (.Name x p :: es) (f :: fs) :=
  fun σ H Q q pos pins s I => ⟨(pa_cons (pe_glob (v := .ref f) hg hm rfl hd) pa_tw hst).run pos pins s σ H Q I (h σ H _ q)⟩
theorem gf_ix {fs : List Addr} {f : Addr} {z : Int} (h : GAF X es fs) (hb : GE X b ρ (.int z)) (hat : atI (fs.map V.ref) z = some (.ref f)) (hl : fs.length ≤ 1000 := by exact Nat.le_of_ble_eq_true rfl) (hs : PlainIx b := by exact fun _ _ => rfl) : GF X (.Subscript (.List es p2) b pos) ρ f := fun σ G H Q s q pins s' I => Wp.mk <|
  (pe_ix ix_list (pe_lst pa_tw) pe_tw hs).run pins s' σ H Q I (h σ H _ ⟨by rw [List.length_map]; exact Nat.le_of_lt (small1000 hl), fun l hl => by
    have e1 : Ext G H G (upd H l (.lst (fs.map V.ref))) := ⟨Same.refl G, same_new hl, s.gh.trans (same_new hl), fun _ _ => rfl⟩
    refine hb σ G _ _ (s.ext e1) fun v G2 H2 e2 dv => ?_
    cases dv
    exact ⟨l, _, z, .ref f, rfl, rfl, .inl (.inl (e2.h _ _ upd_same)), hat, q G2 H2 (e1.trans e2)⟩⟩)
theorem gx_callF (c : Can X.prog X.w X.K X.mg X.base k x R) (hr : Room k' X.A) (hf : forall f, X.mg x = some (.ref f) -> GF X func ρ f) (ha : GA X (e :: es) ρ ds) (hR : R ds (.exc C)) (hx : Xok X N A C) (hA : A ρ) (hk : k ≤ k' := by decide)
    (hev : eval (.Call func (e :: es) [] pos) X.env = (do callWith pos (← eval func X.env) [] (backTo pos (starEach (e :: es) X.env)) (backToKw pos (keywordEach [] X.env))) := by rfl)
    (he : starEach (e :: es) X.env = (false, eval e X.env) :: starEach es X.env := by rfl) (hpl : (backTo pos (starEach es X.env)).any (·.1) = false := by rfl) :
    GX X N (.Call func (e :: es) [] pos) ρ := fun P σ H fr pins s I => by
  refine Wp.mk ?_
  obtain ⟨f, fd, ps, hm, kp, hb, F⟩ := c.ex
  obtain ⟨W, tk, hW⟩ := hx
  obtain ⟨G, e0, sp, sta, fs⟩ := fr
  refine PyProof.Rows.Call_ (thn (hf f hm σ G H (fun v H1 => v = .ref f ∧ ∃ G1, Ext G H G1 H1) sta (fun G1 H1 e1 => ⟨rfl, G1, e1⟩) pins s I).run fun u s1 ⟨v, H1, I1, r1, hv, G1, e1⟩ => ?_) hev
  subst hv
  cases r1
  refine PySem.W.callWith_K (h₀ := X.base) I.ok.mod.kin kp (thn (ha σ G1 H1 (fun vs H2 => ∃ G2, Ext G1 H1 G2 H2 ∧ DqAll X.K G2 vs ds) (sta.ext e1) (fun vs G2 H2 e2 dv => ⟨G2, e2, dv⟩) pos pins s1 I1).run fun us s2 ⟨vs, H2, I2, r, G2, e2, dv⟩ => ⟨I2.kIn, ?_⟩) he hpl
  refine thn (run_fnS (E := WE W) F (hr.mono hk) hb (passAt tk σ) I2 r ⟨G2, ds, .exc C, e2.gh, dv, hR, fun G' H' e3 => ?_⟩) fun _ _ q => q
  have e4 := (e1.trans e2).trans e3
  exact hW P σ H' ρ hA ⟨G', e0.trans e4, sp.trans e4.g, sta.ext e4, fs⟩
theorem ge_callF (c : Can X.prog X.w X.K X.mg X.base k x R) (hr : Room k' X.A) (hf : forall f, X.mg x = some (.ref f) -> GF X func ρ f) (ha : GA X (e :: es) ρ ds) (hR : R ds (.ret d)) (hk : k ≤ k' := by decide)
    (hev : eval (.Call func (e :: es) [] pos) X.env = (do callWith pos (← eval func X.env) [] (backTo pos (starEach (e :: es) X.env)) (backToKw pos (keywordEach [] X.env))) := by rfl)
    (he : starEach (e :: es) X.env = (false, eval e X.env) :: starEach es X.env := by rfl) (hpl : (backTo pos (starEach es X.env)).any (·.1) = false := by rfl) :
    GE X (.Call func (e :: es) [] pos) ρ d := fun σ G H Q sta q pins s I => by
  refine Wp.mk ?_
  obtain ⟨f, fd, ps, hm, kp, hb, F⟩ := c.ex
  refine PyProof.Rows.Call_ (thn (hf f hm σ G H (fun v H1 => v = .ref f ∧ ∃ G1, Ext G H G1 H1) sta (fun G1 H1 e1 => ⟨rfl, G1, e1⟩) pins s I).run fun u s1 ⟨v, H1, I1, r1, hv, G1, e1⟩ => ?_) hev
  subst hv
  cases r1
  refine PySem.W.callWith_K (h₀ := X.base) I.ok.mod.kin kp (thn (ha σ G1 H1 (fun vs H2 => ∃ G2, Ext G1 H1 G2 H2 ∧ DqAll X.K G2 vs ds) (sta.ext e1) (fun vs G2 H2 e2 dv => ⟨G2, e2, dv⟩) pos pins s1 I1).run fun us s2 ⟨vs, H2, I2, r, G2, e2, dv⟩ => ⟨I2.kIn, ?_⟩) he hpl
  exact run_fn F (hr.mono hk) hb .nil passL I2 r ⟨G2, ds, .ret d, e2.gh, by rw [List.append_nil]; exact dv, hR, fun v G' H' e3 dq => q v G' H' ((e1.trans e2).trans e3) dq⟩
/-! ### try .. except X as n -/
theorem Fr.setRaw (f : Fr K N P σ H ρ) (i : Nat) (v : V) : Fr K N P (σ.set i (some v)) H (ρ.set i (.raw v)) := by
  obtain ⟨G, e0, sp, s, fr⟩ := f
  refine ⟨G, e0, sp, ⟨s.gh, by rw [List.length_set, List.length_set]; exact s.len, fun j c hc => ?_, fun a b q xs ys h1 h2 h3 h4 => ?_⟩, fun j xs q h1 h2 => ?_⟩
  · rcases set_get hc with ⟨rfl, rfl⟩ | ⟨hij, hc⟩
    · have hl := (List.getElem?_eq_some_iff.mp hc).1
      rw [List.length_set] at hl
      exact ⟨_, List.getElem?_set_self (by rw [s.len]; exact hl), rfl⟩
    · rw [List.getElem?_set_ne hij]
      exact s.at_ j c hc
  · rcases set_get h1 with ⟨_, z⟩ | ⟨n1, o1⟩
    · cases z
    rcases set_get h2 with ⟨_, z⟩ | ⟨n2, o2⟩
    · cases z
    rw [List.getElem?_set_ne n1] at h3
    rw [List.getElem?_set_ne n2] at h4
    exact s.apart a b q xs ys o1 o2 h3 h4
  · rcases set_get h1 with ⟨_, z⟩ | ⟨n1, o1⟩
    · cases z
    rw [List.getElem?_set_ne n1] at h2
    exact fr j xs q o1 h2
theorem Fr.setAny (f : Fr K N P σ H ρ) (i : Nat) (ov : Option V) : Fr K N P (σ.set i ov) H (ρ.set i .any) := by
  obtain ⟨G, e0, sp, s, fr⟩ := f
  refine ⟨G, e0, sp, s.setAny i ov, fun j xs q h1 h2 => ?_⟩
  rcases set_get h1 with ⟨_, z⟩ | ⟨n1, o1⟩
  · cases z
  rw [List.getElem?_set_ne n1] at h2
  exact fr j xs q o1 h2
theorem Fr.unpin {N : En} {q P : Hp} (f : Fr K { N with p := q } P σ H ρ) (hp : Same N.p q) : Fr K N q σ H ρ := by
  obtain ⟨G, e0, sp, s, fr⟩ := f
  exact ⟨G, ⟨e0.toExt, hp.trans e0.pin⟩, e0.pin, s, fr⟩
theorem ends_unpin {N : En} {q P : Hp} (hp : Same N.p q) : EndsLe (ends K { N with p := q } P Φ) (ends K N q Φ) :=
  ⟨fun _ _ ⟨ρ, f, z⟩ => ⟨ρ, f.unpin hp, z⟩, fun _ _ ⟨d, ⟨G, a, b, c⟩, z⟩ => ⟨d, ⟨G, ⟨a.toExt, hp.trans a.pin⟩, a.pin, c⟩, z⟩, fun _ _ ⟨ρ, f, z⟩ => ⟨ρ, f.unpin hp, z⟩, fun _ _ ⟨ρ, f, z⟩ => ⟨ρ, f.unpin hp, z⟩⟩
/-- Cs: the classes of errors that the body may raise; all are the clause's -/
theorem g1_tryAs (i : Nat) {cv : Value} (Cs : Addr -> Prop) (hN : X.N.Nodup) (hc : Names X x cv) (hm : forall D, Cs D -> PySem.W.exmOne X.K (.ref D) cv = some true)
    (hb : forall (N' : En) pn xe, (forall D, Cs D -> Xok (X.tr pn xe) N' (fun r => r = ρ) D) -> GS (X.tr pn xe) N' body ρ Φ)
    (hsu : forall (N' : En) D, Cs D -> forall a oe pn, Zc (.ref D) none oe -> (∃ vs, oe.data = .fields vs) -> GS (X.suite a ((a, oe) :: pn)) N' (b0 :: suite) (ρ.set i (.raw (.ref a))) { nx := fun r => Φ.nx (r.set i .any), rt := Φ.rt, bk := fun r => Φ.bk (r.set i .any), ct := fun r => Φ.ct (r.set i .any), mm := Φ.mm })
    (hi : X.N[i]? = some n := by rfl) (hln : X.env.kindOf n = some .local := by rfl) (hs : X.stack = X.env :: X.outer := by rfl) (hf : X.env.frame = some X.env.locals := by rfl) :
    G1 X N (.Try body [.ExceptHandler (some (.Name x np)) (some n) (b0 :: suite) pos'] [] [] pos) ρ Φ := by
  refine g1_of (ps_try_as (i := i) (tb := fun W D σ H => forall pn xe, Takes (X.tr pn xe) W -> tws (X.tr pn xe) body D σ H) (ts := fun a cls d D σ H => forall oe pn, Zc cls d oe -> (∃ vs, oe.data = .fields vs) -> tws (X.suite a ((a, oe) :: pn)) (b0 :: suite) D σ H) (Wout := fun _ _ _ _ => False) hs hf hN hi hln hc takes0
    (fun W pn xe tk _ => ⟨fun pins s σ H D I h => (h pn xe tk pins s I).run⟩) (fun a oe cls d pn hz hd => ⟨fun pins s σ H D I h => (h oe pn hz hd pins s I).run⟩)) fun P σ H fr => ?_
  intro pn xe tk
  have npin : Fr X.K { N with p := fun b => match N.p b with | some o => some o | none => P b } P σ H ρ ∧ Same N.p (fun b => match N.p b with | some o => some o | none => P b) ∧ Same P (fun b => match N.p b with | some o => some o | none => P b) := by
    obtain ⟨G, e0, sp, s, f⟩ := fr
    refine ⟨⟨G, ⟨e0.toExt, fun b o z => ?_⟩, sp, s, f⟩, fun b o z => ?_, fun b o z => ?_⟩
    · have z' : (match N.p b with | some o => some o | none => P b) = some o := z
      cases h1 : N.p b with
      | none => rw [h1] at z'; exact sp b o z'
      | some o' => rw [h1] at z'; cases z'; exact e0.pin b _ h1
    · show (match N.p b with | some o => some o | none => P b) = some o
      rw [z]
    · show (match N.p b with | some o => some o | none => P b) = some o
      cases h1 : N.p b with
      | none => exact z
      | some o' =>
        have := e0.pin b o' h1
        rw [sp b o z] at this
        exact congrArg some (Option.some.inj this.symm)
  obtain ⟨fr', hq1, hq2⟩ := npin
  generalize hq : (fun b => match N.p b with | some o => some o | none => P b) = q at fr' hq1 hq2
  have le : EndsLe (ends X.K { N with p := q } P Φ) (ends X.K N P Φ) := by
    have l1 := ends_unpin (K := X.K) (N := N) (q := q) (P := P) (Φ := Φ) hq1
    have l2 := ends_weakP (K := X.K) (N := N) (P := q) (P' := P) (Φ := Φ) hq2
    exact ⟨fun _ _ z => l2.nx _ _ (l1.nx _ _ z), fun _ _ z => l2.rt _ _ (l1.rt _ _ z), fun _ _ z => l2.bk _ _ (l1.bk _ _ z), fun _ _ z => l2.ct _ _ (l1.ct _ _ z)⟩
  refine tws_mono le (hb { N with p := q } pn xe (fun D hD => ⟨_, tk, fun P1 σ1 H1 ρ1 hρ f1 => ?_⟩) P σ H fr')
  subst hρ
  refine ⟨true, hm D hD, fun _ a ha oe pn2 hz hd => ?_, fun z => nomatch z⟩
  refine tws_mono ?_ (hsu { N with p := q } D hD a oe pn2 hz hd q (σ1.set i (some (.ref a))) H1 (by
    have f2 := f1.setRaw i (.ref a)
    obtain ⟨G, e0, sp, s, f⟩ := f2
    exact ⟨G, e0, e0.pin, s, f⟩))
  have toP : forall {σ2 : L2.St} {H2 : Hp} {ρ2 : Rho}, Fr X.K { N with p := q } q σ2 H2 ρ2 -> Fr X.K N P (σ2.set i none) H2 (ρ2.set i .any) := fun f2 => ((f2.unpin hq1).weakP hq2).setAny i none
  exact ⟨fun σ2 H2 ⟨ρ2, f2, z⟩ => ⟨_, toP f2, z⟩, fun v H2 ⟨d, ⟨G, a1, a2, a3⟩, z⟩ => ⟨d, ⟨G, ⟨a1.toExt, hq1.trans a1.pin⟩, hq2.trans a1.pin, a3⟩, z⟩, fun σ2 H2 ⟨ρ2, f2, z⟩ => ⟨_, toP f2, z⟩, fun σ2 H2 ⟨ρ2, f2, z⟩ => ⟨_, toP f2, z⟩⟩
/-- isinstance(e, Y), e the caught error of the class at D -/
theorem ge_isE {i : Nat} {a D Cy : Addr} {oe : Obj} {pn : List (Addr × Obj)} {y : Str} {pe py : Pos} {k : Bool} (hm : X.mg "isinstance" = none) (hC : ExcC X.K D) (hz : Zc (.ref D) none oe) (hf : ∃ vs, oe.data = .fields vs) (hy : X.mg y = some (.ref Cy)) (hk : PySem.W.kitOne X.K (.ref D) (.ref Cy) = some k)
    (hr : ρ[i]? = some (.raw (.ref a)) := by rfl) (hN : X.N[i]? = some n := by rfl) (hv : Vis X.env.scope n := by first | exact Or.inl rfl | exact Or.inr (Or.inl rfl) | exact Or.inr (Or.inr rfl)) (hg : Gl X "isinstance" := by rfl) (hgy : Gl X y := by rfl) (hd : (n == ("__debug__" : Str)) = false := by decide) (hcd : (n == ("__classdict__" : Str)) = false := by decide) (hdy : (y == ("__debug__" : Str)) = false := by decide)
    (hs1 : starEach [.Name n pe, .Name y py] X.env = (false, eval (.Name n pe) X.env) :: starEach [.Name y py] X.env := by rfl) (hs2 : starEach [.Name y py] X.env = (false, eval (.Name y py) X.env) :: starEach [] X.env := by rfl) (hpl : (backTo pos (starEach [.Name y py] X.env)).any (·.1) = false := by rfl) :
    GE (X.suite a ((a, oe) :: pn)) (.Call (.Name "isinstance" p) [.Name n pe, .Name y py] [] pos) ρ (.bool k) :=
  ge_of (pe_callB (call_isE hC hz hf) hg hm (by decide +kernel) (pa_cons (pe_var (X := X.suite a ((a, oe) :: pn)) hN hv hd hcd) (pa_cons (pe_glob (X := X.suite a ((a, oe) :: pn)) (v := .ref Cy) hgy hy rfl hdy) pa_nil hs2) hs1) (by decide) (by decide) hs1 hpl) fun σ G H Q s q => by
    obtain ⟨ov, h1, h2⟩ := s.at_ i _ hr
    have h2' : ov = some (.ref a) := h2
    subst h2'
    exact ⟨.ref a, h1, .ref Cy, .ref Cy, k, rfl, fun u r => r, hk, q _ G H (.refl s.gh) (.bl k)⟩
/-- [..].index(True) -/
theorem ge_indexB {bs : List Bool} {j : Nat} {apos : Pos} (ha : GE X a ρ (.list (bs.map PyData.bool))) (hb : GE X b ρ (.bool true)) (hj : bs[j]? = some true) (hn : forall m, m < j -> bs[m]? = some false)
    (hbase : attributeBase a "index" X.env (eval a X.env) = eval a X.env := by rfl)
    (hfew : ((backTo pos (starEach (b :: []) X.env)).all (fun x => !x.1) && (backToKw pos (keywordEach [] X.env)).all (fun x => x.1.isSome) && decide ((b :: []).length + ([] : List Keyword).length + (if ([] : List Keyword).isEmpty then 0 else 1) < 30)) = true := by rfl)
    (hline : (apos.endLine == pos.line) = true := by rfl) (hs1 : starEach (b :: []) X.env = (false, eval b X.env) :: starEach [] X.env := by rfl) (hplain : (backTo pos (starEach [] X.env)).any (·.1) = false := by rfl) : GE X (.Call (.Attribute a "index" apos) [b] [] pos) ρ (.int (j : Nat)) :=
  ge_of (pe_bm PySem.F.plainAttrs_list PySem.F.slot_list_index PySem.F.type_list_index mt_index pe_tw (pa_cons pe_tw pa_nil hs1) hbase hfew hline hs1 hplain) fun σ G H Q s q => ha σ G H _ s fun v G1 H1 e1 dv => by
    cases dv with
    | lst s1 a1 =>
      rw [a1.bools] at s1
      refine ⟨.inl ⟨rfl, _, .inl (.inl (e1.gh _ _ s1))⟩, hb σ G1 H1 _ (s.ext e1) fun v2 G2 H2 e2 d2 => ?_⟩
      cases d2
      refine ⟨_, bs.map V.bl, .bl true, j, .bl true, rfl, rfl, .inl (.inl (e2.h _ _ (e1.gh _ _ s1))), rfl, ?_, by rw [List.getElem?_map, hj]; rfl, rfl, fun m z hm hz => ?_, q _ G2 H2 (e1.trans e2) (.int _)⟩
      · rw [List.all_map, List.all_eq_true]
        intro _ _
        rfl
      · rw [List.getElem?_map, hn m hm] at hz
        cases hz
        rfl
theorem no_out {P : Program} {w : World} (H : Hp) (s : Shared) (e : Value) (s' : Shared) (h : L2.CX P w [] H s (fun _ _ _ => False) e s') : False := by
  obtain ⟨_, _, _, _, _, _, _, _, _, _, _, _, z⟩ := h
  exact z
end
end Gd

namespace Gd
open PySem PySem.Spec L2
section
variable {X : Cx} {N : En} {st : Stmt} {e a b c elt tg iter : Expr} {es ifs : List Expr} {ρ ρ' : Rho} {d d1 d2 : PyData} {ds : List PyData} {pos pos' p p2 : Pos} {Φ : Post} {i j : Int} {l : List Nat} {k : Bool}
theorem sub_of {T : Tg} {own : List (Str × Nat)} (h : (T.sl.all fun j => (own.map (·.2)).contains j) = true) : forall j, j ∈ T.sl -> j ∈ own.map (·.2) := fun j hj => by
  have := List.all_eq_true.mp h j hj
  simpa using this
theorem lcF {α : Type} (L : List α) (g : α -> PyData) (F : α -> Option PyData) {T : Tg} {scope : Scope} (own : List (Str × Nat)) (hi : GI X tg iter ρ (L.map g)) (hN : X.N.Nodup) (hlen : L.length ≤ 1000000) (hg : forall s H C cl fp, GTg (Blk X scope s H C cl fp) tg T)
    (turn : forall (i : Nat) (x : α), L[i]? = some x -> ∃ ρ2, T.put (g x) (wipeR ρ (own.map (·.2))) = some ρ2 ∧ forall s H C cl fp, GTs (Blk X scope s H C cl fp) ifs ρ2 (F x).isSome ∧ forall y, F x = some y -> GE (Blk X scope s H C cl fp) elt ρ2 y)
    (ok : blkC X.N X.env.scope scope own = true := by kernel_rfl) (hsub : (T.sl.all fun j => (own.map (·.2)).contains j) = true := by rfl) (hc : X.calm = true := by rfl) (hfs : forall x, foldedSetIterable iter X.env x = pure x := by intro _; rfl) : GE X (.ListComp elt [⟨tg, iter, ifs, 0⟩] scope pos) ρ (.list (L.filterMap F)) :=
  ge_lcF L g F own hi hN (blkOk_by ok) hg (sub_of hsub) hlen turn hc hfs
theorem lc {α : Type} (L : List α) (g : α -> PyData) (F : α -> PyData) {T : Tg} {scope : Scope} (own : List (Str × Nat)) (hi : GI X tg iter ρ (L.map g)) (hN : X.N.Nodup) (hlen : L.length ≤ 1000000) (hg : forall s H C cl fp, GTg (Blk X scope s H C cl fp) tg T)
    (turn : forall (i : Nat) (x : α), L[i]? = some x -> ∃ ρ2, T.put (g x) (wipeR ρ (own.map (·.2))) = some ρ2 ∧ forall s H C cl fp, GE (Blk X scope s H C cl fp) elt ρ2 (F x))
    (ok : blkC X.N X.env.scope scope own = true := by kernel_rfl) (hsub : (T.sl.all fun j => (own.map (·.2)).contains j) = true := by rfl) (hc : X.calm = true := by rfl) (hfs : forall x, foldedSetIterable iter X.env x = pure x := by intro _; rfl) : GE X (.ListComp elt [⟨tg, iter, [], 0⟩] scope pos) ρ (.list (L.map F)) :=
  ge_lc L g F own hi hN (blkOk_by ok) hg (sub_of hsub) hlen turn hc hfs
theorem k_allF {α : Type} (L : List α) (f : α -> Bool) (hc : X.calm = true) : CalD X (.builtin "all") [.list (L.map fun x => .bool (f x))] (.bool (L.all f)) := by
  have h := k_all (X := X) (bs := L.map f) hc
  rw [List.map_map] at h
  have e : (L.map f).all id = L.all f := by rw [List.all_map]; rfl
  rw [e] at h
  exact h
theorem k_anyF {α : Type} (L : List α) (f : α -> Bool) (hc : X.calm = true) : CalD X (.builtin "any") [.list (L.map fun x => .bool (f x))] (.bool (L.any f)) := by
  have h := k_any (X := X) (bs := L.map f) hc
  rw [List.map_map] at h
  have e : (L.map f).any id = L.any f := by rw [List.any_map]; rfl
  rw [e] at h
  exact h
/-- y = [..]: the statement -/
theorem g1_setLcF {α : Type} (iy : Nat) (L : List α) (g : α -> PyData) (F : α -> Option PyData) {T : Tg} {scope : Scope} (own : List (Str × Nat)) {y : Str} {py spos : Pos} (hi : GI X tg iter ρ (L.map g)) (hN : X.N.Nodup) (hlen : L.length ≤ 1000000) (hg : forall s H C cl fp, GTg (Blk X scope s H C cl fp) tg T)
    (turn : forall (i : Nat) (x : α), L[i]? = some x -> ∃ ρ2, T.put (g x) (wipeR ρ (own.map (·.2))) = some ρ2 ∧ forall s H C cl fp, GTs (Blk X scope s H C cl fp) ifs ρ2 (F x).isSome ∧ forall y, F x = some y -> GE (Blk X scope s H C cl fp) elt ρ2 y)
    (h : Φ.nx (ρ.set iy (.dat (.list (L.filterMap F)))))
    (hsw : swapsWith (.ListComp elt [⟨tg, iter, ifs, 0⟩] scope pos) (some (.Name y py)) spos.line X.env = pure true := by exact sw_true rfl rfl rfl (by decide +kernel)) (ok : blkC X.N X.env.scope scope own = true := by kernel_rfl) (hy : X.N[iy]? = some y := by rfl) (hyl : X.env.scope.names.lookup y = some .local := by rfl)
    (hsub : (T.sl.all fun j => (own.map (·.2)).contains j) = true := by rfl) (hc : X.calm = true := by rfl) (hfs : forall x, foldedSetIterable iter X.env x = pure x := by intro _; rfl) : G1 X N (.Assign [.Name y py] (.ListComp elt [⟨tg, iter, ifs, 0⟩] scope pos) spos) ρ Φ := by
  obtain ⟨wi, hpi, hw⟩ := hi
  refine g1_of (ps_setLc (own := own) (g := T.rd X.K)
    (tt := fun σ H Q => forall s H' C cl fp pins s', Inv (Blk X scope s H' C cl fp) pins σ H s' -> wpAny (model X.prog X.w) (Blk X scope s H' C cl fp).A (forIn ifs true fun c r => if r = true then do let ok ← isTrue c (Blk X scope s H' C cl fp).env (eval c (Blk X scope s H' C cl fp).env); pure (ForInStep.yield ok) else pure (ForInStep.yield r)) (TP (Blk X scope s H' C cl fp) pins σ Q) (Blk X scope s H' C cl fp).xe s')
    (te := fun σ H Q => forall s H' C cl fp, tw (Blk X scope s H' C cl fp) elt σ H Q) hc hN hy hyl hsw hpi (blkOk_by ok) (fun s H C cl fp => hg s H C cl fp) (fun s H C cl fp => ⟨fun pins s' σ H' Q I h => h s H C cl fp pins s' I⟩) (fun s H C cl fp => ⟨fun pins s' σ H' Q I h => (h s H C cl fp pins s' I).run⟩) hfs) fun P σ H f => ?_
  refine f.ev (ev_lc L g F hw (sub_of hsub) hlen fun i x hx => ?_) fun v G H' e1 sp sta fr dv => ⟨_, ⟨G, e1, sp, sta.set iy dv, fresh_set fr⟩, h⟩
  obtain ⟨ρ2, hput, h2⟩ := turn i x hx
  exact ⟨ρ2, hput, fun σ G H Q s q s0 H' C cl fp pins s' I => ((h2 s0 H' C cl fp).1 σ G H Q s q pins s' I).run, fun y hy σ G H Q s q s0 H' C cl fp => (h2 s0 H' C cl fp).2 y hy σ G H Q s q⟩
theorem g1_setLc {α : Type} (iy : Nat) (L : List α) (g : α -> PyData) (F : α -> PyData) {T : Tg} {scope : Scope} (own : List (Str × Nat)) {y : Str} {py spos : Pos} (hi : GI X tg iter ρ (L.map g)) (hN : X.N.Nodup) (hlen : L.length ≤ 1000000) (hg : forall s H C cl fp, GTg (Blk X scope s H C cl fp) tg T)
    (turn : forall (i : Nat) (x : α), L[i]? = some x -> ∃ ρ2, T.put (g x) (wipeR ρ (own.map (·.2))) = some ρ2 ∧ forall s H C cl fp, GE (Blk X scope s H C cl fp) elt ρ2 (F x))
    (h : Φ.nx (ρ.set iy (.dat (.list (L.map F)))))
    (hsw : swapsWith (.ListComp elt [⟨tg, iter, [], 0⟩] scope pos) (some (.Name y py)) spos.line X.env = pure true := by exact sw_true rfl rfl rfl (by decide +kernel)) (ok : blkC X.N X.env.scope scope own = true := by kernel_rfl) (hy : X.N[iy]? = some y := by rfl) (hyl : X.env.scope.names.lookup y = some .local := by rfl)
    (hsub : (T.sl.all fun j => (own.map (·.2)).contains j) = true := by rfl) (hc : X.calm = true := by rfl) (hfs : forall x, foldedSetIterable iter X.env x = pure x := by intro _; rfl) : G1 X N (.Assign [.Name y py] (.ListComp elt [⟨tg, iter, [], 0⟩] scope pos) spos) ρ Φ :=
  g1_setLcF iy L g (fun x => some (F x)) own hi hN hlen hg (fun i x hx => by
    obtain ⟨ρ2, h1, h2⟩ := turn i x hx
    exact ⟨ρ2, h1, fun s H C cl fp => ⟨gts_nil, fun y hy => by cases hy; exact h2 s H C cl fp⟩⟩) (by rw [List.filterMap_eq_map']; exact h) hsw ok hy hyl hsub hc hfs
theorem atI_0 {α : Type} {l : List α} {n : Nat} {x : α} (h : l[n]? = some x) : atI l (n : Int) = some x := atI_nat h
theorem atI_z {α : Type} {l : List α} {z : Int} {x : α} (h0 : 0 ≤ z) (h : l[z.toNat]? = some x) : atI l z = some x := by
  have e : z = ((z.toNat : Nat) : Int) := by omega
  rw [e]
  exact atI_nat h
end
/-! ### == of data -/
mutual
theorem eqv_refl : forall d : PyData, noDict d = true -> PyData.eqv d d = true
  | .none, _ => by simp [PyData.eqv]
  | .bool b, _ => by simp [PyData.eqv]
  | .int i, _ => by simp [PyData.eqv]
  | .str s, _ => by simp [PyData.eqv]
  | .list xs, h => by
    rw [noDict] at h
    rw [PyData.eqv]
    exact eqvAll_refl xs h
  | .tuple xs, h => by
    rw [noDict] at h
    rw [PyData.eqv]
    exact eqvAll_refl xs h
  | .dict _, h => by simp [noDict] at h
theorem eqvAll_refl : forall ds : List PyData, noDictAll ds = true -> PyData.eqvAll ds ds = true
  | [], _ => by simp [PyData.eqvAll]
  | d :: ds, h => by
    rw [noDictAll, Bool.and_eq_true] at h
    rw [PyData.eqvAll, eqv_refl d h.1, eqvAll_refl ds h.2]
    rfl
end
end Gd

namespace Gd
open PySem PySem.Spec L2
section
variable {X : Cx} {N : En} {a b c e : Expr} {ρ : Rho} {d d1 d2 : PyData} {ds : List PyData} {pos p : Pos} {i j : Int} {l : List Nat}
theorem ge_lenS (hm : X.mg "len" = none) (ha : GE X a ρ (.str (S l))) (h : l.length ≤ 100000) (hg : Gl X "len" := by rfl) (he : starEach [a] X.env = (false, eval a X.env) :: starEach [] X.env := by rfl) (hpl : (backTo pos (starEach [] X.env)).any (·.1) = false := by rfl) : GE X (.Call (.Name "len" p) [a] [] pos) ρ (.int l.length) :=
  ge_cb hm bt_len (k_lenS h) (ga_cons ha ga_nil he) hg (by decide) (by decide) he hpl
theorem ge_lenL (hm : X.mg "len" = none) (ha : GE X a ρ (.list ds)) (hg : Gl X "len" := by rfl) (he : starEach [a] X.env = (false, eval a X.env) :: starEach [] X.env := by rfl) (hpl : (backTo pos (starEach [] X.env)).any (·.1) = false := by rfl) : GE X (.Call (.Name "len" p) [a] [] pos) ρ (.int ds.length) :=
  ge_cb hm bt_len k_lenL (ga_cons ha ga_nil he) hg (by decide) (by decide) he hpl
theorem ge_lenC {ns : List Int} (hm : X.mg "len" = none) (ha : GE X a ρ (scrD ns)) (hg : Gl X "len" := by rfl) (he : starEach [a] X.env = (false, eval a X.env) :: starEach [] X.env := by rfl) (hpl : (backTo pos (starEach [] X.env)).any (·.1) = false := by rfl) : GE X (.Call (.Name "len" p) [a] [] pos) ρ (.int ns.length) :=
  ge_cb hm bt_len k_lenScr (ga_cons ha ga_nil he) hg (by decide) (by decide) he hpl
theorem ge_min (hm : X.mg "min" = none) (ha : GE X a ρ (.int i)) (hb : GE X b ρ (.int j)) (hc : X.calm = true := by rfl) (hg : Gl X "min" := by rfl) (he : starEach [a, b] X.env = (false, eval a X.env) :: starEach [b] X.env := by rfl) (he2 : starEach [b] X.env = (false, eval b X.env) :: starEach [] X.env := by rfl) (hpl : (backTo pos (starEach [b] X.env)).any (·.1) = false := by rfl) :
    GE X (.Call (.Name "min" p) [a, b] [] pos) ρ (.int (if j < i then j else i)) := ge_cb hm bt_min (k_min2 hc) (ga_cons ha (ga_cons hb ga_nil he2) he) hg (by decide) (by decide) he hpl
theorem ge_max (hm : X.mg "max" = none) (ha : GE X a ρ (.int i)) (hb : GE X b ρ (.int j)) (hc : X.calm = true := by rfl) (hg : Gl X "max" := by rfl) (he : starEach [a, b] X.env = (false, eval a X.env) :: starEach [b] X.env := by rfl) (he2 : starEach [b] X.env = (false, eval b X.env) :: starEach [] X.env := by rfl) (hpl : (backTo pos (starEach [b] X.env)).any (·.1) = false := by rfl) :
    GE X (.Call (.Name "max" p) [a, b] [] pos) ρ (.int (if j > i then j else i)) := ge_cb hm bt_max (k_max2 hc) (ga_cons ha (ga_cons hb ga_nil he2) he) hg (by decide) (by decide) he hpl
/-- s[:e], s[e:], s[e:f] -/
theorem ge_toS {p2 : Pos} (ha : GE X a ρ (.str (S l))) (he : GE X e ρ (.int i)) (hi : 0 ≤ i) (hz : l.length ≤ 100000) : GE X (.Subscript a (.Slice none (some e) none p2) pos) ρ (.str (S (l.take i.toNat))) := by
  have h := ge_slS (pos := pos) (p2 := p2) (lo := none) (hi := some e) (vl := none) (vh := some i) ha trivial he hz
  rw [cut_to l i hi] at h
  exact h
theorem ge_fromS {p2 : Pos} (ha : GE X a ρ (.str (S l))) (he : GE X e ρ (.int i)) (hi : 0 ≤ i) (hz : l.length ≤ 100000) : GE X (.Subscript a (.Slice (some e) none none p2) pos) ρ (.str (S (l.drop i.toNat))) := by
  have h := ge_slS (pos := pos) (p2 := p2) (lo := some e) (hi := none) (vl := some i) (vh := none) ha he trivial hz
  rw [cut_from l i hi] at h
  exact h
theorem ge_midS {p2 : Pos} (ha : GE X a ρ (.str (S l))) (he : GE X e ρ (.int i)) (hf : GE X c ρ (.int j)) (hi : 0 ≤ i) (hj : 0 ≤ j) (hz : l.length ≤ 100000) : GE X (.Subscript a (.Slice (some e) (some c) none p2) pos) ρ (.str (S ((l.take j.toNat).drop i.toNat))) := by
  have h := ge_slS (pos := pos) (p2 := p2) (lo := some e) (hi := some c) (vl := some i) (vh := some j) ha he hf hz
  rw [cut_mid l i j hi hj] at h
  exact h
end
end Gd

namespace Lw
open PySem PySem.Spec L2 Gd
/-! ### the mirror: rules, states, logs -/
structure Ru where
  st : Int
  pa : Int
  da : Int
  ni : Int
  sp : Int
structure Sq where
  st : Int
  da : Int
  mar : Bool
  ru : Int
  tk : Bool
def ruD (r : Ru) : PyData := .tuple [.int r.st, .int r.pa, .int r.da, .int r.ni, .int r.sp]
def sqD (s : Sq) : PyData := .tuple [.int s.st, .int s.da, .bool s.mar, .int s.ru, .bool s.tk]
def shD (s : Sq) : PyData := .tuple [.int s.st, .int s.da, .bool s.mar]
def okInt (d : PyData) (lo hi : Int) : Bool := match d with
  | .int i => decide (lo ≤ i) && decide (i ≤ hi)
  | _ => false
def isRules : PyData -> Bool
  | .tuple [a, b, c, d, e] => (okInt a 1 6 && okInt b 1 4) && (match a, b with
    | .int s, .int p => okInt c s 10 && (okInt d p 6 && okInt e 0 (p - 1))
    | _, _ => false)
  | _ => false
/-- signs: D 68, R 82, W 87 -/
def isSg (c : Nat) : Bool := decide (c ∈ [68, 82, 87])
def isLogL (l : List Nat) : Bool := decide ((l.length : Int) ≤ 60) && l.all isSg
def isLog : PyData -> Bool
  | .str z => isLogL z.cps.toList
  | _ => false
/-- arguments of other forms are not too great -/
def smol : PyData -> Bool
  | .str z => decide (z.length ≤ 1000)
  | _ => true
def restOnce (r : Ru) (s : Sq) : Sq :=
  let run := if r.ni < s.ru + 1 then r.ni else s.ru + 1
  let b1 := decide (0 < r.sp) && (s.mar && decide (r.pa - r.sp ≤ run))
  let b2 := decide (r.pa ≤ run)
  { st := if b2 then 0 else if b1 then 0 else s.st, da := if r.ni ≤ run then 0 else s.da, mar := if b2 then false else if b1 then false else s.mar, ru := run, tk := if b1 then true else s.tk }
def endRun (r : Ru) (s : Sq) : Sq :=
  { st := s.st, da := s.da, mar := s.mar || (decide (0 < r.sp) && ((decide (r.sp ≤ s.ru) && decide (s.ru < r.pa)) && !s.tk)), ru := 0, tk := false }
def stepF (r : Ru) (s : Sq) (c : Nat) : Sq :=
  if c = 82 then restOnce r s else if c = 68 then { endRun r s with st := s.st + 1, da := s.da + 1 } else endRun r s
def start0 : Sq := ⟨0, 0, false, 0, false⟩
def after (r : Ru) (l : List Nat) : Sq := l.foldl (stepF r) start0
/-- the states after 0, 1, 2 .. slots -/
def statesL (r : Ru) (l : List Nat) : List Sq := (List.range (l.length + 1)).map fun i => after r (l.take i)
def isOver (r : Ru) (s : Sq) : Bool := decide (r.st < s.st) || decide (r.da < s.da)
def badAt (r : Ru) (l : List Nat) (i : Nat) : Bool := decide (l[i]? = some 68) && isOver r (after r (l.take (i + 1)))
def faultsL (r : Ru) (l : List Nat) : List Nat := (List.range l.length).filter fun i => badAt r l i
theorem after_snoc (r : Ru) (l : List Nat) (c : Nat) : after r (l ++ [c]) = stepF r (after r l) c := by
  unfold after
  rw [List.foldl_append]
  rfl
theorem after_take {r : Ru} {l : List Nat} {i c : Nat} (h : l[i]? = some c) : after r (l.take (i + 1)) = stepF r (after r (l.take i)) c := by
  rw [List.take_add_one, h]
  exact after_snoc r _ c
theorem statesL_take {r : Ru} {l : List Nat} {i c : Nat} (h : l[i]? = some c) : (List.range (i + 1 + 1)).map (fun j => after r (l.take j)) = (List.range (i + 1)).map (fun j => after r (l.take j)) ++ [stepF r (after r (l.take i)) c] := by
  rw [List.range_succ (n := i + 1), List.map_append, ← after_take h]
  rfl
/-! ### data that may be compared -/
mutual
def shN : Nat -> PyData -> Bool
  | _, .none => true
  | _, .bool _ => true
  | _, .int _ => true
  | _, .str x => PyData.canLay0 (.str x)
  | 0, .list _ => false
  | 0, .tuple _ => false
  | n + 1, .list ds => shAll n ds
  | n + 1, .tuple ds => shAll n ds
  | _, .dict _ => false
def shAll : Nat -> List PyData -> Bool
  | _, [] => true
  | n, d :: ds => shN n d && shAll n ds
end
mutual
theorem shN_ok : forall (n : Nat) (d : PyData), shN n d = true -> noDict d = true ∧ PyData.canLay0 d = true ∧ PyData.depth d ≤ n
  | _, .none, _ => by simp [noDict, PyData.canLay0, PyData.depth]
  | _, .bool _, _ => by simp [noDict, PyData.canLay0, PyData.depth]
  | _, .int _, _ => by simp [noDict, PyData.canLay0, PyData.depth]
  | _, .str x, h => by
    have h' : PyData.canLay0 (.str x) = true := by simpa [shN] using h
    exact ⟨by simp [noDict], h', by simp [PyData.depth]⟩
  | 0, .list _, h => by simp [shN] at h
  | 0, .tuple _, h => by simp [shN] at h
  | n + 1, .list ds, h => by
    obtain ⟨a, b, c⟩ := shAll_ok n ds (by simpa [shN] using h)
    exact ⟨by simpa [noDict] using a, by simpa [PyData.canLay0] using b, by rw [PyData.depth]; omega⟩
  | n + 1, .tuple ds, h => by
    obtain ⟨a, b, c⟩ := shAll_ok n ds (by simpa [shN] using h)
    exact ⟨by simpa [noDict] using a, by simpa [PyData.canLay0] using b, by rw [PyData.depth]; omega⟩
  | _, .dict _, h => by simp [shN] at h
theorem shAll_ok : forall (n : Nat) (ds : List PyData), shAll n ds = true -> noDictAll ds = true ∧ PyData.canLayAll0 ds = true ∧ PyData.depthAll ds ≤ n
  | _, [], _ => by simp [noDictAll, PyData.canLayAll0, PyData.depthAll]
  | n, d :: ds, h => by
    rw [shAll, Bool.and_eq_true] at h
    obtain ⟨a, b, c⟩ := shN_ok n d h.1
    obtain ⟨a', b', c'⟩ := shAll_ok n ds h.2
    refine ⟨by rw [noDictAll, a, a']; rfl, by rw [PyData.canLayAll0, b, b']; rfl, ?_⟩
    rw [PyData.depthAll]
    omega
end
theorem shap_of {d : PyData} (n : Nat) (h : shN n d = true) (hn : n ≤ 64 := by decide) : shap d = true := by
  obtain ⟨a, b, c⟩ := shN_ok n d h
  unfold shap SeqAt.shaped
  rw [a, b, decide_eq_true (show PyData.depth d ≤ 64 by omega)]
  rfl
theorem shAll_map {α : Type} {n : Nat} {f : α -> PyData} : forall (L : List α), (forall x, x ∈ L -> shN n (f x) = true) -> shAll n (L.map f) = true
  | [], _ => by simp [shAll]
  | x :: L, h => by
    rw [List.map_cons, shAll, h x List.mem_cons_self, shAll_map L fun y hy => h y (List.mem_cons_of_mem _ hy)]
    rfl
theorem shN_list {α : Type} {n : Nat} {f : α -> PyData} (L : List α) (h : forall x, x ∈ L -> shN n (f x) = true) : shN (n + 1) (.list (L.map f)) = true := by
  rw [shN]
  exact shAll_map L h
end Lw

namespace Lw
open PySem PySem.Spec L2 Gd
/-! ### the law's draws -/
def dwh : Nat -> Int -> Int
  | 0, rest => rest
  | t + 1, rest => if 0 < rest then dwh t (rest / 1000000) else rest
def mixD (cell k many : Int) : Int :=
  let c1 := (cell % 2147483563 * 69069 + 104723 * (k + 1)) % 2147483563
  let c2 := (c1 * c1 + c1 / 3) % 2147483399
  (c2 * c2 + c2 / 7) % 2147483647 / 11 % many
def cellAt (ns : List Int) (k : Int) : Int := ns.getD (k % (ns.length : Int)).toNat 0
def drawn (ns : List Int) (k many : Int) : Int :=
  if ns.isEmpty = true then mixD (7 * k) k many
  else if (decide (10 ^ 18 ≤ cellAt ns k) && decide (k / (ns.length : Int) < 60)) = true then
    (if 0 < dwh (k / (ns.length : Int)).toNat (cellAt ns k / 10 ^ 18) then dwh (k / (ns.length : Int)).toNat (cellAt ns k / 10 ^ 18) % 1000000 % many
    else mixD (cellAt ns k + 6553 * (k / (ns.length : Int))) k many)
  else mixD (cellAt ns k + 6553 * (k / (ns.length : Int))) k many
theorem mixD_range (cell k many : Int) (h : 0 < many) : 0 ≤ mixD cell k many ∧ mixD cell k many < many := ⟨Int.emod_nonneg _ (by omega), Int.emod_lt_of_pos _ h⟩
theorem drawn_range (ns : List Int) (k many : Int) (h : 0 < many) : 0 ≤ drawn ns k many ∧ drawn ns k many < many := by
  unfold drawn
  split
  · exact mixD_range _ _ _ h
  · split
    · split
      · exact ⟨Int.emod_nonneg _ (by omega), Int.emod_lt_of_pos _ h⟩
      · exact mixD_range _ _ _ h
    · exact mixD_range _ _ _ h
theorem cellAt_at {ns : List Int} {k : Int} (h : ns ≠ []) (hk : 0 ≤ k) : atI ns (k % (ns.length : Int)) = some (cellAt ns k) := by
  have hl : 0 < ns.length := List.length_pos_iff.mpr h
  have h0 : 0 ≤ k % (ns.length : Int) := Int.emod_nonneg _ (by omega)
  have h1 : k % (ns.length : Int) < ns.length := Int.emod_lt_of_pos _ (by omega)
  refine atI_z h0 ?_
  have h2 : (k % (ns.length : Int)).toNat < ns.length := by omega
  unfold cellAt
  rw [List.getElem?_eq_getElem h2, List.getD_eq_getElem?_getD, List.getElem?_eq_getElem h2]
  rfl
end Lw

namespace Lw
open PySem PySem.Spec L2 Gd
/-! ### rules -/
structure VR (r : Ru) : Prop where
  s1 : 1 ≤ r.st
  s2 : r.st ≤ 6
  p1 : 1 ≤ r.pa
  p2 : r.pa ≤ 4
  d1 : r.st ≤ r.da
  d2 : r.da ≤ 10
  n1 : r.pa ≤ r.ni
  n2 : r.ni ≤ 6
  q1 : 0 ≤ r.sp
  q2 : r.sp ≤ r.pa - 1
theorem isRules_iff (r : Ru) : isRules (ruD r) = true <-> VR r := by
  unfold isRules ruD okInt
  simp only [Bool.and_eq_true, decide_eq_true_eq]
  constructor
  · rintro ⟨⟨⟨a, b⟩, c, d⟩, ⟨e, f⟩, ⟨g, h⟩, i, j⟩
    exact ⟨a, b, c, d, e, f, g, h, i, j⟩
  · rintro ⟨a, b, c, d, e, f, g, h, i, j⟩
    exact ⟨⟨⟨a, b⟩, c, d⟩, ⟨e, f⟩, ⟨g, h⟩, i, j⟩
/-! ### the law's own counters -/
def lstep (r : Ru) (s : Sq) (c : Nat) : Sq :=
  if c = 82 then
    { st := if decide (r.pa ≤ s.ru + 1) = true then 0 else if (s.mar && (decide (0 < r.sp) && decide (s.ru + 1 = r.pa - r.sp))) = true then 0 else s.st
      da := if r.ni ≤ s.ru + 1 then 0 else s.da
      mar := if decide (r.pa ≤ s.ru + 1) = true then false else if (s.mar && (decide (0 < r.sp) && decide (s.ru + 1 = r.pa - r.sp))) = true then false else s.mar
      ru := s.ru + 1
      tk := if (s.mar && (decide (0 < r.sp) && decide (s.ru + 1 = r.pa - r.sp))) = true then true else s.tk }
  else
    { st := if c = 68 then s.st + 1 else s.st
      da := if c = 68 then s.da + 1 else s.da
      mar := if ((decide (0 < r.sp) && (decide (r.sp ≤ s.ru) && decide (s.ru < r.pa))) && !s.tk) = true then true else s.mar
      ru := 0
      tk := false }
def lawAfter (r : Ru) (l : List Nat) : Sq := l.foldl (lstep r) start0
/-- the program's state s and the law's t -/
structure Alike (r : Ru) (s t : Sq) : Prop where
  st : s.st = t.st
  da : s.da = t.da
  mar : s.mar = t.mar
  tk : s.tk = t.tk
  ru : s.ru = if r.ni < t.ru then r.ni else t.ru
  pos : 0 ≤ t.ru
  low : t.mar = true -> 0 < r.sp -> t.ru < r.pa - r.sp
theorem alike0 {r : Ru} (v : VR r) : Alike r start0 start0 := by
  have := v.n1
  have := v.p1
  exact ⟨rfl, rfl, rfl, rfl, by show (0 : Int) = if r.ni < 0 then r.ni else 0; rw [if_neg (by omega)], Int.le_refl 0, fun h => nomatch h⟩
theorem ite_same {α : Type} {a b : Bool} {x y : α} (h : a = b) : (if a = true then x else y) = (if b = true then x else y) := by rw [h]
theorem alike_step {r : Ru} (v : VR r) {s t : Sq} (h : Alike r s t) (c : Nat) : Alike r (stepF r s c) (lstep r t c) := by
  obtain ⟨hst, hda, hmar, htk, hru, hpos, hmk⟩ := h
  obtain ⟨s1, s2, p1, p2, d1, d2, n1, n2, q1, q2⟩ := v
  obtain ⟨sst, sda, smar, sru, stk⟩ := s
  obtain ⟨tst, tda, tmar, tru, ttk⟩ := t
  simp only at hst hda hmar htk hru hpos hmk
  subst hst hda hmar htk
  unfold stepF lstep
  by_cases c82 : c = 82
  · rw [if_pos c82, if_pos c82]
    have erun : (if r.ni < sru + 1 then r.ni else sru + 1) = if r.ni < tru + 1 then r.ni else tru + 1 := by
      rw [hru]
      split <;> split <;> (try split) <;> (try split) <;> omega
    have e1 : (decide (0 < r.sp) && (smar && decide (r.pa - r.sp ≤ if r.ni < tru + 1 then r.ni else tru + 1))) = (smar && (decide (0 < r.sp) && decide (tru + 1 = r.pa - r.sp))) := by
      cases smar with
      | false => simp
      | true =>
        by_cases hs : 0 < r.sp
        · have := hmk rfl hs
          rw [if_neg (by omega)]
          have : decide (r.pa - r.sp ≤ tru + 1) = decide (tru + 1 = r.pa - r.sp) := by
            by_cases e : tru + 1 = r.pa - r.sp
            · rw [decide_eq_true e, decide_eq_true (by omega)]
            · rw [decide_eq_false e, decide_eq_false (by omega)]
          rw [this]
          simp
        · simp [hs]
    have e2 : decide (r.pa ≤ if r.ni < tru + 1 then r.ni else tru + 1) = decide (r.pa ≤ tru + 1) := by
      split
      · rw [decide_eq_true (by omega), decide_eq_true (by omega)]
      · rfl
    unfold restOnce
    dsimp only
    rw [erun, e1, e2]
    refine ⟨rfl, ?_, rfl, rfl, rfl, by show 0 ≤ tru + 1; omega, ?_⟩
    · show (if r.ni ≤ (if r.ni < tru + 1 then r.ni else tru + 1) then (0 : Int) else sda) = if r.ni ≤ tru + 1 then 0 else sda
      by_cases h : r.ni ≤ tru + 1
      · rw [if_pos h, if_pos (by split <;> omega)]
      · rw [if_neg h, if_neg (by split <;> omega)]
    · intro hm hs
      have hm' : (if decide (r.pa ≤ tru + 1) = true then false else if (smar && (decide (0 < r.sp) && decide (tru + 1 = r.pa - r.sp))) = true then false else smar) = true := hm
      show tru + 1 < r.pa - r.sp
      by_cases h2 : r.pa ≤ tru + 1
      · rw [decide_eq_true h2, if_pos rfl] at hm'
        cases hm'
      · rw [decide_eq_false h2, if_neg Bool.false_ne_true] at hm'
        cases smar with
        | false => simp at hm'
        | true =>
          have h3 := hmk rfl hs
          by_cases h4 : tru + 1 = r.pa - r.sp
          · rw [decide_eq_true h4, decide_eq_true hs] at hm'
            simp at hm'
          · omega
  · rw [if_neg c82, if_neg c82]
    have e1 : (smar || (decide (0 < r.sp) && ((decide (r.sp ≤ sru) && decide (sru < r.pa)) && !stk))) = if ((decide (0 < r.sp) && (decide (r.sp ≤ tru) && decide (tru < r.pa))) && !stk) = true then true else smar := by
      have a1 : decide (r.sp ≤ sru) = decide (r.sp ≤ tru) := by
        rw [hru]
        split
        · rw [decide_eq_true (by omega), decide_eq_true (by omega)]
        · rfl
      have a2 : decide (sru < r.pa) = decide (tru < r.pa) := by
        rw [hru]
        split
        · rw [decide_eq_false (by omega), decide_eq_false (by omega)]
        · rfl
      rw [a1, a2]
      cases smar <;> cases decide (0 < r.sp) <;> cases decide (r.sp ≤ tru) <;> cases decide (tru < r.pa) <;> cases stk <;> rfl
    have z0 : (0 : Int) = if r.ni < 0 then r.ni else 0 := by rw [if_neg (by omega)]
    by_cases c68 : c = 68
    · rw [if_pos c68, if_pos c68, if_pos c68]
      exact ⟨rfl, rfl, e1, rfl, z0, Int.le_refl 0, fun _ _ => by show (0 : Int) < r.pa - r.sp; omega⟩
    · rw [if_neg c68, if_neg c68, if_neg c68]
      exact ⟨rfl, rfl, e1, rfl, z0, Int.le_refl 0, fun _ _ => by show (0 : Int) < r.pa - r.sp; omega⟩
theorem alike_fold {r : Ru} (v : VR r) : forall (l : List Nat) (s t : Sq), Alike r s t -> Alike r (l.foldl (stepF r) s) (l.foldl (lstep r) t)
  | [], _, _, h => h
  | c :: l, _, _, h => alike_fold v l _ _ (alike_step v h c)
theorem alike_after {r : Ru} (v : VR r) (l : List Nat) : Alike r (after r l) (lawAfter r l) := alike_fold v l _ _ (alike0 v)
theorem law_sh {r : Ru} (v : VR r) (l : List Nat) : shD (lawAfter r l) = shD (after r l) := by
  have h := alike_after v l
  unfold shD
  rw [h.st, h.da, h.mar]
def lawBadAt (r : Ru) (l : List Nat) (i : Nat) : Bool := decide (l[i]? = some 68) && isOver r (lawAfter r (l.take (i + 1)))
def lawFaults (r : Ru) (l : List Nat) : List Nat := (List.range l.length).filter fun i => lawBadAt r l i
theorem law_over {r : Ru} (v : VR r) (l : List Nat) : isOver r (lawAfter r l) = isOver r (after r l) := by
  have h := alike_after v l
  unfold isOver
  rw [h.st, h.da]
theorem law_faults {r : Ru} (v : VR r) (l : List Nat) : lawFaults r l = faultsL r l := by
  unfold lawFaults faultsL
  congr 1
  funext i
  unfold lawBadAt badAt
  rw [law_over v]
/-! ### the law's rules and logs -/
def selSp (n : Int) : Int := if n < 2 then 0 else n - 1
def lawRules (ns : List Int) (at_ : Int) : Ru :=
  { st := 1 + drawn ns at_ 5
    pa := 1 + drawn ns (at_ + 1) 4
    da := if 1 + drawn ns at_ 5 + drawn ns (at_ + 2) 6 < 10 then 1 + drawn ns at_ 5 + drawn ns (at_ + 2) 6 else 10
    ni := if 1 + drawn ns (at_ + 1) 4 + drawn ns (at_ + 3) 4 < 6 then 1 + drawn ns (at_ + 1) 4 + drawn ns (at_ + 3) 4 else 6
    sp := if selSp (drawn ns (at_ + 4) 4) < 1 + drawn ns (at_ + 1) 4 - 1 then selSp (drawn ns (at_ + 4) 4) else 1 + drawn ns (at_ + 1) 4 - 1 }
theorem lawRules_vr (ns : List Int) (at_ : Int) : VR (lawRules ns at_) := by
  have a := drawn_range ns at_ 5 (by decide)
  have b := drawn_range ns (at_ + 1) 4 (by decide)
  have c := drawn_range ns (at_ + 2) 6 (by decide)
  have d := drawn_range ns (at_ + 3) 4 (by decide)
  have e := drawn_range ns (at_ + 4) 4 (by decide)
  have f : 0 ≤ selSp (drawn ns (at_ + 4) 4) := by unfold selSp; split <;> omega
  unfold lawRules
  constructor <;> dsimp only <;> (try split) <;> omega
/-- the signs of "DDRRDRW" -/
def sgAt (n : Int) : Nat := [68, 68, 82, 82, 68, 82, 87].getD n.toNat 68
theorem sgAt_sg {n : Int} (h0 : 0 ≤ n) (h : n < 7) : isSg (sgAt n) = true ∧ ([68, 68, 82, 82, 68, 82, 87] : List Nat)[n.toNat]? = some (sgAt n) := by
  have : n = 0 ∨ n = 1 ∨ n = 2 ∨ n = 3 ∨ n = 4 ∨ n = 5 ∨ n = 6 := by omega
  rcases this with rfl | rfl | rfl | rfl | rfl | rfl | rfl <;> exact ⟨rfl, rfl⟩
def logStep (ns : List Int) (at_ most : Int) (log : List Nat) (k : Nat) : List Nat :=
  if (log.length : Int) < most then
    log ++ (List.replicate (if 1 + drawn ns (at_ + 2 + 2 * (k : Int)) 4 < most - (log.length : Int) then 1 + drawn ns (at_ + 2 + 2 * (k : Int)) 4 else most - (log.length : Int)).toNat [sgAt (drawn ns (at_ + 1 + 2 * (k : Int)) 7)]).flatten
  else log
def logUpto (ns : List Int) (at_ most : Int) (n : Nat) : List Nat := (List.range n).foldl (logStep ns at_ most) []
def lawLog (ns : List Int) (at_ most : Int) : List Nat := logUpto ns at_ most (drawn ns at_ (most + 1)).toNat
theorem logUpto_succ (ns : List Int) (at_ most : Int) (n : Nat) : logUpto ns at_ most (n + 1) = logStep ns at_ most (logUpto ns at_ most n) n := by
  unfold logUpto
  rw [List.range_succ, List.foldl_append]
  rfl
theorem rep_len (n c : Nat) : (List.replicate n [c]).flatten.length = n := by
  induction n with
  | zero => rfl
  | succ n ih => rw [List.replicate_succ, List.flatten_cons, List.length_append, ih]; simp; omega
theorem rep_mem {n c x : Nat} (h : x ∈ (List.replicate n [c]).flatten) : x = c := by
  induction n with
  | zero => simp at h
  | succ n ih =>
    rw [List.replicate_succ, List.flatten_cons, List.mem_append] at h
    rcases h with h | h
    · simpa using h
    · exact ih h
theorem logStep_ok {ns : List Int} {at_ most : Int} {log : List Nat} {k : Nat} (hm : (log.length : Int) ≤ most) (hs : log.all isSg = true) : ((logStep ns at_ most log k).length : Int) ≤ most ∧ (logStep ns at_ most log k).all isSg = true := by
  unfold logStep
  have a := drawn_range ns (at_ + 2 + 2 * (k : Int)) 4 (by decide)
  have b := drawn_range ns (at_ + 1 + 2 * (k : Int)) 7 (by decide)
  split
  · refine ⟨?_, ?_⟩
    · rw [List.length_append, rep_len]
      split <;> omega
    · rw [List.all_append, hs, Bool.true_and, List.all_eq_true]
      intro x hx
      rw [rep_mem hx]
      exact (sgAt_sg b.1 b.2).1
  · exact ⟨hm, hs⟩
theorem logUpto_ok (ns : List Int) (at_ most : Int) (h0 : 0 ≤ most) : forall n : Nat, ((logUpto ns at_ most n).length : Int) ≤ most ∧ (logUpto ns at_ most n).all isSg = true
  | 0 => ⟨h0, rfl⟩
  | n + 1 => by
    rw [logUpto_succ]
    have := logUpto_ok ns at_ most h0 n
    exact logStep_ok this.1 this.2
theorem lawLog_ok (ns : List Int) (at_ most : Int) (h0 : 0 ≤ most) : ((lawLog ns at_ most).length : Int) ≤ most ∧ (lawLog ns at_ most).all isSg = true := logUpto_ok ns at_ most h0 _
theorem lawLog_isLog (ns : List Int) (at_ most : Int) (h0 : 0 ≤ most) (h60 : most ≤ 60) : isLogL (lawLog ns at_ most) = true := by
  have := lawLog_ok ns at_ most h0
  unfold isLogL
  rw [this.2, decide_eq_true (by omega)]
  rfl
/-! ### values of other forms -/
def badRules : List PyData := [.none, .tuple [], .tuple [.int 4, .int 2, .int 8, .int 5], .tuple [.int 0, .int 2, .int 8, .int 5, .int 0], .tuple [.int 7, .int 2, .int 8, .int 5, .int 0], .tuple [.int 4, .int 0, .int 8, .int 5, .int 0], .tuple [.int 4, .int 5, .int 8, .int 5, .int 0], .tuple [.int 4, .int 2, .int 3, .int 5, .int 0], .tuple [.int 4, .int 2, .int 11, .int 5, .int 0],
  .tuple [.int 4, .int 2, .int 8, .int 1, .int 0], .tuple [.int 4, .int 2, .int 8, .int 7, .int 0], .tuple [.int 4, .int 2, .int 8, .int 5, .int 2], .tuple [.int 4, .int 2, .int 8, .int 5, .int (-1)], .list [.int 4, .int 2, .int 8, .int 5, .int 0], .tuple [.bool true, .int 2, .int 8, .int 5, .int 0], .tuple [.int 4, .str (S [50]), .int 8, .int 5, .int 0]]
def badLogs : List PyData := [.none, .str (S [88]), .str (S [100]), .str (S (List.replicate 61 [68]).flatten), .list [.str (S [68])], .int 5, .str (S [68, 82, 32, 87])]
theorem badRules_ok : badRules.all (fun d => noDict d && !isRules d) = true := by decide +kernel
theorem badLogs_ok : badLogs.all (fun d => noDict d && (smol d && !isLog d)) = true := by decide +kernel
def lawBadR (ns : List Int) (at_ : Int) : PyData := badRules.getD (drawn ns at_ 16).toNat .none
def lawBadL (ns : List Int) (at_ : Int) : PyData := badLogs.getD (drawn ns at_ 7).toNat .none
theorem lawBadR_at (ns : List Int) (at_ : Int) : badRules[(drawn ns at_ 16).toNat]? = some (lawBadR ns at_) := by
  have a := drawn_range ns at_ 16 (by decide)
  have h : (drawn ns at_ 16).toNat < badRules.length := by
    have : badRules.length = 16 := rfl
    omega
  unfold lawBadR
  rw [List.getD_eq_getElem?_getD, List.getElem?_eq_getElem h]
  rfl
theorem lawBadL_at (ns : List Int) (at_ : Int) : badLogs[(drawn ns at_ 7).toNat]? = some (lawBadL ns at_) := by
  have a := drawn_range ns at_ 7 (by decide)
  have h : (drawn ns at_ 7).toNat < badLogs.length := by
    have : badLogs.length = 7 := rfl
    omega
  unfold lawBadL
  rw [List.getD_eq_getElem?_getD, List.getElem?_eq_getElem h]
  rfl
theorem lawBadR_no (ns : List Int) (at_ : Int) : noDict (lawBadR ns at_) = true ∧ isRules (lawBadR ns at_) = false := by
  have := List.all_eq_true.mp badRules_ok _ (List.mem_of_getElem? (lawBadR_at ns at_))
  simpa [Bool.and_eq_true] using this
theorem lawBadL_no (ns : List Int) (at_ : Int) : noDict (lawBadL ns at_) = true ∧ smol (lawBadL ns at_) = true ∧ isLog (lawBadL ns at_) = false := by
  have := List.all_eq_true.mp badLogs_ok _ (List.mem_of_getElem? (lawBadL_at ns at_))
  simpa [Bool.and_eq_true] using this
end Lw

namespace Gd
open PySem PySem.Spec L2
/-! ### written-out data -/
def litsD (f : Expr -> Option PyData) : List Expr -> Option (List PyData)
  | [] => some []
  | e :: es => match f e, litsD f es with
    | some d, some ds => some (d :: ds)
    | _, _ => none
def litC : Const -> Option PyData
  | .none => some .none
  | .bool c => some (.bool c)
  | .int i => some (.int i)
  | .str x => some (.str x)
  | _ => none
def litD : Nat -> Expr -> Option PyData
  | 0, _ => none
  | n + 1, e => match e with
    | .Constant c _ _ => litC c
    | .UnaryOp .USub a _ => match litD n a with
      | some (.int i) => some (.int (-i))
      | _ => none
    | .Tuple es _ _ => match litsD (litD n) es with
      | some ds => if ds.length ≤ 100000 then some (.tuple ds) else none
      | none => none
    | .List es _ => match litsD (litD n) es with
      | some ds => if ds.length ≤ 100000 then some (.list ds) else none
      | none => none
    | _ => none
section
variable {X : Cx} {ρ : Rho}
theorem ga_lits {n : Nat} (ih : forall {e d}, litD n e = some d -> GE X e ρ d) : forall {es : List Expr} {ds : List PyData}, litsD (litD n) es = some ds -> GA X es ρ ds
  | [], ds, h => by
    cases h
    exact ga_nil
  | e :: es, ds, h => by
    rw [litsD] at h
    cases h1 : litD n e with
    | none => rw [h1] at h; cases h
    | some d =>
      cases h2 : litsD (litD n) es with
      | none => rw [h1, h2] at h; cases h
      | some ds2 =>
        rw [h1, h2] at h
        cases h
        refine ga_cons (ih h1) (ga_lits ih h2) ?_
        cases n with
        | zero => cases h1
        | succ n =>
          cases e <;> first | rfl | (simp only [litD] at h1; cases h1)
theorem ge_litN : forall (n : Nat) {e : Expr} {d : PyData}, litD n e = some d -> GE X e ρ d
  | 0, e, d, h => by cases h
  | n + 1, e, d, h => by
    have ih : forall {e d}, litD n e = some d -> GE X e ρ d := ge_litN n
    unfold litD at h
    split at h
    · rename_i c k p
      cases c <;> first | (cases h; exact ge_non) | (cases h; exact ge_bl) | (cases h; exact ge_int) | (cases h; exact ge_str) | cases h
    · rename_i a p
      split at h
      · rename_i i h1
        cases h
        exact ge_neg (ih h1)
      · cases h
    · rename_i es k p
      split at h
      · rename_i ds h1
        split at h
        · rename_i hz
          cases h
          exact ge_tup (ga_lits ih h1) hz
        · cases h
      · cases h
    · rename_i es p
      split at h
      · rename_i ds h1
        split at h
        · rename_i hz
          cases h
          exact ge_lst (ga_lits ih h1) hz
        · cases h
      · cases h
    · cases h
theorem ge_lit (d : PyData) {e : Expr} (h : litD 6 e = some d := by kernel_rfl) : GE X e ρ d := ge_litN 6 h
end
end Gd

namespace Gd
open PySem PySem.Spec L2
section
variable {X : Cx} {N : En} {a b : Expr} {es : List Expr} {ρ : Rho} {d2 : PyData} {ds : List PyData} {pos : Pos} {Φ : Post}
/-- x, y = [..], e -/
theorem g1_parOwn (i j : Nat) {x y : Str} {px py pt pt2 p2 : Pos} {kt k2 : Nat} (ha : GA X es ρ ds) (hb : GE X b ρ d2) (h : Φ.nx ((ρ.set i (.own ds)).set j (.dat d2))) (hN : X.N.Nodup) (hz : ds.length ≤ 100000 := by exact Nat.le_of_ble_eq_true rfl) (hw : swappedStores [.Tuple [.Name x px, .Name y py] kt pt] (.Tuple [.List es p2, b] k2 pt2) X.env = pure (some [x, y]) := by rfl) (hc : X.calm = true := by rfl)
    (hi : X.N[i]? = some x := by rfl) (hj : X.N[j]? = some y := by rfl) (hij : i ≠ j := by decide) (hx : X.env.scope.names.lookup x = some .local := by rfl) (hy : X.env.scope.names.lookup y = some .local := by rfl)
    (hs1 : starEach [.List es p2, b] X.env = (false, eval (.List es p2) X.env) :: starEach [b] X.env := by rfl) (hs2 : starEach [b] X.env = (false, eval b X.env) :: starEach [] X.env := by rfl)
    (hs : swapsWithSole [.Tuple [.Name x px, .Name y py] kt pt] (.Tuple [.List es p2, b] k2 pt2) pos.line X.env = pure false := by rfl) : G1 X N (.Assign [.Tuple [.Name x px, .Name y py] kt pt] (.Tuple [.List es p2, b] k2 pt2) pos) ρ Φ :=
  g1_of (ps_par hc hN hi hj hij hx hy (pa_cons (pe_lst pa_tw) (pa_cons pe_tw pa_nil hs2) hs1) hw hs) fun P σ H f => show twA X es σ H _ from f.evA ha fun vs G H' e1 sp sta fr dv => by
    refine ⟨by rw [dv.length]; exact Nat.le_trans hz (by decide), fun p hp => ?_⟩
    have ex : Ext G H' G (upd H' p (.lst vs)) := ⟨Same.refl G, same_new hp, e1.gh.trans (same_new hp), fun _ _ => rfl⟩
    refine hb σ G _ _ (sta.ext ex) fun v G2 H2 e2 dv2 => ?_
    refine ⟨_, _, rfl, _, ⟨G2, (e1.trans ex).trans e2, sp.trans e2.g, ((sta.setOwn i hp dv).ext e2).set j dv2, fresh_set fun m xs q o1 o2 => ?_⟩, h⟩
    rcases set_get o1 with ⟨rfl, _⟩ | ⟨n, o1⟩
    · rcases set_get o2 with ⟨_, z⟩ | ⟨z, _⟩
      · cases z
        exact e1.h.free hp
      · exact absurd rfl z
    · rw [List.getElem?_set_ne n] at o2
      exact fr m xs q o1 o2
end
end Gd

namespace Gd
open PySem PySem.Spec L2
section
variable {X : Cx} {N : En} {a b : Expr} {es : List Expr} {ρ : Rho} {d d2 : PyData} {ds : List PyData} {pos : Pos} {Φ : Post} {i : Int} {ns : List Int}
/-! ### i in [..], (..), of numbers -/
theorem inV_ints (i : Int) (ns : List Int) : inV (.int i) (ns.map V.int) = decide (i ∈ ns) := by
  induction ns with
  | nil => rfl
  | cons n ns ih =>
    have h : inV (V.int i) (V.int n :: ns.map V.int) = (eqV (.int n) (.int i) || inV (.int i) (ns.map V.int)) := rfl
    rw [List.map_cons, h, ih]
    have e : eqV (V.int n) (V.int i) = decide (i = n) := by
      show (n == i) = decide (i = n)
      rw [Bool.eq_iff_iff, beq_iff_eq, decide_eq_true_eq]
      exact eq_comm
    rw [e, Bool.eq_iff_iff]
    simp
theorem flat_ints (ns : List Int) : (ns.map V.int).all flatV = true := by
  rw [List.all_map, List.all_eq_true]
  intro _ _
  rfl
theorem c_inL : CmpD X .In (.int i) (.list (ns.map PyData.int)) (decide (i ∈ ns)) := ⟨_, op_in_seq, fun v1 v2 G H Q gh h1 h2 q => by
  cases h1
  cases h2 with
  | @lst p xs _ s1 a1 =>
    rw [a1.ints] at s1
    refine ⟨p, _, rfl, .inl (.inl (.inl (gh _ _ s1))), rfl, flat_ints ns, ?_⟩
    rw [if_neg Bool.false_ne_true, inV_ints]
    exact q _ G H (.refl gh) (.bl _)⟩
theorem c_notInL : CmpD X .NotIn (.int i) (.list (ns.map PyData.int)) (!decide (i ∈ ns)) := ⟨_, op_notIn_seq, fun v1 v2 G H Q gh h1 h2 q => by
  cases h1
  cases h2 with
  | @lst p xs _ s1 a1 =>
    rw [a1.ints] at s1
    refine ⟨p, _, rfl, .inl (.inl (.inl (gh _ _ s1))), rfl, flat_ints ns, ?_⟩
    rw [if_pos rfl, inV_ints]
    exact q _ G H (.refl gh) (.bl _)⟩
theorem c_inT : CmpD X .In (.int i) (.tuple (ns.map PyData.int)) (decide (i ∈ ns)) := ⟨_, op_in_seq, fun v1 v2 G H Q gh h1 h2 q => by
  cases h1
  cases h2 with
  | @tup p xs _ s1 a1 =>
    rw [a1.ints] at s1
    refine ⟨p, _, rfl, .inr (sqT_mono gh s1), rfl, flat_ints ns, ?_⟩
    rw [if_neg Bool.false_ne_true, inV_ints]
    exact q _ G H (.refl gh) (.bl _)⟩
theorem c_notInT : CmpD X .NotIn (.int i) (.tuple (ns.map PyData.int)) (!decide (i ∈ ns)) := ⟨_, op_notIn_seq, fun v1 v2 G H Q gh h1 h2 q => by
  cases h1
  cases h2 with
  | @tup p xs _ s1 a1 =>
    rw [a1.ints] at s1
    refine ⟨p, _, rfl, .inr (sqT_mono gh s1), rfl, flat_ints ns, ?_⟩
    rw [if_pos rfl, inV_ints]
    exact q _ G H (.refl gh) (.bl _)⟩
end
/-! ### how often a sign stands in a text -/
theorem occ_run (l : List Nat) (c lim : Nat) : forall (n i : Nat) (a : Array Nat) (free : Nat), free ≤ i -> a.size + n ≤ lim -> i + n = l.length + 1 ->
    (forIn (List.range' i n) (a, free) (StrLaws.occBody (S l) ⟨#[c]⟩ (S l).length lim)).run.fst.size = a.size + (l.drop i).count c
  | 0, i, a, free, _, _, h => by
    rw [List.drop_eq_nil_of_le (by omega)]
    rfl
  | n + 1, i, a, free, hf, hl, h => by
    rw [List.range'_succ, List.forIn_cons]
    have one := StrLaws.subAt_one (S l) c i
    have hs : (S l).cps.toList = l := by simp [S]
    rw [hs] at one
    unfold StrLaws.occBody
    by_cases hc : l[i]? = some c
    · obtain ⟨hlt, he⟩ := List.getElem?_eq_some_iff.mp hc
      obtain ⟨o1, o2⟩ := one.mpr hc
      rw [if_pos ⟨⟨⟨show a.size < lim by omega, hf⟩, o1⟩, o2⟩]
      have ih := occ_run l c lim n (i + 1) (a.push i) (i + 1) (Nat.le_refl _) (by rw [Array.size_push]; omega) (by omega)
      refine Eq.trans ih ?_
      rw [Array.size_push, List.drop_eq_getElem_cons hlt, he, List.count_cons_self]
      omega
    · rw [if_neg fun z => hc (one.mp ⟨z.1.2, z.2⟩)]
      have ih := occ_run l c lim n (i + 1) a free (by omega) (by omega) (by omega)
      refine Eq.trans ih ?_
      congr 1
      by_cases hlt : i < l.length
      · rw [List.drop_eq_getElem_cons hlt, List.count_cons_of_ne]
        intro z
        exact hc (by rw [List.getElem?_eq_getElem hlt, z])
      · rw [List.drop_eq_nil_of_le (show l.length ≤ i by omega), List.drop_eq_nil_of_le (show l.length ≤ i + 1 by omega)]
theorem count_one (l : List Nat) (c : Nat) : Txt.count (S l) (S [c]) = (l.count c : Nat) := by
  have hz : (S l).length = l.length := by simp [S, Str.length]
  have h := occ_run l c ((S l).length + 1) (l.length + 1) 0 #[] 0 (Nat.le_refl _) (by rw [hz]; simp) (by omega)
  unfold Txt.count
  rw [StrLaws.occ_eq, Array.length_toList]
  congr 1
  rw [hz] at h ⊢
  refine Eq.trans h ?_
  simp
end Gd

namespace Gd
open PySem PySem.Spec L2
/-! ### dicts: what a key, a dict is in the heap -/
section
variable {X : Cx} {pins : List (Addr × Obj)} {σ : L2.St} {H : Hp} {s : Shared}
mutual
theorem dq_nested (I : Inv X pins σ H s) : forall {v : V} {d : PyData} {u : Value}, Dq X.K H v d -> keyOk d = true -> RelV v u -> NestedIs s.heap (nk d) u
  | _, _, _, .non, _, r => by
    cases r
    exact .none
  | _, _, _, .bl b, _, r => by
    cases r
    exact .bool rfl
  | _, _, _, .int i, _, r => by
    obtain ⟨t, rfl⟩ := r
    exact .int i t
  | _, _, _, .str x, _, r => by
    obtain ⟨t, rfl⟩ := r
    exact .text x t
  | _, _, _, .lst _ _, k, _ => by simp [keyOk] at k
  | _, _, _, .scr _ _, k, _ => by simp [keyOk] at k
  | _, _, _, .adr _, k, _ => by simp [keyOk] at k
  | _, _, _, .tup h a, k, r => by
    cases r
    obtain ⟨its, rv, ⟨o, h1, h2, n, h3⟩, _⟩ := I.tuple h
    rw [nk]
    exact .tup h1 h2 h3 (dq_nestedAll I a (by simpa [keyOk] using k) rv)
theorem dq_nestedAll (I : Inv X pins σ H s) : forall {vs : List V} {ds : List PyData} {us : List Value}, DqAll X.K H vs ds -> keyAll ds = true -> Vals vs us -> NestedAll s.heap (nkAll ds) us
  | _, _, _, .nil, _, r => by
    cases r
    rw [nkAll]
    exact .nil
  | _, _, _, .cons h t, k, r => by
    rw [keyAll, Bool.and_eq_true] at k
    cases r with
    | cons r1 r2 =>
      rw [nkAll]
      exact .cons (dq_nested I h k.1 r1) (dq_nestedAll I t k.2 r2)
end
def KeyAt (K : PySem.W.Frag) (H : Hp) (k : NestedKey) (b : Addr) : Prop := ∃ d, Dq K H (.ref b) d ∧ isKey d = true ∧ nk d = k
theorem KeyAt.is {k : NestedKey} {b : Addr} (I : Inv X pins σ H s) (h : KeyAt X.K H k b) : (nestedKind X.prog X.w).is s.heap k b := by
  obtain ⟨d, h1, h2, rfl⟩ := h
  cases d with
  | tuple ds =>
    obtain ⟨a, b⟩ := Bool.and_eq_true_iff.mp (show (keyAll ds && decide ((nk (.tuple ds)).depth ≤ 8)) = true from h2)
    exact ⟨dq_nested I h1 (by rw [keyOk]; exact a) rfl, of_decide_eq_true b⟩
  | _ => cases h2
abbrev hsW (w : World) : NestedKey -> Int := fun k => k.hash w
/-- at a stands a dict with the entries xs -/
structure DAt (X : Cx) (H : Hp) (a : Addr) (xs : List (NestedKey × Addr × Value)) : Prop where
  ob : ∃ o, H a = some (dR a o) ∧ DicO (hsW X.w) a o xs
  ks : forall x, x ∈ xs -> KeyAt X.K H x.1 x.2.1
theorem DAt.dict {a : Addr} {xs : List (NestedKey × Addr × Value)} (I : Inv X pins σ H s) (h : DAt X H a xs) : s.heap.DictOfH (nestedKind X.prog X.w) a xs := by
  obtain ⟨o, h1, h2⟩ := h.ob
  obtain ⟨es, ep, h3, h4⟩ := h2.da
  have ok : s.heap.get? a = some o := (I.hok a _ h1).1
  exact ⟨o, es, ep, ok, h2.ex, h3, h4, fun x hx => (h.ks x hx).is I, h2.nd⟩
theorem DAt.sm {a : Addr} {xs : List (NestedKey × Addr × Value)} (h : DAt X H a xs) : (a == sysModules) = false := by
  obtain ⟨o, h1, h2⟩ := h.ob
  exact h2.sm
theorem DAt.sz {a : Addr} {xs : List (NestedKey × Addr × Value)} (h : DAt X H a xs) : xs.length ≤ 1000000 := by
  obtain ⟨o, h1, h2⟩ := h.ob
  exact h2.sz
theorem room8 {A : Around} (h : A.units + 64 < cLine) {P : Program} {w : World} : (nestedKind P w).room A.in1 := by
  show A.units + 1 + 8 < cLine
  omega
theorem dR_ok {P : Program} {w : World} {H : Hp} {h : Heap} {p : Addr} {o : Obj} (e : h.get? p = some o) : ObjOk P w H h p (dR p o) := ⟨e, ⟨o, e⟩, fun _ _ a k => k o a⟩
end
/-! ### readings and rules -/
section
variable {X : Cx} {o i e f value : Expr} {pos pos' apos cpos : Pos} {td ty tv tx : TE}
def FoundAt (xs : List (NestedKey × Addr × Value)) (k : NestedKey) : Option V -> Prop
  | none => atKey xs k = none
  | some v => ∃ p, atKey xs k = some p ∧ RelV v p.2
def xDGet (X : Cx) (td ty : TE) : TE := fun σ H Q => td σ H fun x H1 => ty σ H1 fun y H2 => ∃ a b xs k v, x = .ref a ∧ y = .ref b ∧ DAt X H2 a xs ∧ KeyAt X.K H2 k b ∧ FoundAt xs k (some v) ∧ Q v H2
theorem pe_xdget (hu : X.A.units + 64 < cLine) (ho : PE X o td) (hi : PE X i ty) (hs : NoSl i) : PE X (.Subscript o i pos) (xDGet X td ty) := by
  refine ⟨fun pins s σ H Q I h => ?_⟩
  refine subD_of PySem.F.slot_dict_getitem.lookup hs (thn (ho.run pins s σ H _ I h) fun u s1 ⟨x, H1, I1, rx, q1⟩ => thn (hi.run pins s1 σ H1 _ I1 q1) fun iv s2 ⟨y, H2, I2, ry, a, b, xs, k, v, ex, ey, da, ka, ⟨p, hp, rv⟩, q2⟩ => ?_)
  subst ex ey
  obtain rfl : u = Value.ref a := rx
  obtain rfl : iv = Value.ref b := ry
  exact ⟨(da.dict I2).typeIs, wpAny_getItem_heap (room8 hu) (ka.is I2) (da.dict I2) hp ⟨v, H2, I2.tok _, rv, q2⟩⟩
def rDIn (X : Cx) (neg : Bool) : R2 := fun y x H Q => ∃ a b xs k, x = .ref a ∧ y = .ref b ∧ DAt X H a xs ∧ KeyAt X.K H k b ∧ Q (.bl (if neg then !(atKey xs k).isSome else (atKey xs k).isSome)) H
theorem op_xin (hu : X.A.units + 64 < cLine) : OpR X (compareOp .In) (rDIn X false) := by
  intro pins s σ H y x v u Q I ry rx ⟨a, b, xs, k, ex, ey, da, ka, q⟩
  subst ex ey
  obtain rfl : u = Value.ref a := rx
  obtain rfl : v = Value.ref b := ry
  exact wpAny_in_heap (room8 hu) (ka.is I) da.sm (da.dict I) ⟨.bl (atKey xs k).isSome, H, I.tok _, rfl, q⟩
theorem op_xnotIn (hu : X.A.units + 64 < cLine) : OpR X (compareOp .NotIn) (rDIn X true) := by
  intro pins s σ H y x v u Q I ry rx ⟨a, b, xs, k, ex, ey, da, ka, q⟩
  subst ex ey
  obtain rfl : u = Value.ref a := rx
  obtain rfl : v = Value.ref b := ry
  exact PyProof.Rows.wpAny_notIn_heap (room8 hu) (ka.is I) da.sm (da.dict I) ⟨.bl (!(atKey xs k).isSome), H, I.tok _, rfl, q⟩
/-- x.get(k, y) -/
def xDGet2 (X : Cx) (td ty tx : TE) : TE := fun σ H Q => td σ H fun x H1 => ∃ a xs0, x = .ref a ∧ DAt X H1 a xs0 ∧ ty σ H1 fun y H2 => tx σ H2 fun z H3 => ∃ b xs k ov, y = .ref b ∧ DAt X H3 a xs ∧ KeyAt X.K H3 k b ∧ FoundAt xs k ov ∧ Q (ov.getD z) H3
theorem pe_xdget2 (hu : X.A.units + 64 < cLine) (ho : PE X o td) (he : PE X e ty) (hf : PE X f tx) (m : M2 X o "get" apos e f cpos) : PE X (.Call (.Attribute o "get" apos) [e, f] [] cpos) (xDGet2 X td ty tx) := by
  refine ⟨fun pins s σ H Q I h => ?_⟩
  refine wpAny_Call_method m.base m.few m.line PySem.F.plainAttrs_dict PySem.F.slot_dict_get PySem.F.type_dict_get (thn (ho.run pins s σ H _ I h) fun u s1 ⟨x, H1, I1, rx, a, xs0, ex, d, q1⟩ => ?_)
  subst ex
  obtain rfl : u = Value.ref a := rx
  have dd := d.dict I1
  refine ⟨dd.typeIs, fun b q => ?_, ?_⟩
  · cases q
    obtain ⟨ob, _, _, h1, h2, _⟩ := dd
    exact ⟨ob, h1, h2.2.1⟩
  rw [m.trees]
  refine Calls.callWith_builtin rfl (Calls.evalArgs_plain (Calls.spliced_cons (thn (he.run pins s1 σ H1 _ I1 q1) fun iv s2 ⟨y, H2, I2, ry, q2⟩ =>
    Calls.spliced_cons (thn (hf.run pins s2 σ H2 _ I2 q2) fun fv s3 ⟨z, H3, I3, rz, b, xs, k, ov, ey, da, ka, hv, q3⟩ => Calls.spliced_nil ?_))))
  subst ey
  obtain rfl : iv = Value.ref b := ry
  refine call_meetsIn PySem.F.slot_dict_get (da.dict I3).typeIs PySem.F.entry_dict_get (PySem.F.args_dict_get_3 _ _ _) (meetsH_dict_get_default (nestedKind X.prog X.w) a b da.sm fv) ⟨room8 hu, k, xs, ka.is I3, da.dict I3, ?_⟩
  cases ov with
  | none =>
    have hn : atKey xs k = none := hv
    rw [hn]
    exact ⟨z, H3, I3.tok _, rz, q3⟩
  | some v =>
    obtain ⟨p, hp, rv⟩ := hv
    rw [hp]
    exact ⟨v, H3, I3.tok _, rv, q3⟩
/-- x[k] = v -/
def xDPut (X : Cx) (td ty tv : TE) : TS := fun D σ H => tv σ H fun v H1 => td σ H1 fun x H2 => ty σ H2 fun y H3 => ∃ a b xs k, x = .ref a ∧ y = .ref b ∧ DAt X H3 a xs ∧ xs.length < 1000000 ∧ KeyAt X.K H3 k b ∧
  forall o u, RelV v u -> DicO (hsW X.w) a o (storedH xs k b u) -> D.nx σ (upd H3 a (dR a o))
theorem ps_xdput (hu : X.A.units + 64 < cLine) (ho : PE X o td) (hi : PE X i ty) (hv : PE X value tv) (hs : swapsWith value (some (.Subscript o i pos')) pos.line X.env = pure false) :
    PS X (.Assign [.Subscript o i pos'] value pos) (xDPut X td ty tv) := by
  refine ⟨fun pins s σ H D I h => ?_⟩
  refine wpAny_Assign_Subscript (thn (hv.run pins s σ H _ I h) fun r s1 ⟨v, H1, I1, rv, q1⟩ => thn (ho.run pins s1 σ H1 _ I1 q1) fun u s2 ⟨x, H2, I2, rx, q2⟩ => thn (hi.run pins s2 σ H2 _ I2 q2) fun iv s3 ⟨y, H3, I3, ry, a, b, xs, k, ex, ey, da, hl, ka, q3⟩ => ?_) hs
  subst ex ey
  obtain rfl : u = Value.ref a := rx
  obtain rfl : iv = Value.ref b := ry
  have hz : xs.length ≤ sizeLine := Nat.le_trans da.sz (by decide)
  refine wpAny_setItem_heap (hsz := hz) (room8 hu) (ka.is I3) (da.dict I3) fun h' dd' sb => ?_
  obtain ⟨q, es, ep, hq, h2, h3, h4, _, h5⟩ := dd'
  obtain ⟨ob, hob, _⟩ := da.ob
  refine ⟨σ, _, d_write (ob := dR a q) I3 (by rw [hob]; exact True.intro) sb ⟨q, hq⟩ (dR_ok hq), q3 q r rv ⟨h2, ⟨es, ep, h3, h4⟩, h5, da.sm, ?_⟩⟩
  have e := storedH_length xs k b r
  omega
/-- {} -/
def xDNew (X : Cx) : TE := fun _ H Q => forall p o, H p = none -> DicO (hsW X.w) p o [] -> Q (.ref p) (upd H p (dR p o))
theorem pe_xdnew : PE X (.Dict [] [] pos) (xDNew X) := ⟨fun pins s σ H Q I h =>
  wpAny_Dict_empty ⟨.ref s.heap.objs.size, _, I.laid (a := s.heap.objs.size) (o := dR s.heap.objs.size { cls := .type "dict", data := .dict #[] }) (t' := s.toks) (fun _ _ q => Heap.get?_push_of_some _ q) (Nat.le_refl _) (dR_ok (Heap.get?_push_size _ rfl)), rfl,
    h _ _ (I.hok.fresh (Nat.le_refl _)) ⟨⟨rfl, rfl, rfl⟩, ⟨#[], 0, rfl, rfl⟩, List.nodup_nil, beq_eq_false_iff_ne.mpr (Ne.symm (Nat.ne_of_lt I.big)), Nat.zero_le _⟩⟩⟩
end
end Gd

namespace Gd
open PySem PySem.Spec L2
/-! ### dicts as data -/
def dGet (kvs : List (PyData × PyData)) (k : PyData) : Option PyData := (kvs.find? fun kv => decide (nk kv.1 = nk k)).map (·.2)
def dPut (kvs : List (PyData × PyData)) (k v : PyData) : List (PyData × PyData) := if (dGet kvs k).isSome = true then kvs.map (fun kv => if nk kv.1 = nk k then (kv.1, v) else kv) else kvs ++ [(k, v)]
theorem dGet_cons (kv : PyData × PyData) (kvs : List (PyData × PyData)) (k : PyData) : dGet (kv :: kvs) k = if nk kv.1 = nk k then some kv.2 else dGet kvs k := by
  unfold dGet
  by_cases h : nk kv.1 = nk k <;> simp [h]
theorem atKey_cons (x : NestedKey × Addr × Value) (xs : List (NestedKey × Addr × Value)) (k : NestedKey) : atKey (x :: xs) k = if x.1 = k then some x.2 else atKey xs k := by
  unfold atKey
  by_cases h : x.1 = k <;> simp [h]
section
variable {K : PySem.W.Frag} {G H : Hp} {kvs : List (PyData × PyData)} {xs : List (NestedKey × Addr × Value)} {k d : PyData} {b : Addr} {v : V} {u : Value}
theorem DEnt.len : forall {kvs : List (PyData × PyData)} {xs : List (NestedKey × Addr × Value)}, DEnt K G kvs xs -> xs.length = kvs.length
  | [], [], _ => rfl
  | _ :: _, _ :: _, h => by rw [List.length_cons, List.length_cons, DEnt.len h.2]
  | [], _ :: _, h => h.elim
  | _ :: _, [], h => h.elim
theorem DEnt.keys (gh : Same G H) : forall {kvs : List (PyData × PyData)} {xs : List (NestedKey × Addr × Value)}, DEnt K G kvs xs -> forall x, x ∈ xs -> KeyAt K H x.1 x.2.1
  | [], [], _, x, hx => absurd hx List.not_mem_nil
  | kv :: kvs, y :: ys, h, x, hx => by
    obtain ⟨⟨a, b, c, e⟩, t⟩ := h
    rcases List.mem_cons.mp hx with rfl | hx
    · exact ⟨kv.1, b.mono gh, e, a.symm⟩
    · exact DEnt.keys gh t x hx
  | [], _ :: _, h, _, _ => h.elim
  | _ :: _, [], h, _, _ => h.elim
theorem DEnt.none_ : forall {kvs : List (PyData × PyData)} {xs : List (NestedKey × Addr × Value)}, DEnt K G kvs xs -> dGet kvs k = none -> atKey xs (nk k) = none
  | [], [], _, _ => rfl
  | kv :: kvs, y :: ys, h, hg => by
    obtain ⟨⟨a, b, c, e⟩, t⟩ := h
    rw [dGet_cons] at hg
    rw [atKey_cons, a]
    by_cases hk : nk kv.1 = nk k
    · rw [if_pos hk] at hg; cases hg
    · rw [if_neg hk] at hg ⊢
      exact DEnt.none_ t hg
  | [], _ :: _, h, _ => h.elim
  | _ :: _, [], h, _ => h.elim
theorem DEnt.some_ : forall {kvs : List (PyData × PyData)} {xs : List (NestedKey × Addr × Value)}, DEnt K G kvs xs -> dGet kvs k = some d -> ∃ v, FoundAt xs (nk k) (some v) ∧ Dq K G v d
  | [], [], _, h => by cases h
  | kv :: kvs, y :: ys, h, hg => by
    obtain ⟨⟨a, b, ⟨v, rv, dv⟩, e⟩, t⟩ := h
    rw [dGet_cons] at hg
    by_cases hk : nk kv.1 = nk k
    · rw [if_pos hk] at hg
      cases hg
      exact ⟨v, ⟨y.2, by rw [atKey_cons, a, if_pos hk], rv⟩, dv⟩
    · rw [if_neg hk] at hg
      obtain ⟨w, ⟨p, hp, rw_⟩, dw⟩ := DEnt.some_ t hg
      exact ⟨w, ⟨p, by rw [atKey_cons, a, if_neg hk]; exact hp, rw_⟩, dw⟩
  | [], _ :: _, h, _ => h.elim
  | _ :: _, [], h, _ => h.elim
theorem DEnt.isSome (h : DEnt K G kvs xs) : (atKey xs (nk k)).isSome = (dGet kvs k).isSome := by
  cases hg : dGet kvs k with
  | none => rw [h.none_ hg]; rfl
  | some d =>
    obtain ⟨v, ⟨p, hp, _⟩, _⟩ := h.some_ hg
    rw [hp]
    rfl
theorem DEnt.repl (rv : RelV v u) (dv : Dq K G v d) : forall {kvs : List (PyData × PyData)} {xs : List (NestedKey × Addr × Value)}, DEnt K G kvs xs -> DEnt K G (kvs.map fun kv => if nk kv.1 = nk k then (kv.1, d) else kv) (xs.map (putAt (nk k) u))
  | [], [], _ => trivial
  | kv :: kvs, y :: ys, h => by
    obtain ⟨⟨a, b, c, e⟩, t⟩ := h
    rw [List.map_cons, List.map_cons]
    refine ⟨?_, DEnt.repl rv dv t⟩
    unfold putAt
    rw [a]
    by_cases hk : nk kv.1 = nk k
    · rw [if_pos hk, if_pos hk]
      exact ⟨rfl, b, ⟨v, rv, dv⟩, e⟩
    · rw [if_neg hk, if_neg hk]
      exact ⟨a, b, c, e⟩
  | [], _ :: _, h => h.elim
  | _ :: _, [], h => h.elim
theorem DEnt.snoc (kb : Dq K G (.ref b) k) (hk : isKey k = true) (rv : RelV v u) (dv : Dq K G v d) : forall {kvs : List (PyData × PyData)} {xs : List (NestedKey × Addr × Value)}, DEnt K G kvs xs -> DEnt K G (kvs ++ [(k, d)]) (xs ++ [(nk k, b, u)])
  | [], [], _ => ⟨⟨rfl, kb, ⟨v, rv, dv⟩, hk⟩, trivial⟩
  | kv :: kvs, y :: ys, h => ⟨h.1, DEnt.snoc kb hk rv dv h.2⟩
  | [], _ :: _, h => h.elim
  | _ :: _, [], h => h.elim
theorem DEnt.put (kb : Dq K G (.ref b) k) (hk : isKey k = true) (rv : RelV v u) (dv : Dq K G v d) (h : DEnt K G kvs xs) : DEnt K G (dPut kvs k d) (storedH xs (nk k) b u) := by
  unfold dPut storedH
  rw [h.isSome (k := k)]
  split
  · exact h.repl rv dv
  · exact h.snoc kb hk rv dv
theorem Dq.key (h : Dq K G v k) (hk : isKey k = true) : ∃ b, v = .ref b := by
  cases h with
  | tup => exact ⟨_, rfl⟩
  | _ => cases hk
end
theorem dPut_len (kvs : List (PyData × PyData)) (k v : PyData) : (dPut kvs k v).length ≤ kvs.length + 1 := by
  unfold dPut
  split
  · rw [List.length_map]; omega
  · rw [List.length_append]; exact Nat.le_refl _
/-! ### rules -/
section
variable {X : Cx} {N : En} {a b c e : Expr} {ss : List Stmt} {ρ : Rho} {d d2 k : PyData} {kvs : List (PyData × PyData)} {pos pos' p1 p2 apos : Pos} {Φ : Post} {x : Str} {K : PySem.W.Frag} {G H : Hp} {σ : L2.St} {P : Hp} {hs : NestedKey -> Int} {p : Addr}
abbrev IsDic (ρ : Rho) (i : Nat) (hs : NestedKey -> Int) (kvs : List (PyData × PyData)) : Prop := ρ[i]? = some (.dic hs kvs) ∨ ρ[i]? = some (.fdc hs kvs) ∨ ∃ q, ρ[i]? = some (.owx (.memo q hs kvs))
theorem Sta.dict {i : Nat} (s : Sta K G H σ ρ) (h : IsDic ρ i hs kvs) : ∃ p o, σ[i]? = some (some (.ref p)) ∧ H p = some (dR p o) ∧ DicV K G hs p o kvs := by
  rcases h with h | h | ⟨q, h⟩
  · obtain ⟨p, u, h1, h2, h3, o, rfl, h4⟩ := s.owx h
    exact ⟨p, o, h1, h3, h4⟩
  · obtain ⟨ov, h1, p, o, rfl, h2, h3⟩ := s.at_ i _ h
    exact ⟨p, o, h1, s.gh _ _ h2, h3⟩
  · obtain ⟨p, u, h1, h2, h3, rfl, o, rfl, h4⟩ := s.owx h
    exact ⟨p, o, h1, h3, h4⟩
theorem ge_dget (i : Nat) (hu : X.A.units + 64 < cLine) (hk : GE X b ρ k) (hkey : isKey k = true) (hg : dGet kvs k = some d) (hc : IsDic ρ i (hsW X.w) kvs := by first | exact .inl rfl | exact .inr (.inl rfl) | exact .inr (.inr ⟨_, rfl⟩)) (hi : X.N[i]? = some x := by rfl) (hv : Vis X.env.scope x := by first | exact Or.inl rfl | exact Or.inr (Or.inl rfl) | exact Or.inr (Or.inr rfl)) (hd : (x == ("__debug__" : Str)) = false := by decide) (hcd : (x == ("__classdict__" : Str)) = false := by decide)
    (hs : NoSl b := by exact fun _ _ => rfl) : GE X (.Subscript (.Name x p1) b pos) ρ d :=
  ge_of (pe_xdget hu (pe_var hi hv hd hcd) pe_tw hs) fun σ G H Q s q => by
    obtain ⟨p, o, h1, h2, dv⟩ := s.dict hc
    refine ⟨.ref p, h1, hk σ G H _ s fun v G1 H1 e1 dk => ?_⟩
    obtain ⟨b', rfl⟩ := dk.key hkey
    obtain ⟨xs, ho, he⟩ := dv.mono e1.g
    obtain ⟨w, fw, dw⟩ := he.some_ hg
    exact ⟨p, b', xs, nk k, w, rfl, rfl, ⟨⟨o, e1.h _ _ h2, ho⟩, he.keys e1.gh⟩, ⟨k, dk.mono e1.gh, hkey, rfl⟩, fw, q w G1 H1 e1 dw⟩
theorem ev_din {ta : TE} {i : Nat} {neg : Bool} (hc : IsDic ρ i (hsW X.w) kvs) (hkey : isKey k = true) (hk : EvR X.K ta ρ k) : EvR X.K (tOp (rDIn X neg) ta (tVar i)) ρ (.bool (if neg = true then !(dGet kvs k).isSome else (dGet kvs k).isSome)) := fun σ G H Q s q =>
  hk σ G H _ s fun v G1 H1 e1 dk => by
    obtain ⟨b', rfl⟩ := dk.key hkey
    obtain ⟨p, o, h1, h2, dv⟩ := (s.ext e1).dict hc
    obtain ⟨xs, ho, he⟩ := dv
    refine ⟨.ref p, h1, p, b', xs, nk k, rfl, rfl, ⟨⟨o, h2, ho⟩, he.keys e1.gh⟩, ⟨k, dk.mono e1.gh, hkey, rfl⟩, ?_⟩
    rw [he.isSome (k := k)]
    exact q _ G1 H1 e1 (.bl _)
theorem gt_din (i : Nat) (hu : X.A.units + 64 < cLine) (hk : GE X b ρ k) (hkey : isKey k = true) (hc : IsDic ρ i (hsW X.w) kvs := by first | exact .inl rfl | exact .inr (.inl rfl) | exact .inr (.inr ⟨_, rfl⟩)) (hi : X.N[i]? = some x := by rfl) (hv : Vis X.env.scope x := by first | exact Or.inl rfl | exact Or.inr (Or.inl rfl) | exact Or.inr (Or.inr rfl)) (hd : (x == ("__debug__" : Str)) = false := by decide) (hcd : (x == ("__classdict__" : Str)) = false := by decide)
    (hm : behindInMarks .In (.Name x p1) = false := by first | exact nomark _ | rfl) : GT X (.Compare b [.In] [.Name x p1] pos) ρ (dGet kvs k).isSome := gt_of (pt_cmpR (op_xin hu) pe_tw (pe_var hi hv hd hcd) hm) (ev_test (ev_din (neg := false) hc hkey hk))
theorem gt_dnotin (i : Nat) (hu : X.A.units + 64 < cLine) (hk : GE X b ρ k) (hkey : isKey k = true) (hc : IsDic ρ i (hsW X.w) kvs := by first | exact .inl rfl | exact .inr (.inl rfl) | exact .inr (.inr ⟨_, rfl⟩)) (hi : X.N[i]? = some x := by rfl) (hv : Vis X.env.scope x := by first | exact Or.inl rfl | exact Or.inr (Or.inl rfl) | exact Or.inr (Or.inr rfl)) (hd : (x == ("__debug__" : Str)) = false := by decide) (hcd : (x == ("__classdict__" : Str)) = false := by decide)
    (hm : behindInMarks .NotIn (.Name x p1) = false := by first | exact nomark _ | rfl) : GT X (.Compare b [.NotIn] [.Name x p1] pos) ρ (!(dGet kvs k).isSome) := gt_of (pt_cmpR (op_xnotIn hu) pe_tw (pe_var hi hv hd hcd) hm) (ev_test (ev_din (neg := true) hc hkey hk))
/-- x.get(k, y) -/
theorem ge_dget2 (i : Nat) (hu : X.A.units + 64 < cLine) (hk : GE X b ρ k) (hf : GE X c ρ d2) (hkey : isKey k = true) (hc : IsDic ρ i (hsW X.w) kvs := by first | exact .inl rfl | exact .inr (.inl rfl) | exact .inr (.inr ⟨_, rfl⟩)) (hi : X.N[i]? = some x := by rfl) (hv : Vis X.env.scope x := by first | exact Or.inl rfl | exact Or.inr (Or.inl rfl) | exact Or.inr (Or.inr rfl)) (hd : (x == ("__debug__" : Str)) = false := by decide) (hcd : (x == ("__classdict__" : Str)) = false := by decide)
    (m : M2 X (.Name x p1) "get" apos b c pos := by exact ⟨rfl, rfl, rfl, rfl⟩) : GE X (.Call (.Attribute (.Name x p1) "get" apos) [b, c] [] pos) ρ ((dGet kvs k).getD d2) :=
  ge_of (pe_xdget2 hu (pe_var hi hv hd hcd) pe_tw pe_tw m) fun σ G H Q s q => by
    obtain ⟨p, o, h1, h2, dv⟩ := s.dict hc
    obtain ⟨xs0, ho0, he0⟩ := dv
    refine ⟨.ref p, h1, p, xs0, rfl, ⟨⟨o, h2, ho0⟩, he0.keys s.gh⟩, hk σ G H _ s fun v G1 H1 e1 dk => hf σ G1 H1 _ (s.ext e1) fun z G2 H2 e2 dz => ?_⟩
    obtain ⟨b', rfl⟩ := dk.key hkey
    have e12 := e1.trans e2
    have he := he0.mono e12.g
    have dk2 := dk.mono e2.g
    cases hg : dGet kvs k with
    | none => exact ⟨b', xs0, nk k, none, rfl, ⟨⟨o, e12.h _ _ h2, ho0⟩, he.keys e12.gh⟩, ⟨k, dk2.mono e12.gh, hkey, rfl⟩, he.none_ hg, q z G2 H2 e12 (by rw [hg] at *; exact dz)⟩
    | some d =>
      obtain ⟨w, fw, dw⟩ := he.some_ hg
      exact ⟨b', xs0, nk k, some w, rfl, ⟨⟨o, e12.h _ _ h2, ho0⟩, he.keys e12.gh⟩, ⟨k, dk2.mono e12.gh, hkey, rfl⟩, fw, q w G2 H2 e12 (by rw [hg] at *; exact dw)⟩
/-- x[k] = e -/
theorem g1_dput (i : Nat) (hu : X.A.units + 64 < cLine) (hk : GE X b ρ k) (he : GE X e ρ d) (hkey : isKey k = true) (hz : kvs.length < 1000000) (h : Φ.nx (ρ.set i (.dic (hsW X.w) (dPut kvs k d)))) (ho : ρ[i]? = some (.dic (hsW X.w) kvs) := by rfl) (hi : X.N[i]? = some x := by rfl) (hv : Vis X.env.scope x := by first | exact Or.inl rfl | exact Or.inr (Or.inl rfl) | exact Or.inr (Or.inr rfl)) (hd : (x == ("__debug__" : Str)) = false := by decide) (hcd : (x == ("__classdict__" : Str)) = false := by decide)
    (hs : swapsWith e (some (.Subscript (.Name x p1) b p2)) pos.line X.env = pure false := by rfl) : G1 X N (.Assign [.Subscript (.Name x p1) b p2] e pos) ρ Φ :=
  g1_of (ps_xdput hu (pe_var hi hv hd hcd) pe_tw pe_tw hs) fun P σ H f => by
    obtain ⟨G, e0, sp, sta, fr⟩ := f
    refine he σ G H _ sta fun v G1 H1 e1 dv => ?_
    obtain ⟨p, u, o1, o2, o3, ob, rfl, o4⟩ := (sta.ext e1).owx ho
    refine ⟨.ref p, o1, hk σ G1 H1 _ (sta.ext e1) fun y G2 H2 e2 dk => ?_⟩
    obtain ⟨b', rfl⟩ := dk.key hkey
    have sta2 := (sta.ext e1).ext e2
    obtain ⟨p', u', r1, r2, r3, ob', rfl, xs, hdo, ent⟩ := sta2.owx ho
    rw [o1] at r1
    cases r1
    refine ⟨p, b', xs, nk k, rfl, rfl, ⟨⟨ob', r3, hdo⟩, ent.keys e2.gh⟩, by rw [ent.len]; exact hz, ⟨k, dk.mono e2.gh, hkey, rfl⟩, fun o' u ru hd' => ?_⟩
    exact ⟨_, ⟨G2, mut_ext ((e0.trans e1).trans e2) r2 (fr i _ p ho o1), (sp.trans e1.g).trans e2.g, sta2.mutOwx (y := .dict (hsW X.w) (dPut kvs k d)) ho o1 ⟨o', rfl, _, hd', ent.put dk hkey ru (dv.mono e2.g)⟩, fresh_mut ho fr⟩, h⟩
/-- x = {} -/
theorem g1_dnew (i : Nat) (h : Φ.nx (ρ.set i (.dic (hsW X.w) []))) (hN : X.N.Nodup) (hi : X.N[i]? = some x := by rfl) (hx : Loc X.env.scope x := by first | exact Or.inl rfl | exact Or.inr rfl) (hs : swapsWith (.Dict [] [] p2) (some (.Name x pos')) pos.line X.env = pure false := by rfl)
    (hf : X.fn x = true ∨ X.env.scope.names.lookup x = some .local := by first | exact .inl rfl | exact .inr rfl | assumption) : G1 X N (.Assign [.Name x pos'] (.Dict [] [] p2) pos) ρ Φ :=
  g1_of (ps_set hN hi hx pe_xdnew hs hf) fun P σ H f p o hp hdo => by
    obtain ⟨G, e1, sp, sta, fr⟩ := f
    refine ⟨_, ⟨G, ⟨⟨e1.g, e1.h.trans (same_new hp), e1.gh.trans (same_new hp), e1.old⟩, e1.pin⟩, sp, sta.setOwx (x := .dict (hsW X.w) []) i hp ⟨o, rfl, [], hdo, trivial⟩, fun j xs q o1 o2 => ?_⟩, h⟩
    rcases set_get o1 with ⟨rfl, _⟩ | ⟨n, o1⟩
    · rcases set_get o2 with ⟨_, z⟩ | ⟨z, _⟩
      · cases z
        exact e1.h.free hp
      · exact absurd rfl z
    · rw [List.getElem?_set_ne n] at o2
      exact fr j xs q o1 o2
/-! ### an own dict that changes no more -/
theorem Sta.freezeX {i : Nat} {u : HO} {y : Own} {c' : Cell} (s : Sta K G H σ ρ) (hi : ρ[i]? = some (.owx y)) (hp : σ[i]? = some (some (.ref p))) (gp : G p = none) (h3 : H p = some u) (nc : forall z, c' ≠ .owx z) (ok : CellOk K (upd G p u) H (some (.ref p)) c') : Sta K (upd G p u) H σ (ρ.set i c') := by
  have gg : Same G (upd G p u) := same_new gp
  refine ⟨fun b o q => ?_, by rw [List.length_set]; exact s.len, fun j c hc => ?_, fun a b q xs ys h1 h2 h3 h4 => ?_⟩
  · by_cases hb : b = p
    · subst hb
      rw [upd_same] at q
      cases q
      exact h3
    · rw [upd_ne hb] at q
      exact s.gh b o q
  · rcases set_get hc with ⟨rfl, rfl⟩ | ⟨hij, hc⟩
    · exact ⟨_, hp, ok⟩
    · obtain ⟨ov, o1, o2⟩ := s.at_ j c hc
      refine ⟨ov, o1, ?_⟩
      cases c with
      | any => trivial
      | raw v => exact o2
      | dat d =>
        obtain ⟨v, r1, r2⟩ := o2
        exact ⟨v, r1, r2.mono gg⟩
      | fdc hs kvs =>
        obtain ⟨q, ob, r1, r2, r3⟩ := o2
        exact ⟨q, ob, r1, gg _ _ r2, r3.mono gg⟩
      | pin v φ =>
        obtain ⟨r1, G0, r2, r3⟩ := o2
        exact ⟨r1, G0, r2.trans gg, r3⟩
      | owx xs =>
        obtain ⟨q, ws, r1, r2, r3, r4⟩ := o2
        subst r1
        have n : q ≠ p := fun z => by
          subst z
          exact hij (s.apart i j q _ _ hi hc hp o1)
        exact ⟨q, ws, rfl, by rw [upd_ne n]; exact r2, r3, r4.mono gg⟩
  · rcases set_get h1 with ⟨_, z⟩ | ⟨_, o1⟩
    · exact absurd z.symm (nc _)
    rcases set_get h2 with ⟨_, z⟩ | ⟨_, o2⟩
    · exact absurd z.symm (nc _)
    exact s.apart a b q xs ys o1 o2 h3 h4
theorem gs_freezeD (i : Nat) (h : GS X N ss (ρ.set i (.fdc hs kvs)) Φ) (hi : ρ[i]? = some (.dic hs kvs) := by rfl) : GS X N ss ρ Φ := fun P σ H f => h P σ H (by
  obtain ⟨G, e0, sp, sta, fr⟩ := f
  obtain ⟨p, u, o1, o2, o3, o, rfl, o4⟩ := sta.owx hi
  have np := fr i _ p hi o1
  have st' := sta.freezeX (c' := .fdc hs kvs) hi o1 o2 o3 (fun z => by simp) ⟨p, o, rfl, upd_same, o4.mono (same_new o2)⟩
  refine ⟨_, ⟨⟨e0.g.trans (same_new o2), e0.h, st'.gh, fun a ha => ?_⟩, e0.pin.trans (same_new o2)⟩, sp.trans (same_new o2), st', fun j xs q r1 r2 => ?_⟩
  · rw [upd_ne (fun z => ha (by rw [z]; exact np))]
    exact e0.old a ha
  · rcases set_get r1 with ⟨_, z⟩ | ⟨_, r1⟩
    · cases z
    · exact fr j xs q r1 r2)
end
end Gd

namespace Gd
open PySem PySem.Spec L2
/-! ### for k in x, x a dict that changes no more -/
def Itd (a : Addr) (o : Obj) (xs : List (NestedKey × Addr × Value)) : It := ⟨fun i H => H a = some (dR a o) ∧ i < xs.length, fun i H x H' => H' = H ∧ ∃ y, xs[i]? = some y ∧ x = .ref y.2.1, fun i H => H a = some (dR a o) ∧ xs.length ≤ i⟩
theorem turn_dict {P : Program} {w : World} {K : PySem.W.Frag} {tg : Expr} {hs : NestedKey -> Int} {o : Obj} {es : Array DictEntry} {ep : Nat} {xs : List (NestedKey × Addr × Value)} (a it : Addr) (hx : o.ExactDict) (he : o.data = .dict es ep) (hes : es.toList = xs.map fun x => (⟨hs x.1, .ref x.2.1, x.2.2⟩ : DictEntry)) :
    Turn P w K tg (Itd a o xs) [it] it (fun i h => h.IsKeyIter it a i es.size ep) where
  mem := by simp
  obj := fun i h st b hb => by
    have e : b = it := by simpa using hb
    subst e
    obtain ⟨o, e, c, d⟩ := st
    exact ⟨o, e, fun v z => by rw [d] at z; cases z⟩
  keep := fun i h h' st k => let ⟨o, e, r⟩ := st; ⟨o, k it (by simp) o e, r⟩
  item := by
    intro X hP hw hK hc i pins s σ H E I hf st hg
    subst hP hw hK
    obtain ⟨ha, hlt⟩ := hg
    have raw : s.heap.DictRaw a es ep := ⟨o, (I.hok a _ ha).1, hx, he⟩
    have hz : es.size = xs.length := by
      have := congrArg List.length hes
      simpa using this
    have hlt' : i < es.size := by omega
    obtain ⟨f0, f1, f2, f3, f4, f5⟩ := hf it (by simp)
    refine wpAny_pyNext_keys_item_raw st raw hlt' fun h' st' sb => ?_
    have I1 : Inv X pins σ H { s with heap := h' } := I.turned (t' := s.toks) (fun b o hb e => (sb.2 b hb).trans e) f0 f1 f3 f4 f5
    have hk : es[i].key = .ref xs[i].2.1 := by
      have := congrArg (fun q => q[i]?) hes
      simp only [Array.getElem?_toList, List.getElem?_map] at this
      rw [Array.getElem?_eq_getElem hlt', List.getElem?_eq_getElem hlt] at this
      rw [Option.some.inj this]
    obtain ⟨ob, e, c, d⟩ := id st'
    exact ⟨_, rfl, go_of (s := { s with heap := h' }) e c d (by decide) ⟨.ref xs[i].2.1, H, I1, hk, ⟨rfl, xs[i], List.getElem?_eq_getElem hlt, rfl⟩, st', fun b hb => (hf b hb).1⟩⟩
  done := by
    intro X hP hw hK hc i pins s σ H E I hf st hg
    subst hP hw hK
    obtain ⟨ha, hle⟩ := hg
    have raw : s.heap.DictRaw a es ep := ⟨o, (I.hok a _ ha).1, hx, he⟩
    have hz : es.size = xs.length := by
      have := congrArg List.length hes
      simpa using this
    obtain ⟨f0, f1, f2, f3, f4, f5⟩ := hf it (by simp)
    exact wpAny_pyNext_keys_end_raw (I.ok.hd hc) st raw (by omega) fun h' eb => ⟨rfl, I.turned (t' := s.toks) (fun b o hb e => eb b o hb e) f0 f1 f3 f4 f5⟩
  self := fun _ _ _ _ _ st h => wpAny_pyIter_keyiter st h
def iDict (X : Cx) (tl : TE) : TI := fun σ H R => tl σ H fun x H1 => ∃ a o xs, x = .ref a ∧ H1 a = some (dR a o) ∧ DicO (hsW X.w) a o xs ∧ R (Itd a o xs) H1
theorem pi_dict {X : Cx} {tg l : Expr} {tl : TE} (hl : PE X l tl) : PI X tg l (iDict X tl) := by
  refine ⟨fun pins s σ H R I h => ?_⟩
  refine thn (hl.run pins s σ H _ I h) fun v s1 ⟨x, H1, I1, r1, q1⟩ => ?_
  obtain ⟨a, o, xs, e, ha, hdo, q⟩ := q1
  subst e
  cases r1
  obtain ⟨es, ep, he, hes⟩ := hdo.da
  have raw : s1.heap.DictRaw a es ep := ⟨o, (I1.hok a _ ha).1, hdo.ex, he⟩
  refine wpAny_pyIter_dict_raw hdo.sm raw ?_
  refine ⟨s1.heap.objs.size, [s1.heap.objs.size], _, _, H1, rfl, I1.kept (t' := s1.toks) fun b o e => Heap.get?_push_of_some _ e, turn_dict a _ hdo.ex he hes, ⟨_, Heap.get?_push_size _ rfl, rfl, rfl⟩, fun b hb => ?_, q⟩
  have e : b = s1.heap.objs.size := by simpa using hb
  subst e
  exact I1.fpOk (Nat.le_refl _) (I1.hok.fresh (Nat.le_refl _))
theorem DEnt.at_ {K : PySem.W.Frag} {G : Hp} : forall {kvs : List (PyData × PyData)} {xs : List (NestedKey × Addr × Value)} {i : Nat} {y : NestedKey × Addr × Value} {d : PyData}, DEnt K G kvs xs -> xs[i]? = some y -> (kvs.map (·.1))[i]? = some d -> Dq K G (.ref y.2.1) d
  | [], [], _, _, _, _, h, _ => by simp at h
  | kv :: kvs, x :: xs, 0, y, d, h, h1, h2 => by
    simp at h1 h2
    subst h1 h2
    exact h.1.2.1
  | kv :: kvs, x :: xs, i + 1, y, d, h, h1, h2 => DEnt.at_ h.2 (by simpa using h1) (by simpa using h2)
  | [], _ :: _, _, _, _, h, _, _ => h.elim
  | _ :: _, [], _, _, _, h, _, _ => h.elim
section
variable {X : Cx} {N : En} {a b c e tg : Expr} {ss : List Stmt} {ρ : Rho} {d d2 k : PyData} {kvs : List (PyData × PyData)} {pos pos' p1 p2 apos : Pos} {Φ : Post} {x y : Str}
theorem gi_dict (i : Nat) (hc : ρ[i]? = some (.fdc (hsW X.w) kvs) := by rfl) (hi : X.N[i]? = some x := by rfl) (hv : Vis X.env.scope x := by first | exact Or.inl rfl | exact Or.inr (Or.inl rfl) | exact Or.inr (Or.inr rfl)) (hd : (x == ("__debug__" : Str)) = false := by decide) (hcd : (x == ("__classdict__" : Str)) = false := by decide) : GI X tg (.Name x pos) ρ (kvs.map (·.1)) :=
  ⟨_, pi_dict (pe_var hi hv hd hcd), fun σ G H R s q => by
    obtain ⟨ov, h1, p, o, rfl, h2, xs, ho, ent⟩ := s.at_ i _ hc
    refine ⟨.ref p, h1, p, o, xs, rfl, s.gh _ _ h2, ho, q _ G H (.refl s.gh) fun G2 H2 s1 s2 => ⟨fun j d hj => ?_, fun j hj => ?_⟩⟩
    · have hlt : j < xs.length := by
        have := (List.getElem?_eq_some_iff.mp hj).1
        rw [List.length_map] at this
        rw [ent.len]
        exact this
      refine ⟨⟨s2 _ _ (s1 _ _ h2), hlt⟩, fun v H3 yl => ?_⟩
      obtain ⟨rfl, y, hy, rfl⟩ := yl
      exact ⟨G2, .refl s2, (ent.at_ hy hj).mono s1⟩
    · exact ⟨s2 _ _ (s1 _ _ h2), by rw [ent.len]; simpa using hj⟩⟩
/-- x = y, y a dict that changes no more -/
theorem g1_alias (i j : Nat) (h : Φ.nx (ρ.set i (.fdc (hsW X.w) kvs))) (hN : X.N.Nodup) (hc : ρ[j]? = some (.fdc (hsW X.w) kvs) := by rfl) (hi : X.N[i]? = some x := by rfl) (hj : X.N[j]? = some y := by rfl) (hx : Loc X.env.scope x := by first | exact Or.inl rfl | exact Or.inr rfl) (hv : Vis X.env.scope y := by first | exact Or.inl rfl | exact Or.inr (Or.inl rfl) | exact Or.inr (Or.inr rfl)) (hd : (y == ("__debug__" : Str)) = false := by decide) (hcd : (y == ("__classdict__" : Str)) = false := by decide)
    (hs : swapsWith (.Name y p2) (some (.Name x pos')) pos.line X.env = pure false := by rfl) (hf : X.fn x = true ∨ X.env.scope.names.lookup x = some .local := by first | exact .inl rfl | exact .inr rfl | assumption) : G1 X N (.Assign [.Name x pos'] (.Name y p2) pos) ρ Φ :=
  g1_of (ps_set hN hi hx (pe_var hj hv hd hcd) hs hf) fun P σ H f => by
    obtain ⟨G, e0, sp, sta, fr⟩ := f
    obtain ⟨ov, h1, p, o, rfl, h2, h3⟩ := sta.at_ j _ hc
    refine ⟨.ref p, h1, _, ⟨G, e0, sp, ⟨sta.gh, by rw [List.length_set, List.length_set]; exact sta.len, fun m c hm => ?_, fun a b q xs ys r1 r2 r3 r4 => ?_⟩, fun m xs q r1 r2 => ?_⟩, h⟩
    · rcases set_get hm with ⟨rfl, rfl⟩ | ⟨n, hm⟩
      · have hl := (List.getElem?_eq_some_iff.mp hm).1
        rw [List.length_set] at hl
        exact ⟨_, List.getElem?_set_self (by rw [sta.len]; exact hl), p, o, rfl, h2, h3⟩
      · rw [List.getElem?_set_ne n]
        exact sta.at_ m c hm
    · rcases set_get r1 with ⟨_, z⟩ | ⟨n1, o1⟩
      · cases z
      rcases set_get r2 with ⟨_, z⟩ | ⟨n2, o2⟩
      · cases z
      rw [List.getElem?_set_ne n1] at r3
      rw [List.getElem?_set_ne n2] at r4
      exact sta.apart a b q xs ys o1 o2 r3 r4
    · rcases set_get r1 with ⟨_, z⟩ | ⟨n1, o1⟩
      · cases z
      rw [List.getElem?_set_ne n1] at r2
      exact fr m xs q o1 r2
end
/-! ### {k: v} -/
section
variable {X : Cx} {N : En} {a b c e tg : Expr} {ss : List Stmt} {ρ : Rho} {d d2 k : PyData} {kvs : List (PyData × PyData)} {pos pos' p1 p2 apos : Pos} {Φ : Post} {x y : Str}
def xDisp (X : Cx) (tk tv : TE) : TE := fun σ H Q => forall p o0, H p = none -> DicO (hsW X.w) p o0 [] -> tk σ (upd H p (dR p o0)) fun x H1 => tv σ H1 fun y H2 => H2 p = some (dR p o0) ∧ ∃ b k, x = .ref b ∧ KeyAt X.K H2 k b ∧ forall o u, RelV y u -> DicO (hsW X.w) p o [(k, b, u)] -> Q (.ref p) (upd H2 p (dR p o))
theorem pe_xdisp {tk tv : TE} (hu : X.A.units + 64 < cLine) (hk : PE X a tk) (hv : PE X b tv) : PE X (.Dict [some a] [b] pos) (xDisp X tk tv) := by
  refine ⟨fun pins s σ H Q I q => ?_⟩
  have hn := I.hok.fresh (Nat.le_refl s.heap.objs.size)
  have ok0 : DicO (hsW X.w) s.heap.objs.size { cls := .type "dict", data := .dict #[] } [] := ⟨⟨rfl, rfl, rfl⟩, ⟨#[], 0, rfl, rfl⟩, List.nodup_nil, beq_eq_false_iff_ne.mpr (Ne.symm (Nat.ne_of_lt I.big)), Nat.zero_le _⟩
  have I1 := I.laid (a := s.heap.objs.size) (o := dR s.heap.objs.size { cls := .type "dict", data := .dict #[] }) (h' := s.heap.push { cls := .type "dict", data := .dict #[] }) (t' := s.toks) (fun _ _ q => Heap.get?_push_of_some _ q) (Nat.le_refl _) (dR_ok (Heap.get?_push_size _ rfl))
  have q0 := q s.heap.objs.size _ hn ok0
  rw [arm_eval_Dict, show (evalEachOpt [some a] X.env).zip ((evalEach [b] X.env).map fun v => do let x ← v; standAt pos; pure x) = (pairTrees [some a] [b] X.env pos).map (fun p => (some p.1, p.2)) from rfl, dictDisplay_pairs (pairTrees [some a] [b] X.env pos) (by simp [pairTrees]) (by simp [pairTrees])]
  refine wpAny_bind (wpAny_standAt (wpAny_bind (wpAny_subDictH (knd := nestedKind X.prog X.w) (Q := fun d s' => wpAny (model X.prog X.w) X.A (pure (Value.ref d)) (EP X pins σ Q) X.xe s') (by show X.A.units + 8 < cLine; omega) (by simp [pairTrees]) ?_)))
  refine pairTrees_cons_walk (thn (hk.run pins _ σ _ _ I1 q0) fun u s1 ⟨x, H1, I2, rx, q1⟩ => thn (hv.run pins s1 σ H1 _ I2 q1) fun w2 s2 ⟨y, H2, I3, ry, hp, b', k, ex, ka, q2⟩ => pairTrees_nil_walk ?_)
  subst ex
  obtain rfl : u = Value.ref b' := rx
  have obj := (I3.hok _ _ hp).1
  refine ⟨[(k, b', w2)], ⟨rfl, rfl, ka.is I3, trivial⟩, ⟨_, #[], 0, obj, ⟨rfl, rfl, rfl⟩, rfl, rfl, fun _ z => absurd z List.not_mem_nil, List.nodup_nil⟩, fun h' tk dd' sb => wpAny_pure ?_⟩
  obtain ⟨q', es, ep, hq, h2, h3, h4, _, h5⟩ := dd'
  refine ⟨.ref s.heap.objs.size, _, d_write (ob := dR s.heap.objs.size q') I3 (by rw [hp]; exact True.intro) sb ⟨q', hq⟩ (dR_ok hq), rfl, q2 q' w2 ry ⟨h2, ⟨es, ep, h3, h4⟩, h5, ok0.sm, by show 1 ≤ 1000000; decide⟩⟩
theorem g1_dnew1 (i : Nat) (hu : X.A.units + 64 < cLine) (hk : GE X a ρ k) (he : GE X b ρ d) (hkey : isKey k = true) (h : Φ.nx (ρ.set i (.dic (hsW X.w) [(k, d)]))) (hN : X.N.Nodup) (hi : X.N[i]? = some x := by rfl) (hx : Loc X.env.scope x := by first | exact Or.inl rfl | exact Or.inr rfl) (hs : swapsWith (.Dict [some a] [b] p2) (some (.Name x pos')) pos.line X.env = pure false := by rfl)
    (hf : X.fn x = true ∨ X.env.scope.names.lookup x = some .local := by first | exact .inl rfl | exact .inr rfl | assumption) : G1 X N (.Assign [.Name x pos'] (.Dict [some a] [b] p2) pos) ρ Φ :=
  g1_of (ps_set hN hi hx (pe_xdisp hu pe_tw pe_tw) hs hf) fun P σ H f p o0 hp hd0 => by
    obtain ⟨G, e0, sp, sta, fr⟩ := f
    have ex : Ext G H G (upd H p (dR p o0)) := ⟨Same.refl G, same_new hp, sta.gh.trans (same_new hp), fun _ _ => rfl⟩
    refine hk σ G _ _ (sta.ext ex) fun v G1 H1 e1 dk => he σ G1 H1 _ ((sta.ext ex).ext e1) fun z G2 H2 e2 dz => ?_
    obtain ⟨b', rfl⟩ := dk.key hkey
    have e12 := e1.trans e2
    have hp2 : H2 p = some (dR p o0) := e12.h _ _ upd_same
    have gp : G2 p = none := by rw [e12.old p (by rw [upd_same]; exact fun z => nomatch z)]; exact sta.gh.free hp
    refine ⟨hp2, b', nk k, rfl, ⟨k, (dk.mono e2.g).mono e12.gh, hkey, rfl⟩, fun o u ru hdo => ?_⟩
    have sto := (sta.setOwx (x := .dict (hsW X.w) []) i hp ⟨o0, rfl, [], hd0, trivial⟩).ext e12
    have hl : forall hlt : i < ρ.length, (ρ.set i (.dic (hsW X.w) []))[i]? = some (.dic (hsW X.w) []) := fun hlt => List.getElem?_set_self hlt
    by_cases hlt : i < ρ.length
    · have st2 := sto.mutOwx (p := p) (u := dR p o) (y := .dict (hsW X.w) [(k, d)]) (hl hlt) (List.getElem?_set_self (by rw [sta.len]; exact hlt)) ⟨o, rfl, _, hdo, ⟨⟨rfl, dk.mono e2.g, ⟨z, ru, dz⟩, hkey⟩, trivial⟩⟩
      rw [List.set_set] at st2
      have np : N.h p = none := e0.h.free hp
      refine ⟨_, ⟨G2, mut_ext ((e0.trans ex).trans e12) gp np, sp.trans e12.g, st2, fun j xs q o1 o2 => ?_⟩, h⟩
      rcases set_get o1 with ⟨rfl, _⟩ | ⟨n, o1⟩
      · rcases set_get o2 with ⟨_, z⟩ | ⟨z, _⟩
        · cases z
          exact np
        · exact absurd rfl z
      · rw [List.getElem?_set_ne n] at o2
        exact fr j xs q o1 o2
    · have e1' : ρ.set i (.dic (hsW X.w) [(k, d)]) = ρ := List.set_eq_of_length_le (by omega)
      have e2' : σ.set i (some (.ref p)) = σ := List.set_eq_of_length_le (by rw [sta.len]; omega)
      have np : N.h p = none := e0.h.free hp
      rw [e1'] at h
      show (ends X.K N P Φ).nx (σ.set i (some (.ref p))) (upd H2 p (dR p o))
      rw [e2']
      have s3 : Sta X.K G2 (upd H2 p (dR p o)) σ ρ := by
        have s2 := (sta.ext ex).ext e12
        refine ⟨fun b q z => by rw [upd_ne (ne_of_none z gp)]; exact s2.gh b q z, s2.len, fun j c hc => ?_, s2.apart⟩
        obtain ⟨ov, r1, r2⟩ := sta.at_ j c hc
        obtain ⟨ov', r1', r2'⟩ := s2.at_ j c hc
        rw [r1] at r1'
        cases r1'
        refine ⟨ov, r1, ?_⟩
        cases c with
        | any => trivial
        | raw v => exact r2'
        | dat d => exact r2'
        | fdc hs kvs => exact r2'
        | pin v φ => exact r2'
        | owx xs =>
          obtain ⟨q, ws, s1, s2, s3, s4⟩ := r2
          obtain ⟨q', ws', t1, t2, t3, t4⟩ := r2'
          rw [s1] at t1
          cases t1
          have n : q ≠ p := fun z => by rw [z, hp] at s3; cases s3
          exact ⟨q, ws', s1, t2, by rw [upd_ne n]; exact t3, t4⟩
      exact ⟨_, ⟨G2, mut_ext ((e0.trans ex).trans e12) gp np, sp.trans e12.g, s3, fr⟩, h⟩
end
end Gd

namespace Gd
open PySem PySem.Spec L2
/-! ### sum(x.values()) -/
def viewO (a : Addr) : Obj := { cls := .type "dict_values", data := .fields #[.ref a] }
section
variable {X : Cx} {N : En} {a b c e o : Expr} {ρ : Rho} {kvs : List (PyData × PyData)} {pos p p1 p2 p3 apos cpos : Pos} {x : Str} {td : TE}
theorem dic_raw {pins : List (Addr × Obj)} {σ : L2.St} {H : Hp} {s : Shared} {q : Addr} {ob : Obj} {hs : NestedKey -> Int} {xs : List (NestedKey × Addr × Value)} (I : Inv X pins σ H s) (ha : H q = some (dR q ob)) (hd : DicO hs q ob xs) : ∃ es ep, s.heap.DictRaw q es ep ∧ es.toList = xs.map fun x => (⟨hs x.1, .ref x.2.1, x.2.2⟩ : DictEntry) := by
  obtain ⟨es, ep, h1, h2⟩ := hd.da
  exact ⟨es, ep, ⟨ob, (I.hok q _ ha).1, hd.ex, h1⟩, h2⟩
def xVals (X : Cx) (td : TE) : TE := fun σ H Q => td σ H fun x H1 => ∃ a o xs, x = .ref a ∧ H1 a = some (dR a o) ∧ DicO (hsW X.w) a o xs ∧ forall p, H1 p = none -> Q (.ref p) (upd H1 p (dR p (viewO a)))
theorem pe_values (ho : PE X o td) (hbase : attributeBase o "values" X.env (eval o X.env) = eval o X.env := by rfl) (hline : (apos.endLine == cpos.line) = true := by rfl) : PE X (.Call (.Attribute o "values" apos) [] [] cpos) (xVals X td) := by
  refine ⟨fun pins s σ H Q I h => ?_⟩
  refine wpAny_Call_method0_late hbase hline (thn (ho.run pins s σ H _ I h) fun v s1 ⟨y, H1, I1, r1, q, ob, xs, ey, ha, hd, q1⟩ => ?_)
  subst ey
  cases r1
  obtain ⟨es, ep, raw, hes⟩ := dic_raw I1 ha hd
  refine ⟨"dict", "dict.values", PySem.F.plainAttrs_dict, PySem.F.slot_dict_values, PySem.F.type_dict_values, raw.typeIs, fun b z => ?_, Calls.callWith_builtin rfl (PySem.evalArgs_none (call_meetsIn PySem.F.slot_dict_values raw.typeIs PySem.F.entry_dict_values (PySem.F.args_dict_values_1 _) (meets_dict_values_raw q hd.sm) ⟨⟨es, ep, raw⟩, ?_⟩))⟩
  · cases z
    obtain ⟨ob', w1, w2, w3⟩ := raw
    exact ⟨ob', w1, w2.2.1⟩
  · exact ⟨.ref s1.heap.objs.size, _, I1.laid (a := s1.heap.objs.size) (o := dR s1.heap.objs.size (viewO q)) (t' := s1.toks) (fun _ _ z => Heap.get?_push_of_some _ z) (Nat.le_refl _) (dR_ok (Heap.get?_push_size _ rfl)), rfl, q1 _ (I1.hok.fresh (Nat.le_refl _))⟩
def rSumV (X : Cx) : List V -> Hp -> VK -> Prop := fun vs H Q => ∃ (q a : Addr) (o : Obj) (xs : List (NestedKey × Addr × Value)) (ns : List Int), vs = [.ref q] ∧ H q = some (dR q (viewO a)) ∧ H a = some (dR a o) ∧ DicO (hsW X.w) a o xs ∧ ns.length = xs.length ∧ (forall (i : Nat) y n, xs[i]? = some y -> ns[i]? = some n -> RelV (.int n) y.2.2) ∧ Q (.int ns.sum) H
theorem preSum_take (ns : List Int) : forall n, n ≤ ns.length -> preSum (fun i => ns.getD i 0) n = (ns.take n).sum
  | 0, _ => rfl
  | n + 1, h => by
    have hlt : n < ns.length := h
    rw [preSum, preSum_take ns n (by omega), List.take_add_one, List.sum_append, List.getD_eq_getElem?_getD, List.getElem?_eq_getElem hlt]
    simp
theorem cr_sumV (hc : X.calm = true) : CallR X (.builtin "sum") (rSumV X) := by
  intro pins s σ H vs us Q I r h
  obtain ⟨q, d, ob, xs, ns, rfl, hq, ha, hd, hl, hv, k⟩ := h
  rw [Vals.ref1 r]
  obtain ⟨es, ep, raw, hes⟩ := dic_raw I ha hd
  have vw : s.heap.IsValuesView q d := ⟨_, (I.hok q _ hq).1, rfl, rfl⟩
  have hz : es.size = xs.length := by
    have := congrArg List.length hes
    simpa using this
  have hlt : d < s.heap.objs.size := by obtain ⟨o', z, _⟩ := raw; exact Heap.lt_size z
  refine call_sum_walkAnyS (wpAny_pyIter_values_raw vw raw ?_)
  have hh : X.A.in1.handled = none := I.ok.hd hc
  have W := (Walks.rawValues (prog := X.prog) (w := X.w) hh s.heap.objs.size d (Nat.ne_of_lt hlt) es ep).toS
  refine ⟨s.heap.objs.size, _, _, _, es.size, _, _, fun i => ns.getD i 0, rfl, W, ⟨⟨_, Heap.get?_push_size _ rfl, rfl, rfl⟩, raw.at fun o' z => Heap.get?_push_of_some _ z⟩, fun b hb => ?_, fun i v hv' => ?_, fun s' t' hm => ?_⟩
  · show b < (s.heap.push _).objs.size
    rw [PyProof.Rows.size_push']
    rcases List.mem_cons.mp hb with z | hb
    · rw [z]; exact Nat.lt_succ_self _
    · rw [List.mem_singleton.mp hb]; exact Nat.lt_succ_of_lt hlt
  · obtain ⟨hi, rfl⟩ := hv'
    have hx : i < xs.length := by omega
    have hn : i < ns.length := by omega
    have e1 : es[i].val = xs[i].2.2 := by
      have := congrArg (fun q => q[i]?) hes
      simp only [Array.getElem?_toList, List.getElem?_map] at this
      rw [Array.getElem?_eq_getElem hi, List.getElem?_eq_getElem hx] at this
      rw [Option.some.inj this]
    obtain ⟨t, ht⟩ := hv i xs[i] ns[i] (List.getElem?_eq_getElem hx) (List.getElem?_eq_getElem hn)
    refine ⟨t, ?_⟩
    rw [e1, ht]
    show Value.int ns[i] t = Value.int (ns.getD i 0) t
    rw [List.getD_eq_getElem?_getD, List.getElem?_eq_getElem hn]
    rfl
  · have hk : forall b o', s.heap.get? b = some o' -> s'.heap.get? b = some o' := fun b o' z =>
      hm.heap b o' (fun hI => absurd (Heap.lt_size z) (by rw [List.mem_singleton.mp hI]; exact Nat.lt_irrefl _)) (Heap.get?_push_of_some _ z)
    rw [Moved.eq_with hm]
    have e2 : preSum (fun i => ns.getD i 0) es.size = ns.sum := by rw [preSum_take ns _ (by omega), List.take_of_length_le (by omega)]
    rw [e2]
    exact ⟨.int _, H, I.kept hk, ⟨_, rfl⟩, k⟩
theorem DEnt.ints {K : PySem.W.Frag} {G : Hp} {ns : List Int} : forall {kvs : List (PyData × PyData)} {xs : List (NestedKey × Addr × Value)}, DEnt K G kvs xs -> forall {ns : List Int}, kvs.map (·.2) = ns.map PyData.int -> ns.length = xs.length ∧ forall (i : Nat) y n, xs[i]? = some y -> ns[i]? = some n -> RelV (.int n) y.2.2
  | [], [], _, ns, e => by
    cases ns with
    | nil => exact ⟨rfl, fun i y n h => by simp at h⟩
    | cons _ _ => cases e
  | kv :: kvs, x :: xs, h, ns, e => by
    cases ns with
    | nil => cases e
    | cons m ns =>
      rw [List.map_cons, List.map_cons] at e
      injection e with e1 e2
      obtain ⟨⟨a, b, ⟨v, rv, dv⟩, _⟩, t⟩ := h
      rw [e1] at dv
      cases dv
      obtain ⟨i1, i2⟩ := DEnt.ints (ns := ns) t e2
      refine ⟨by rw [List.length_cons, List.length_cons, i1], fun i y n h1 h2 => ?_⟩
      cases i with
      | zero =>
        simp at h1 h2
        subst h1 h2
        exact rv
      | succ i => exact i2 i y n (by simpa using h1) (by simpa using h2)
  | [], _ :: _, h, _, _ => h.elim
  | _ :: _, [], h, _, _ => h.elim
theorem ge_sumValues (i : Nat) {ns : List Int} (hm : X.mg "sum" = none) (he : kvs.map (·.2) = ns.map PyData.int) (hc : IsDic ρ i (hsW X.w) kvs := by first | exact .inl rfl | exact .inr (.inl rfl) | exact .inr (.inr ⟨_, rfl⟩)) (hcalm : X.calm = true := by rfl) (hg : Gl X "sum" := by rfl) (hi : X.N[i]? = some x := by rfl) (hv : Vis X.env.scope x := by first | exact Or.inl rfl | exact Or.inr (Or.inl rfl) | exact Or.inr (Or.inr rfl)) (hd : (x == ("__debug__" : Str)) = false := by decide) (hcd : (x == ("__classdict__" : Str)) = false := by decide)
    (hbase : attributeBase (.Name x p1) "values" X.env (eval (.Name x p1) X.env) = eval (.Name x p1) X.env := by rfl) (hline : (p2.endLine == p3.line) = true := by rfl)
    (hs : starEach [.Call (.Attribute (.Name x p1) "values" p2) [] [] p3] X.env = (false, eval (.Call (.Attribute (.Name x p1) "values" p2) [] [] p3) X.env) :: starEach [] X.env := by rfl) (hpl : (backTo pos (starEach [] X.env)).any (·.1) = false := by rfl) :
    GE X (.Call (.Name "sum" p) [.Call (.Attribute (.Name x p1) "values" p2) [] [] p3] [] pos) ρ (.int ns.sum) :=
  ge_of (pe_callB (cr_sumV hcalm) hg hm bt_sum (pa_cons (pe_values (pe_var hi hv hd hcd) hbase hline) pa_nil hs) (by decide) (by decide) hs hpl) fun σ G H Q s q => by
    obtain ⟨q', o, h1, h2, xs, ho, ent⟩ := s.dict hc
    refine ⟨.ref q', h1, q', o, xs, rfl, h2, ho, fun v hv' => ?_⟩
    have ex : Ext G H G (upd H v (dR v (viewO q'))) := ⟨Same.refl G, same_new hv', s.gh.trans (same_new hv'), fun _ _ => rfl⟩
    obtain ⟨i1, i2⟩ := ent.ints (ns := ns) he
    exact ⟨v, q', o, xs, ns, rfl, upd_same, same_new hv' _ _ h2, ho, i1, i2, q _ G _ ex (.int _)⟩
end
end Gd

namespace Gd
open PySem PySem.Spec L2
section
variable {X : Cx} {N : En} {st : Stmt} {e a b c elt tg iter tg1 iter1 : Expr} {es ifs : List Expr} {ρ ρ' : Rho} {d d1 d2 : PyData} {ds : List PyData} {pos pos' p p2 : Pos} {Φ : Post} {i j : Int} {l : List Nat} {k : Bool} {K : PySem.W.Frag}
/-- the slots, told anew -/
theorem gs_eq {ss : List Stmt} (ρ' : Rho) (h : GS X N ss ρ' Φ) (e : ρ = ρ' := by kernel_rfl) : GS X N ss ρ Φ := by rw [e]; exact h
theorem gs_mono {ss : List Stmt} {Ψ : Post} (h : GS X N ss ρ Φ) (h1 : forall ρ, Φ.nx ρ -> Ψ.nx ρ) (h2 : forall d, Φ.rt d -> Ψ.rt d) (h3 : forall ρ, Φ.bk ρ -> Ψ.bk ρ) (h4 : forall ρ, Φ.ct ρ -> Ψ.ct ρ) (h5 : Φ.mm = Ψ.mm := by rfl) : GS X N ss ρ Ψ := fun P σ H f =>
  tws_mono (D := ends X.K N P Φ) (D' := ends X.K N P Ψ) ⟨fun _ _ ⟨ρ, f, q⟩ => ⟨ρ, f, h1 _ q⟩, fun _ _ ⟨d, f, q⟩ => ⟨d, h5 ▸ f, h2 _ q⟩, fun _ _ ⟨ρ, f, q⟩ => ⟨ρ, f, h3 _ q⟩, fun _ _ ⟨ρ, f, q⟩ => ⟨ρ, f, h4 _ q⟩⟩ (h P σ H f)
/-- if: both ways end with the slots ρ1 -/
theorem g1_ifJ {body orelse : List Stmt} {c : Expr} (ρ1 : Rho) (hc : GT X c ρ k) (ht : k = true -> GS X N body ρ { Φ with nx := fun ρ' => ρ' = ρ1 }) (hf : k = false -> GS X N orelse ρ { Φ with nx := fun ρ' => ρ' = ρ1 }) (h : Φ.nx ρ1) : G1 X N (.If c body orelse pos) ρ Φ :=
  g1_if hc (fun z => gs_mono (ht z) (fun _ q => by rw [show _ = ρ1 from q]; exact h) (fun _ q => q) (fun _ q => q) (fun _ q => q)) (fun z => gs_mono (hf z) (fun _ q => by rw [show _ = ρ1 from q]; exact h) (fun _ q => q) (fun _ q => q) (fun _ q => q))
/-! ### two fors in a comprehension -/
/-- the weakest walk -/
def twI (X : Cx) (tg iter : Expr) : TI := fun σ H R => forall pins s, Inv X pins σ H s -> Wp X (eval iter X.env) (fun v s1 => wpAny (model X.prog X.w) X.A (pyIter v) (PIE X pins σ tg R) X.xe s1) s
theorem tput_len {T : Tg} (h : T.put d ρ = some ρ') : ρ'.length = ρ.length := by
  have l1 : forall (is : List Nat) (ds : List PyData) (r r' : Rho), putAll is ds r = some r' -> r'.length = r.length := fun is => by
    induction is with
    | nil => intro ds r r' z; cases ds with
      | nil => cases z; rfl
      | cons _ _ => simp [putAll] at z
    | cons j js ih => intro ds r r' z; cases ds with
      | nil => simp [putAll] at z
      | cons d ds => rw [ih ds _ _ z, List.length_set]
  cases T with
  | nm j =>
    have z : ρ.set j (.dat d) = ρ' := Option.some.inj h
    rw [← z, List.length_set]
  | tp js =>
    cases d with
    | tuple ds => exact l1 js ds _ _ h
    | _ => cases h
def EvI (K : PySem.W.Frag) (wi : TI) (ρ : Rho) (items : List PyData) : Prop := forall (σ : L2.St) (G H : Hp) (R : It -> Hp -> Prop), Sta K G H σ ρ -> (forall J G' H', Ext G H G' H' -> WalkD K J G' items -> R J H') -> wi σ H R
theorem ev_lc2 {α β : Type} (L : List α) (g : α -> PyData) (M : α -> List β) (g1 : α -> β -> PyData) (F : α -> β -> PyData) {T T1 : Tg} {wi wi1 : TI} {tt tt1 : TT} {te : TE} {vs vs1 : List Nat}
    (hw : EvI K wi ρ (L.map g)) (hsub : forall j, j ∈ T.sl -> j ∈ vs) (hsub1 : forall j, j ∈ T1.sl -> j ∈ vs1) (hlen : (L.flatMap M).length ≤ 100000)
    (turn : forall (i : Nat) (x : α), L[i]? = some x -> ∃ ρ2, T.put (g x) (wipeR ρ vs) = some ρ2 ∧ EvT K tt ρ2 true ∧ EvI K wi1 ρ2 ((M x).map (g1 x)) ∧
      forall (j : Nat) (y : β), (M x)[j]? = some y -> ∃ ρ3, T1.put (g1 x y) (wipeR ρ2 vs1) = some ρ3 ∧ EvT K tt1 ρ3 true ∧ EvR K te ρ3 (F x y)) :
    EvR K (tLc2 wi (T.rd K) tt wi1 (T1.rd K) tt1 te vs vs1) ρ (.list (L.flatMap fun x => (M x).map (F x))) := fun σ G H Q s q => by
  refine hw σ G H _ s fun J G1 H1 e1 wk D hD => ?_
  have hfl : forall (L' : List α), (L'.flatMap fun x => (M x).map (F x)).length = (L'.flatMap M).length := fun L' => by
    induction L' with
    | nil => rfl
    | cons x L' ih => rw [List.flatMap_cons, List.flatMap_cons, List.length_append, List.length_append, ih, List.length_map]
  refine ⟨fun i m H2 => m = L.length - i ∧ i ≤ L.length ∧ ∃ G2 acc, Ext G1 H1 G2 H2 ∧ G2 D = none ∧ H2 D = some (.lst acc) ∧ DqAll K G2 acc ((L.take i).flatMap fun x => (M x).map (F x)), ⟨_, rfl, Nat.zero_le _, G1, [], ?_, e1.gh.free hD, upd_same, by rw [List.take_zero]; exact .nil⟩, fun i m H2 hW => ?_⟩
  · exact ⟨Same.refl _, same_new hD, e1.gh.trans (same_new hD), fun _ _ => rfl⟩
  · obtain ⟨rfl, hle, G2, acc, e2, gD, hD2, dv⟩ := hW
    by_cases hlt : i < L.length
    · have hx : L[i]? = some L[i] := List.getElem?_eq_getElem hlt
      obtain ⟨wgo, _⟩ := wk G2 H2 e2.g e2.gh
      obtain ⟨go, yl⟩ := wgo i (g L[i]) (by rw [List.getElem?_map, hx]; rfl)
      obtain ⟨ρ2, hput, hT, hI1, hE⟩ := turn i L[i] hx
      have htake : (L.take (i + 1)).flatMap (fun x => (M x).map (F x)) = (L.take i).flatMap (fun x => (M x).map (F x)) ++ (M L[i]).map (F L[i]) := by
        rw [List.take_add_one, hx, List.flatMap_append]
        simp
      have hbig : ((L.take i).flatMap M).length + (M L[i]).length ≤ 100000 := by
        have e : L.flatMap M = (L.take i).flatMap M ++ (M L[i] ++ (L.drop (i + 1)).flatMap M) := by
          conv => lhs; rw [← List.take_append_drop i L, List.drop_eq_getElem_cons hlt]
          rw [List.flatMap_append, List.flatMap_cons]
        rw [e, List.length_append, List.length_append] at hlen
        omega
      refine .inr ⟨go, fun H' => ∃ G3 acc, Ext G1 H1 G3 H' ∧ G3 D = none ∧ H' D = some (.lst acc) ∧ DqAll K G3 acc ((L.take (i + 1)).flatMap fun x => (M x).map (F x)), fun H' ⟨G3, ac, z⟩ => ⟨L.length - (i + 1), by omega, rfl, hlt, G3, ac, z⟩, fun x H3 hy => ?_⟩
      obtain ⟨G3, e3, dx⟩ := yl x H3 hy
      have keepD : forall {G2 H2 G4 H4 : Hp} {acc : List V}, G2 D = none -> H2 D = some (.lst acc) -> Ext G2 H2 G4 H4 -> G4 D = none ∧ H4 D = some (.lst acc) := fun gD hD2 e4 => ⟨by rw [e4.old D (by rw [hD2]; exact fun z => nomatch z)]; exact gD, e4.h _ _ hD2⟩
      have sW : Sta K G3 H3 (L2.wipe σ vs) (wipeR ρ vs) := ((s.ext e1).ext e2).wipe vs |>.ext e3
      refine Tg.rd_ok hput sW dx fun σ' s' hj => ⟨?_, ?_⟩
      · have hl : σ'.length = (L2.wipe σ vs).length := by rw [s'.len, tput_len hput, ← sW.len]
        rw [wipe_eq hl fun j hn => hj j fun z => hn (hsub j z), wipe_wipe]
      · refine hT σ' G3 H3 _ s' fun G4 H4 e4 => ?_
        rw [if_pos rfl]
        refine hI1 σ' G4 H4 _ (s'.ext e4) fun J1 G5 H5 e5 wk1 => ?_
        have e25 := (e3.trans e4).trans e5
        obtain ⟨k1, k2⟩ := keepD gD hD2 e25
        have e15 := e2.trans e25
        have s5 := (s'.ext e4).ext e5
        refine ⟨fun j m H6 => m = (M L[i]).length - j ∧ j ≤ (M L[i]).length ∧ ∃ G6 acc, Ext G1 H1 G6 H6 ∧ Same G5 G6 ∧ Sta K G6 H6 σ' ρ2 ∧ G6 D = none ∧ H6 D = some (.lst acc) ∧ DqAll K G6 acc ((L.take i).flatMap (fun x => (M x).map (F x)) ++ ((M L[i]).take j).map (F L[i])), ⟨_, rfl, Nat.zero_le _, G5, acc, e15, Same.refl _, s5, k1, k2, ?_⟩, fun j m2 H6 hW => ?_⟩
        · rw [List.take_zero, List.map_nil, List.append_nil]
          exact dv.mono e25.g
        · obtain ⟨rfl, hle6, G6, acc6, e16, sm6, s6, gD6, hD6, dv6⟩ := hW
          obtain ⟨wgo1, wstop1⟩ := wk1 G6 H6 sm6 s6.gh
          by_cases hlt1 : j < (M L[i]).length
          · have hx1 : (M L[i])[j]? = some (M L[i])[j] := List.getElem?_eq_getElem hlt1
            obtain ⟨go1, yl1⟩ := wgo1 j (g1 L[i] (M L[i])[j]) (by rw [List.getElem?_map, hx1]; rfl)
            obtain ⟨ρ3, hput1, hT1, hE1⟩ := hE j (M L[i])[j] hx1
            have htake1 : ((M L[i]).take (j + 1)).map (F L[i]) = ((M L[i]).take j).map (F L[i]) ++ [F L[i] (M L[i])[j]] := by
              rw [List.take_add_one, hx1, List.map_append]
              rfl
            refine .inr ⟨go1, fun H7 => ∃ G7 acc, Ext G1 H1 G7 H7 ∧ Same G5 G7 ∧ Sta K G7 H7 σ' ρ2 ∧ G7 D = none ∧ H7 D = some (.lst acc) ∧ DqAll K G7 acc ((L.take i).flatMap (fun x => (M x).map (F x)) ++ ((M L[i]).take (j + 1)).map (F L[i])), fun H7 ⟨G7, ac, z⟩ => ⟨(M L[i]).length - (j + 1), by omega, rfl, hlt1, G7, ac, z⟩, fun x1 H7 hy1 => ?_⟩
            obtain ⟨G7, e7, dx1⟩ := yl1 x1 H7 hy1
            have sW1 : Sta K G7 H7 (L2.wipe σ' vs1) (wipeR ρ2 vs1) := (s6.wipe vs1).ext e7
            refine Tg.rd_ok hput1 sW1 dx1 fun σ3 s3 hj3 => ⟨?_, ?_⟩
            · have hl : σ3.length = (L2.wipe σ' vs1).length := by rw [s3.len, tput_len hput1, ← sW1.len]
              rw [wipe_eq hl fun j hn => hj3 j fun z => hn (hsub1 j z), wipe_wipe]
            · refine hT1 σ3 G7 H7 _ s3 fun G8 H8 e8 => ?_
              rw [if_pos rfl]
              refine hE1 σ3 G8 H8 _ (s3.ext e8) fun v G9 H9 e9 dy => ?_
              have e69 := (e7.trans e8).trans e9
              obtain ⟨m1, m2⟩ := keepD gD6 hD6 e69
              have e19 := e16.trans e69
              have gh9 : Same G9 (upd H9 D (.lst (acc6 ++ [v]))) := fun b o z => by rw [upd_ne (ne_of_none z m1)]; exact e19.gh b o z
              refine ⟨acc6, m2, ?_, G9, acc6 ++ [v], ?_, sm6.trans e69.g, ?_, m1, upd_same, ?_⟩
              · rw [dv6.length, List.length_append, hfl, List.length_map, List.length_take]
                refine Nat.lt_of_lt_of_le ?_ (show 100000 ≤ sizeLine by decide)
                omega
              · exact ⟨e19.g, fun b o z => by rw [upd_ne (ne_of_none z hD)]; exact e19.h b o z, gh9, e19.old⟩
              · have s9 := s6.ext e69
                refine ⟨gh9, s9.len, fun i c hc => ?_, s9.apart⟩
                obtain ⟨ov, o1, o2⟩ := s9.at_ i c hc
                refine ⟨ov, o1, ?_⟩
                cases c with
                | any => trivial
                | raw v => exact o2
                | dat d => exact o2
                | fdc hs kvs => exact o2
                | pin v φ => exact o2
                | owx xs =>
                  obtain ⟨pp, u, r1, r2, r3, r4⟩ := o2
                  have hne : pp ≠ D := fun z => by
                    -- an own list stood before the new one was made
                    subst z
                    have hρ : ∃ xs0, ρ[i]? = some (.owx xs0) ∧ σ'[i]? = σ[i]? := by
                      obtain ⟨n1, n2⟩ := Tg.put_own hput hc
                      have n3 : ρ[i]? = some (.owx xs) ∧ i ∉ vs := by
                        have : forall (vs : List Nat) (ρ : Rho), (wipeR ρ vs)[i]? = some (.owx xs) -> ρ[i]? = some (.owx xs) ∧ i ∉ vs := fun vs => by
                          induction vs with
                          | nil => intro ρ h; exact ⟨h, by simp⟩
                          | cons a vs ih =>
                            intro ρ h
                            rcases set_get (show ((wipeR ρ vs).set a .any)[i]? = some (.owx xs) from h) with ⟨_, z⟩ | ⟨n, h⟩
                            · cases z
                            · obtain ⟨h1, h2⟩ := ih ρ h
                              exact ⟨h1, by simp; exact ⟨fun z => n z.symm, h2⟩⟩
                        exact this vs ρ n2
                      refine ⟨xs, n3.1, ?_⟩
                      rw [hj i n1, wipe_get, if_neg n3.2]
                    obtain ⟨xs0, h1, h2⟩ := hρ
                    obtain ⟨p0, u0, t1, t2, t3, _⟩ := (s.ext e1).owx h1
                    have : some (V.ref pp) = some (V.ref p0) := by
                      have q1 : σ'[i]? = some (some (V.ref pp)) := by rw [o1, r1]
                      rw [h2, t1] at q1
                      exact (Option.some.inj q1).symm
                    cases this
                    rw [hD] at t3
                    cases t3
                  exact ⟨pp, u, r1, r2, by rw [upd_ne hne]; exact r3, r4⟩
              · rw [htake1, ← List.append_assoc]
                exact (dv6.mono e69.g).append (.cons dy .nil)
          · have ej : j = (M L[i]).length := by omega
            refine .inl ⟨wstop1 j (by rw [List.length_map]; omega), G6, acc6, e16, gD6, hD6, ?_⟩
            rw [htake]
            rw [ej, List.take_length] at dv6
            exact dv6
    · have ei : i = L.length := by omega
      obtain ⟨_, wstop⟩ := wk G2 H2 e2.g e2.gh
      refine .inl ⟨wstop i (by rw [List.length_map]; omega), ?_⟩
      have eD : Ext G1 H1 (upd G2 D (.lst acc)) H2 := ⟨e2.g.trans (same_new gD), e2.h, fun b o z => by
        by_cases hb : b = D
        · subst hb; rw [upd_same] at z; cases z; exact hD2
        · rw [upd_ne hb] at z; exact e2.gh b o z, fun a ha => by rw [upd_ne (fun z => ha (by rw [z]; exact hD))]; exact e2.old a ha⟩
      refine q (.ref D) _ H2 (e1.trans eD) (.lst upd_same ?_)
      rw [ei, List.take_length] at dv
      exact dv.mono (same_new gD)
/-- y = [e for a in .. for b in ..] -/
theorem g1_setLc2 {α β : Type} (iy : Nat) (L : List α) (g : α -> PyData) (M : α -> List β) (g1 : α -> β -> PyData) (F : α -> β -> PyData) {T T1 : Tg} {scope : Scope} (own : List (Str × Nat)) (vs1 : List Nat) {y : Str} {py spos : Pos} (hi : GI X tg iter ρ (L.map g)) (hN : X.N.Nodup) (hlen : (L.flatMap M).length ≤ 100000)
    (hg : forall s H C cl fp, GTg (Blk X scope s H C cl fp) tg T) (hg1 : forall s H C cl fp, GTg (Blk X scope s H C cl fp) tg1 T1)
    (turn : forall (i : Nat) (x : α), L[i]? = some x -> ∃ ρ2, T.put (g x) (wipeR ρ (own.map (·.2))) = some ρ2 ∧ (forall s H C cl fp, GI (Blk X scope s H C cl fp) tg1 iter1 ρ2 ((M x).map (g1 x))) ∧
      forall (j : Nat) (z : β), (M x)[j]? = some z -> ∃ ρ3, T1.put (g1 x z) (wipeR ρ2 vs1) = some ρ3 ∧ forall s H C cl fp, GE (Blk X scope s H C cl fp) elt ρ3 (F x z))
    (h : Φ.nx (ρ.set iy (.dat (.list (L.flatMap fun x => (M x).map (F x))))))
    (hsw : swapsWith (.ListComp elt [⟨tg, iter, [], 0⟩, ⟨tg1, iter1, [], 0⟩] scope pos) (some (.Name y py)) spos.line X.env = pure true := by exact sw_true rfl rfl rfl (by decide +kernel)) (ok : blkC X.N X.env.scope scope own = true := by kernel_rfl) (hy : X.N[iy]? = some y := by rfl) (hyl : X.env.scope.names.lookup y = some .local := by rfl)
    (hsub : (T.sl.all fun j => (own.map (·.2)).contains j) = true := by rfl) (hsub1 : (T1.sl.all fun j => vs1.contains j) = true := by rfl) (hv : (vs1.all fun j => (own.map (·.2)).contains j) = true := by rfl) (hc : X.calm = true := by rfl) (hfs : forall x, foldedSetIterable iter X.env x = pure x := by intro _; rfl) (hfs1 : forall env x, foldedSetIterable iter1 env x = pure x := by intro _ _; rfl) :
    G1 X N (.Assign [.Name y py] (.ListComp elt [⟨tg, iter, [], 0⟩, ⟨tg1, iter1, [], 0⟩] scope pos) spos) ρ Φ := by
  obtain ⟨wi, hpi, hw⟩ := hi
  have hv' : forall j, j ∈ vs1 -> j ∈ own.map (·.2) := fun j hj => by simpa using List.all_eq_true.mp hv j hj
  have hs1' : forall j, j ∈ T1.sl -> j ∈ vs1 := fun j hj => by simpa using List.all_eq_true.mp hsub1 j hj
  refine g1_of (ps_setLc2 (own := own) (vs1 := vs1) (g := T.rd X.K) (g1 := T1.rd X.K) (wi1 := fun σ H R => forall s H' C cl fp, twI (Blk X scope s H' C cl fp) tg1 iter1 σ H R)
    (tt := fun σ H Q => Q true H) (tt1 := fun σ H Q => Q true H)
    (te := fun σ H Q => forall s H' C cl fp, tw (Blk X scope s H' C cl fp) elt σ H Q) hc hN hy hyl hsw hpi (blkOk_by ok) hv' (fun s H C cl fp => hg s H C cl fp) (fun s H C cl fp => pts_nil)
    (fun s H C cl fp => ⟨fun pins s' σ H' R I h => (h s H C cl fp pins s' I).run⟩) (fun s H C cl fp => hg1 s H C cl fp) (fun s H C cl fp => pts_nil) (fun s H C cl fp => ⟨fun pins s' σ H' Q I h => (h s H C cl fp pins s' I).run⟩) hfs hfs1) fun P σ H f => ?_
  refine f.ev (ev_lc2 L g M g1 F hw (sub_of hsub) hs1' hlen fun i x hx => ?_) fun v G H' e1 sp sta fr dv => ⟨_, ⟨G, e1, sp, sta.set iy dv, fresh_set fr⟩, h⟩
  obtain ⟨ρ2, hput, h2, h3⟩ := turn i x hx
  refine ⟨ρ2, hput, fun σ G H Q s q => q G H (.refl s.gh), fun σ G H R s q s0 H' C cl fp pins s' I => ?_, fun j z hz => ?_⟩
  · obtain ⟨wi1, hpi1, hw1⟩ := h2 s0 H' C cl fp
    exact ⟨hpi1.run pins s' σ H R I (hw1 σ G H R s q)⟩
  · obtain ⟨ρ3, hput3, hE⟩ := h3 j z hz
    exact ⟨ρ3, hput3, fun σ G H Q s q => q G H (.refl s.gh), fun σ G H Q s q s0 H' C cl fp => hE s0 H' C cl fp σ G H Q s q⟩
/-! ### x.extend(e) -/
theorem g1_extend (i : Nat) {x : Str} {p1 p2 p3 : Pos} {fs : List PyData} (ho : ρ[i]? = some (.own ds)) (he : GE X e ρ (.list fs)) (hz : ds.length + fs.length ≤ 100000) (h : Φ.nx (ρ.set i (.own (ds ++ fs)))) (hi : X.N[i]? = some x := by rfl) (hv : Vis X.env.scope x := by first | exact Or.inl rfl | exact Or.inr (Or.inl rfl) | exact Or.inr (Or.inr rfl)) (hd : (x == ("__debug__" : Str)) = false := by decide) (hcd : (x == ("__classdict__" : Str)) = false := by decide)
    (hbase : attributeBase (.Name x p1) "extend" X.env (eval (.Name x p1) X.env) = eval (.Name x p1) X.env := by rfl)
    (hfew : ((backTo p3 (starEach (e :: []) X.env)).all (fun x => !x.1) && (backToKw p3 (keywordEach [] X.env)).all (fun x => x.1.isSome) && decide ((e :: []).length + ([] : List Keyword).length + (if ([] : List Keyword).isEmpty then 0 else 1) < 30)) = true := by rfl)
    (hline : (p2.endLine == p3.line) = true := by rfl) (hs1 : starEach (e :: []) X.env = (false, eval e X.env) :: starEach [] X.env := by rfl) (hplain : (backTo p3 (starEach [] X.env)).any (·.1) = false := by rfl)
    (hs : swapsWith (.Call (.Attribute (.Name x p1) "extend" p2) [e] [] p3) none pos.line X.env = pure false := by rfl) : G1 X N (.Expr (.Call (.Attribute (.Name x p1) "extend" p2) [e] [] p3) pos) ρ Φ :=
  g1_of (ps_expr (pe_bm PySem.F.plainAttrs_list PySem.F.slot_list_extend PySem.F.type_list_extend mt_extend (pe_var hi hv hd hcd) (pa_cons pe_tw pa_nil hs1) hbase hfew hline hs1 hplain) hs) fun P σ H f => by
    obtain ⟨G, e0, sp, sta, fr⟩ := f
    obtain ⟨p, vs, o1, o2, o3, o4⟩ := sta.own ho
    refine ⟨.ref p, o1, .inl ⟨rfl, _, .inl (.inl o3)⟩, ?_⟩
    refine he σ G H _ sta fun v G' H' e1 dv => ?_
    have sta' := sta.ext e1
    obtain ⟨p', vs', r1, r2, r3, r4⟩ := sta'.own ho
    rw [o1] at r1
    cases r1
    cases dv with
    | lst s1 a1 =>
      refine ⟨p, _, vs', _, rfl, rfl, r3, e1.gh _ _ s1, by rw [r4.length, a1.length]; exact Nat.le_trans hz (by decide), ?_⟩
      exact ⟨_, ⟨G', mut_ext (e0.trans e1) r2 (fr i _ p ho o1), sp.trans e1.g, sta'.mutOwn ho o1 (r4.append a1), fresh_mut ho fr⟩, h⟩
/-! ### sep.join([..]) -/
def joinL (sep : List Nat) : List (List Nat) -> List Nat
  | [] => []
  | [x] => x
  | x :: y :: r => x ++ sep ++ joinL sep (y :: r)
theorem join_S (sep : List Nat) : forall ys : List (List Nat), Txt.join (S sep) (ys.map S) = S (joinL sep ys) := fun ys => by
  show Builtin.Str.glued (S sep) (ys.map S) = _
  rw [StrLaws.glued_eq_join]
  induction ys with
  | nil => rfl
  | cons x ys ih =>
    cases ys with
    | nil => rfl
    | cons y r =>
      show (S x ++ S sep ++ Str.join (S sep) ((y :: r).map S)) = _
      rw [ih, S_app, S_app]
      rfl
theorem join_signs : forall l : List Nat, joinL [] (l.map fun c => [c]) = l
  | [] => rfl
  | [x] => rfl
  | x :: y :: r => by
    show [x] ++ [] ++ joinL [] ((y :: r).map fun c => [c]) = _
    rw [join_signs (y :: r)]
    rfl
theorem ge_join {apos : Pos} {sep : List Nat} {ys : List (List Nat)} (ha : GE X a ρ (.str (S sep))) (hb : GE X b ρ (.list (ys.map fun y => .str (S y)))) (hz : (ys.map (·.length)).sum + ys.length * sep.length ≤ 100000) (hs : starEach [b] X.env = [(false, eval b X.env)] := by rfl) (hbase : attributeBase a "join" X.env (eval a X.env) = eval a X.env := by rfl) (hline : (apos.endLine == pos.line) = true := by rfl) :
    GE X (.Call (.Attribute a "join" apos) [b] [] pos) ρ (.str (S (joinL sep ys))) :=
  ge_m1 PySem.F.slot_str_join PySem.F.type_str_join mt_join ha hb (fun v G H Q gh dv q => by
    cases dv with
    | lst s1 a1 =>
      have e : (ys.map fun y => PyData.str (S y)) = (ys.map S).map PyData.str := by rw [List.map_map]; rfl
      rw [e] at a1
      have e2 := a1.strs
      subst e2
      refine ⟨S sep, _, ys.map S, rfl, rfl, .inl (.inl (.inl (gh _ _ s1))), ?_, ?_⟩
      · rw [List.map_map, List.length_map, S_len]
        have e3 : (ys.map ((fun x => x.length) ∘ S)) = ys.map (·.length) := List.map_congr_left fun y _ => S_len y
        rw [e3]
        omega
      · rw [join_S]
        exact q _ G H (.refl gh) (.str _)) hs hbase hline
theorem sum_singles : forall l : List Nat, ((l.map fun c => [c]).map (·.length)).sum = l.length
  | [] => rfl
  | c :: l => by
    rw [List.map_cons, List.map_cons, List.sum_cons, sum_singles l]
    simp
    omega
theorem ge_joinC {apos : Pos} {l : List Nat} (ha : GE X a ρ (.str (S []))) (hb : GE X b ρ (.list (l.map fun c => .str (S [c])))) (hz : l.length ≤ 100000) (hs : starEach [b] X.env = [(false, eval b X.env)] := by rfl) (hbase : attributeBase a "join" X.env (eval a X.env) = eval a X.env := by rfl) (hline : (apos.endLine == pos.line) = true := by rfl) :
    GE X (.Call (.Attribute a "join" apos) [b] [] pos) ρ (.str (S l)) := by
  have h := ge_join (X := X) (ρ := ρ) (pos := pos) (apos := apos) (sep := []) (ys := l.map fun c => [c]) ha (by rw [List.map_map]; exact hb) (by
    rw [sum_singles]
    simp
    omega) hs hbase hline
  rw [join_signs] at h
  exact h
end
end Gd

namespace Gd
open PySem PySem.Spec L2
/-! ### expressions that fill a dict -/
/-- the heap without what stands at q -/
def less (H : Hp) (q : Addr) : Hp := fun b => if b = q then none else H b
theorem less_ne {H : Hp} {q b : Addr} (h : b ≠ q) : less H q b = H b := if_neg h
theorem less_at {H : Hp} {q : Addr} : less H q q = none := if_pos rfl
theorem less_some {H : Hp} {q b : Addr} {o : HO} (h : less H q b = some o) : b ≠ q ∧ H b = some o := by
  by_cases hb : b = q
  · rw [hb, less_at] at h; cases h
  · rw [less_ne hb] at h; exact ⟨hb, h⟩
section
variable {X : Cx} {N : En} {st : Stmt} {e a b c : Expr} {es : List Expr} {ρ ρ' ρ1 : Rho} {d d1 d2 : PyData} {ds : List PyData} {pos pos' p p2 : Pos} {Φ : Post} {k : Bool} {K : PySem.W.Frag} {P G H G' H' : Hp} {σ : L2.St} {q : Addr}
theorem Sta.fill {i : Nat} {x y : Own} {u : HO} (s : Sta K G H σ ρ) (hi : ρ[i]? = some (.owx x)) (hp : σ[i]? = some (some (.ref q))) (e : Ext G (less H q) G' H') (g0 : G' q = none) (h0 : H' q = some u) (ok : OwnOk K G' q u y) : Sta K G' H' σ (ρ.set i (.owx y)) := by
  refine ⟨e.gh, by rw [List.length_set]; exact s.len, fun j c hc => ?_, fun a b r xs ys h1 h2 h3 h4 => ?_⟩
  · rcases set_get hc with ⟨rfl, rfl⟩ | ⟨hij, hc⟩
    · exact ⟨_, hp, q, u, rfl, g0, h0, ok⟩
    · obtain ⟨ov, o1, o2⟩ := s.at_ j c hc
      refine ⟨ov, o1, ?_⟩
      cases c with
      | any => trivial
      | raw v => exact o2
      | dat d =>
        obtain ⟨v, r1, r2⟩ := o2
        exact ⟨v, r1, r2.mono e.g⟩
      | fdc hs kvs =>
        obtain ⟨r, ob, r1, r2, r3⟩ := o2
        exact ⟨r, ob, r1, e.g _ _ r2, r3.mono e.g⟩
      | pin v φ =>
        obtain ⟨r1, G0, r2, r3⟩ := o2
        exact ⟨r1, G0, r2.trans e.g, r3⟩
      | owx xs =>
        obtain ⟨r, ws, r1, r2, r3, r4⟩ := o2
        subst r1
        have n : r ≠ q := fun z => by
          subst z
          exact hij (s.apart i j r _ _ hi hc hp o1)
        have hl : less H q r = some ws := by rw [less_ne n]; exact r3
        exact ⟨r, ws, rfl, by rw [e.old r (by rw [hl]; exact fun z => nomatch z)]; exact r2, e.h _ _ hl, r4.mono e.g⟩
  · have fix : forall (j : Nat) (ys : Own), (ρ.set i (.owx y))[j]? = some (.owx ys) -> ∃ zs, ρ[j]? = some (.owx zs) := fun j ys h => by
      rcases set_get h with ⟨rfl, _⟩ | ⟨_, o⟩
      · exact ⟨_, hi⟩
      · exact ⟨ys, o⟩
    obtain ⟨z1, f1⟩ := fix a xs h1
    obtain ⟨z2, f2⟩ := fix b ys h2
    exact s.apart a b r z1 z2 f1 f2 h3 h4
theorem ExN.fill (e0 : ExN N G H) (e : Ext G (less H q) G' H') (hq : N.h q = none) : ExN N G' H' := by
  refine ⟨⟨e0.g.trans e.g, fun b o z => ?_, e.gh, fun x hx => ?_⟩, e0.pin.trans e.g⟩
  · have n : b ≠ q := ne_of_none z hq
    exact e.h b o (by rw [less_ne n]; exact e0.h b o z)
  · have n : x ≠ q := fun z => hx (by rw [z]; exact hq)
    have h1 : H x ≠ none := fun z => by
      cases hn : N.h x with
      | none => exact hx hn
      | some o => rw [e0.h x o hn] at z; cases z
    rw [e.old x (by rw [less_ne n]; exact h1), e0.old x hx]
def FrV (K : PySem.W.Frag) (N : En) (P : Hp) (σ : L2.St) (H : Hp) (ρ : Rho) (v : V) (d : PyData) : Prop :=
  ∃ G, ExN N G H ∧ Same P G ∧ Sta K G H σ ρ ∧ (forall (i : Nat) (ds : Own) (p : Addr), ρ[i]? = some (.owx ds) -> σ[i]? = some (some (.ref p)) -> N.h p = none) ∧ Dq K G v d
/-- e is worth d, and the slots are as A says behind it -/
def GEM (X : Cx) (N : En) (e : Expr) (ρ : Rho) (d : PyData) (A : Rho -> Prop) : Prop := forall (P : Hp) (σ : L2.St) (H : Hp) (Q : VK), Fr X.K N P σ H ρ -> (forall v H' ρ', A ρ' -> FrV X.K N P σ H' ρ' v d -> Q v H') -> tw X e σ H Q
def GTM (X : Cx) (N : En) (e : Expr) (ρ : Rho) (k : Bool) (A : Rho -> Prop) : Prop := forall (P : Hp) (σ : L2.St) (H : Hp) (Q : Bool -> Hp -> Prop), Fr X.K N P σ H ρ -> (forall H' ρ', A ρ' -> Fr X.K N P σ H' ρ' -> Q k H') -> twT X e σ H Q
def GWM (X : Cx) (N : En) (e : Expr) (ρ : Rho) (k : Bool) (A : Rho -> Prop) : Prop := forall (P : Hp) (σ : L2.St) (H : Hp) (Q : Bool -> Hp -> Prop), Fr X.K N P σ H ρ -> (forall H' ρ', A ρ' -> Fr X.K N P σ H' ρ' -> Q k H') -> twW X e σ H Q
variable {A B : Rho -> Prop}
theorem gem_of {t : TE} (h : PE X e t) (hv : forall (P : Hp) (σ : L2.St) (H : Hp) (Q : VK), Fr X.K N P σ H ρ -> (forall v H' ρ', A ρ' -> FrV X.K N P σ H' ρ' v d -> Q v H') -> t σ H Q) : GEM X N e ρ d A := fun P σ H Q f q pins s I => ⟨h.run pins s σ H Q I (hv P σ H Q f q)⟩
theorem gtm_of {t : TT} (h : PT X e t) (hv : forall (P : Hp) (σ : L2.St) (H : Hp) (Q : Bool -> Hp -> Prop), Fr X.K N P σ H ρ -> (forall H' ρ', A ρ' -> Fr X.K N P σ H' ρ' -> Q k H') -> t σ H Q) : GTM X N e ρ k A := fun P σ H Q f q pins s I => ⟨h.run pins s σ H Q I (hv P σ H Q f q)⟩
theorem gwm_of {t : TT} (h : PW X e t) (hv : forall (P : Hp) (σ : L2.St) (H : Hp) (Q : Bool -> Hp -> Prop), Fr X.K N P σ H ρ -> (forall H' ρ', A ρ' -> Fr X.K N P σ H' ρ' -> Q k H') -> t σ H Q) : GWM X N e ρ k A := fun P σ H Q f q wh pins s I => ⟨h.run wh pins s σ H Q I (hv P σ H Q f q)⟩
theorem FrV.fr {v : V} (h : FrV K N P σ H ρ v d) : Fr K N P σ H ρ := by
  obtain ⟨G, e1, sp, sta, fr, _⟩ := h
  exact ⟨G, e1, sp, sta, fr⟩
theorem gem_pure (he : GE X e ρ d) : GEM X N e ρ d (· = ρ) := fun P σ H Q f q => f.ev he fun v G H' e1 sp sta fr dv => q v H' ρ rfl ⟨G, e1, sp, sta, fr, dv⟩
theorem gtm_pure (he : GT X e ρ k) : GTM X N e ρ k (· = ρ) := fun P σ H Q f q => f.evT he fun H' f' => q H' ρ rfl f'
theorem gem_is (h : GEM X N e ρ d A) (z : d = d1) : GEM X N e ρ d1 A := z ▸ h
theorem gtm_is {k' : Bool} (h : GTM X N e ρ k A) (z : k = k') : GTM X N e ρ k' A := z ▸ h
theorem gem_mono (h : GEM X N e ρ d A) (hB : forall ρ, A ρ -> B ρ) : GEM X N e ρ d B := fun P σ H Q f q => h P σ H Q f fun v H' ρ' hA fv => q v H' ρ' (hB _ hA) fv
theorem gtm_mono (h : GTM X N e ρ k A) (hB : forall ρ, A ρ -> B ρ) : GTM X N e ρ k B := fun P σ H Q f q => h P σ H Q f fun H' ρ' hA fv => q H' ρ' (hB _ hA) fv
theorem op_fill {r : R2} {ta tb : TE} {Q : VK} (hr : RVD X.K r d1 d2 d) (f : Fr X.K N P σ H ρ) (ha : GEM X N a ρ d1 A) (hb : forall ρ1, A ρ1 -> GEM X N b ρ1 d2 B) (q : forall v H' ρ', B ρ' -> FrV X.K N P σ H' ρ' v d -> Q v H') : tOp r (tw X a) (tw X b) σ H Q :=
  ha P σ H _ f fun v1 H1 ρ1 hA ⟨G1, e1, sp1, sta1, fr1, dv1⟩ => hb ρ1 hA G1 σ H1 _ ⟨G1, e1, Same.refl _, sta1, fr1⟩ fun v2 H2 ρ2 hB ⟨G2, e2, sp2, sta2, fr2, dv2⟩ =>
    hr v1 v2 G2 H2 Q sta2.gh (dv1.mono sp2) dv2 fun v G3 H3 e3 h3 => q v H3 ρ2 hB ⟨G3, e2.trans e3, (sp1.trans sp2).trans e3.g, sta2.ext e3, fr2, h3⟩
theorem gem_bin {op : Operator} (ha : GEM X N a ρ d1 A) (hb : forall ρ1, A ρ1 -> GEM X N b ρ1 d2 B) (h : BinD X op d1 d2 d) : GEM X N (.BinOp a op b pos) ρ d B := by
  obtain ⟨r, ho, hr⟩ := h
  exact gem_of (pe_op ho pe_tw pe_tw) fun P σ H Q f q => op_fill (ta := tw X a) (tb := tw X b) hr f ha hb q
theorem gtm_cmp {op : CmpOp} (ha : GEM X N a ρ d1 A) (hb : forall ρ1, A ρ1 -> GEM X N b ρ1 d2 B) (h : CmpD X op d1 d2 k) (hm : behindInMarks op b = false := by first | exact nomark _ | rfl) : GTM X N (.Compare a [op] [b] pos) ρ k B := by
  obtain ⟨r, ho, hr⟩ := h
  exact gtm_of (pt_cmpR ho pe_tw pe_tw hm) fun P σ H Q f q => op_fill (ta := tw X a) (tb := tw X b) hr f ha hb fun v H' ρ' hB fv => by
    have fv' := fv
    obtain ⟨G, _, _, _, _, dv⟩ := fv
    cases dv
    exact ⟨k, rfl, q H' ρ' hB fv'.fr⟩
theorem gtm_w (h : GWM X N e ρ k A) : GTM X N e ρ k A := gtm_of pw_tw.pt h
theorem gwm_and1 (h : GTM X N a ρ k A) : GWM X N (.BoolOp .And [a] pos) ρ k A := gwm_of (pw_and1 pt_tw) h
theorem gwm_and {k' : Bool} {rest : List Expr} (ha : GTM X N a ρ k A) (hb : k = true -> forall ρ1, A ρ1 -> GWM X N (.BoolOp .And (b :: rest) pos) ρ1 k' B) (hn : k = false -> forall ρ1, A ρ1 -> B ρ1) : GWM X N (.BoolOp .And (a :: b :: rest) pos) ρ (k && k') B :=
  gwm_of (pw_and pt_tw pw_tw) fun P σ H Q f q => ha P σ H _ f fun H1 ρ1 hA f1 => by
    cases k with
    | true =>
      rw [if_pos rfl]
      exact hb rfl ρ1 hA P σ H1 _ f1 fun H2 ρ2 hB f2 => q H2 ρ2 hB f2
    | false =>
      rw [if_neg Bool.false_ne_true]
      exact q H1 ρ1 (hn rfl ρ1 hA) f1
theorem gem_if {c : Expr} (hc : GT X c ρ k) (ha : k = true -> GEM X N a ρ d A) (hb : k = false -> GEM X N b ρ d A) : GEM X N (.IfExp c a b pos) ρ d A :=
  gem_of (pe_ifExp pt_tw pe_tw pe_tw) fun P σ H Q f q => f.evT hc fun H1 f1 => by
    cases k with
    | true => rw [if_pos rfl]; exact ha rfl P σ H1 _ f1 q
    | false => rw [if_neg Bool.false_ne_true]; exact hb rfl P σ H1 _ f1 q
/-! ### statements -/
theorem g1_setM (i : Nat) {x : Str} (he : GEM X N e ρ d A) (h : forall ρ1, A ρ1 -> Φ.nx (ρ1.set i (.dat d))) (hN : X.N.Nodup) (hi : X.N[i]? = some x := by rfl) (hx : Loc X.env.scope x := by first | exact Or.inl rfl | exact Or.inr rfl) (hs : swapsWith e (some (.Name x pos')) pos.line X.env = pure false := by rfl)
    (hf : X.fn x = true ∨ X.env.scope.names.lookup x = some .local := by first | exact .inl rfl | exact .inr rfl | assumption) : G1 X N (.Assign [.Name x pos'] e pos) ρ Φ :=
  g1_of (ps_set hN hi hx pe_tw hs hf) fun P σ H f => he P σ H _ f fun v H' ρ1 hA ⟨G, e1, sp, sta, fr, dv⟩ => ⟨_, ⟨G, e1, sp, sta.set i dv, fresh_set fr⟩, h ρ1 hA⟩
theorem g1_retM (he : GEM X N e ρ d A) (h : Φ.rt d) (hm : forall ρ1, A ρ1 -> MRet ρ1 Φ.mm) : G1 X N (.Return (some e) pos) ρ Φ :=
  g1_of (ps_ret pe_tw) fun P σ H f => he P σ H _ f fun v H' ρ1 hA ⟨G, e1, sp, sta, fr, dv⟩ => ⟨d, ⟨G, e1, sp, dv, (hm ρ1 hA).ok sta⟩, h⟩
theorem g1_ifM {c : Expr} {body orelse : List Stmt} (hc : GTM X N c ρ k A) (ht : k = true -> forall ρ1, A ρ1 -> GS X N body ρ1 Φ) (hf : k = false -> forall ρ1, A ρ1 -> GS X N orelse ρ1 Φ) : G1 X N (.If c body orelse pos) ρ Φ :=
  g1_of (ps_if pt_tw pss_tw pss_tw) fun P σ H f => hc P σ H _ f fun H' ρ1 hA f' => by
    cases k with
    | true => rw [if_pos rfl]; exact ht rfl ρ1 hA P σ H' f'
    | false => rw [if_neg Bool.false_ne_true]; exact hf rfl ρ1 hA P σ H' f'
theorem g1_whileM {c : Expr} {body : List Stmt} (I : Nat -> Rho -> Prop) (m0 : Nat) (h0 : I m0 ρ)
    (hs : forall (m : Nat) (ρ1 : Rho), I m ρ1 -> ∃ k A, GTM X N c ρ1 k A ∧ (k = true -> forall ρ2, A ρ2 -> GS X N body ρ2 { Φ with nx := fun ρ2 => ∃ m', m' < m ∧ I m' ρ2, ct := fun ρ2 => ∃ m', m' < m ∧ I m' ρ2, bk := Φ.nx }) ∧ (k = false -> forall ρ2, A ρ2 -> Φ.nx ρ2))
    (hp : PassesOwn (model X.prog X.w) X.A X.env X.xe) : G1 X N (.While c body [] pos) ρ Φ := by
  refine g1_of (ps_while hp pt_tw pss_tw) fun P σ H f => ?_
  refine ⟨fun m σ H => ∃ ρ1, Fr X.K N P σ H ρ1 ∧ I m ρ1, ⟨m0, ρ, f, h0⟩, fun m σ1 H1 hW => ?_⟩
  obtain ⟨ρ1, f1, i1⟩ := hW
  obtain ⟨k, A, hc, ht, hf⟩ := hs m ρ1 i1
  refine hc P σ1 H1 _ f1 fun H' ρ2 hA f' => ?_
  cases k with
  | true =>
    rw [if_pos rfl]
    refine ⟨fun σ' H' => ∃ ρ2, Fr X.K N P σ' H' ρ2 ∧ ∃ m', m' < m ∧ I m' ρ2, fun σ' H' hN => ?_, ht rfl ρ2 hA P σ1 H' f'⟩
    obtain ⟨ρ2, f2, m', hm, i2⟩ := hN
    exact ⟨m', hm, ρ2, f2, i2⟩
  | false =>
    rw [if_neg Bool.false_ne_true]
    exact ⟨ρ2, f', hf rfl ρ2 hA⟩
theorem g1_appendM (i : Nat) {x : Str} {p1 p2 p3 : Pos} (ho : ρ[i]? = some (.own ds)) (he : GEM X N e ρ d A) (hk : forall ρ1, A ρ1 -> ρ1[i]? = some (.own ds)) (hz : ds.length < 100000) (h : forall ρ1, A ρ1 -> Φ.nx (ρ1.set i (.own (ds ++ [d])))) (hi : X.N[i]? = some x := by rfl) (hv : Vis X.env.scope x := by first | exact Or.inl rfl | exact Or.inr (Or.inl rfl) | exact Or.inr (Or.inr rfl)) (hd : (x == ("__debug__" : Str)) = false := by decide) (hcd : (x == ("__classdict__" : Str)) = false := by decide)
    (hbase : attributeBase (.Name x p1) "append" X.env (eval (.Name x p1) X.env) = eval (.Name x p1) X.env := by rfl)
    (hfew : ((backTo p3 (starEach (e :: []) X.env)).all (fun x => !x.1) && (backToKw p3 (keywordEach [] X.env)).all (fun x => x.1.isSome) && decide ((e :: []).length + ([] : List Keyword).length + (if ([] : List Keyword).isEmpty then 0 else 1) < 30)) = true := by rfl)
    (hline : (p2.endLine == p3.line) = true := by rfl) (hs1 : starEach (e :: []) X.env = (false, eval e X.env) :: starEach [] X.env := by rfl) (hplain : (backTo p3 (starEach [] X.env)).any (·.1) = false := by rfl)
    (hs : swapsWith (.Call (.Attribute (.Name x p1) "append" p2) [e] [] p3) none pos.line X.env = pure false := by rfl) : G1 X N (.Expr (.Call (.Attribute (.Name x p1) "append" p2) [e] [] p3) pos) ρ Φ :=
  g1_of (ps_expr (pe_bm PySem.F.plainAttrs_list PySem.F.slot_list_append PySem.F.type_list_append mt_append (pe_var hi hv hd hcd) (pa_cons pe_tw pa_nil hs1) hbase hfew hline hs1 hplain) hs) fun P σ H f => by
    have f0 := f
    obtain ⟨G, e0, sp, sta, fr⟩ := f0
    obtain ⟨p, vs, o1, o2, o3, o4⟩ := sta.own ho
    refine ⟨.ref p, o1, .inl ⟨rfl, _, .inl (.inl o3)⟩, ?_⟩
    refine he P σ H _ f fun v H' ρ1 hA ⟨G', e1, sp1, sta', fr', dv⟩ => ?_
    obtain ⟨p', vs', r1, r2, r3, r4⟩ := sta'.own (hk ρ1 hA)
    rw [o1] at r1
    cases r1
    refine ⟨p, vs', v, rfl, rfl, r3, by rw [r4.length]; exact Nat.lt_of_lt_of_le hz (by decide), ?_⟩
    exact ⟨_, ⟨G', mut_ext e1 r2 (fr' i _ p (hk ρ1 hA) o1), sp1, sta'.mutOwn (hk ρ1 hA) o1 (r4.append (.cons dv .nil)), fresh_mut (hk ρ1 hA) fr'⟩, h ρ1 hA⟩
/-- x[k] = e, x the caller's dict -/
theorem g1_mput (i : Nat) {x : Str} {kvs : List (PyData × PyData)} {k : PyData} {p1 p2 : Pos} (hu : X.A.units + 64 < cLine) (hk : GE X b ρ k) (he : GE X e ρ d) (hkey : isKey k = true) (hz : kvs.length < 1000000) (h : Φ.nx (ρ.set i (.owx (.memo q (hsW X.w) (dPut kvs k d))))) (ho : ρ[i]? = some (.owx (.memo q (hsW X.w) kvs)) := by rfl) (hi : X.N[i]? = some x := by rfl) (hv : Vis X.env.scope x := by first | exact Or.inl rfl | exact Or.inr (Or.inl rfl) | exact Or.inr (Or.inr rfl)) (hd : (x == ("__debug__" : Str)) = false := by decide) (hcd : (x == ("__classdict__" : Str)) = false := by decide)
    (hs : swapsWith e (some (.Subscript (.Name x p1) b p2)) pos.line X.env = pure false := by rfl) : G1 X N (.Assign [.Subscript (.Name x p1) b p2] e pos) ρ Φ :=
  g1_of (ps_xdput hu (pe_var hi hv hd hcd) pe_tw pe_tw hs) fun P σ H f => by
    obtain ⟨G, e0, sp, sta, fr⟩ := f
    refine he σ G H _ sta fun v G1 H1 e1 dv => ?_
    obtain ⟨p, u, o1, o2, o3, eq, ob, rfl, o4⟩ := (sta.ext e1).owx ho
    refine ⟨.ref p, o1, hk σ G1 H1 _ (sta.ext e1) fun y G2 H2 e2 dk => ?_⟩
    obtain ⟨b', rfl⟩ := dk.key hkey
    have sta2 := (sta.ext e1).ext e2
    obtain ⟨p', u', r1, r2, r3, eq', ob', rfl, xs, hdo, ent⟩ := sta2.owx ho
    rw [o1] at r1
    cases r1
    refine ⟨p, b', xs, nk k, rfl, rfl, ⟨⟨ob', r3, hdo⟩, ent.keys e2.gh⟩, by rw [ent.len]; exact hz, ⟨k, dk.mono e2.gh, hkey, rfl⟩, fun o' u ru hd' => ?_⟩
    exact ⟨_, ⟨G2, mut_ext ((e0.trans e1).trans e2) r2 (fr i _ p ho o1), (sp.trans e1.g).trans e2.g, sta2.mutOwx (y := .memo q (hsW X.w) (dPut kvs k d)) ho o1 ⟨eq', o', rfl, _, hd', ent.put dk hkey ru (dv.mono e2.g)⟩, fresh_mut ho fr⟩, h⟩
end
/-! ### defs that fill a dict of the caller's: their last parameter -/
abbrev RelM := List PyData -> (List (PyData × PyData) -> Prop) -> PyData -> Prop
def spM (K : PySem.W.Frag) (hs : NestedKey -> Int) (R : RelM) : Sp := fun vs H Q E => ∃ G ds q o kvs I d ws, Same G H ∧ vs = ws ++ [.ref q] ∧ DqAll K G ws ds ∧ G q = none ∧ H q = some (dR q o) ∧ DicV K G hs q o kvs ∧ I kvs ∧ R ds I d ∧
  forall v G' H', Ext G (less H q) G' H' -> MemOk K G' H' (some ⟨q, hs, I⟩) -> Dq K G' v d -> Q v H'
structure CanM (P : Program) (w : World) (K : PySem.W.Frag) (mg : Str -> Option Value) (base : Heap) (k : Nat) (x : Str) (R : RelM) : Prop where
  ex : ∃ f fd ps, mg x = some (.ref f) ∧ PySem.W.keepIn K (.ref f) = true ∧ Binds K fd ps [] ∧ FnOk P w K mg base (L2.CX P w) k f fd ps (spM K (hsW w) R)
theorem CanM.mono {P : Program} {w : World} {K : PySem.W.Frag} {mg : Str -> Option Value} {base : Heap} {j k : Nat} {x : Str} {R : RelM} (c : CanM P w K mg base j x R) (h : j ≤ k) : CanM P w K mg base k x R := by
  obtain ⟨f, fd, ps, a, b, d, e⟩ := c.ex
  exact ⟨f, fd, ps, a, b, d, e.mono h⟩
theorem CanM.imp {P : Program} {w : World} {K : PySem.W.Frag} {mg : Str -> Option Value} {base : Heap} {k : Nat} {x : Str} {R R' : RelM} (c : CanM P w K mg base k x R) (h : forall ds I d, R' ds I d -> R ds I d) : CanM P w K mg base k x R' := by
  obtain ⟨f, fd, ps, a, b, d, e⟩ := c.ex
  exact ⟨f, fd, ps, a, b, d, e.imp fun vs H Q E ⟨G, ds, q, o, kvs, I, d, ws, h1, h2, h3, h4, h5, h6, h7, h8, h9⟩ => ⟨G, ds, q, o, kvs, I, d, ws, h1, h2, h3, h4, h5, h6, h7, h _ _ _ h8, h9⟩⟩
def startM (n : Nat) (ds : List PyData) (q : Addr) (hs : NestedKey -> Int) (kvs : List (PyData × PyData)) : Rho := ds.map Cell.dat ++ .owx (.memo q hs kvs) :: List.replicate (n - (ds.length + 1)) .any
theorem sta_startM {K : PySem.W.Frag} {G H : Hp} {ws : List V} {ds : List PyData} {Nm : List Str} {q : Addr} {o : Obj} {hs : NestedKey -> Int} {kvs : List (PyData × PyData)} (gh : Same G H) (dv : DqAll K G ws ds) (g0 : G q = none) (h0 : H q = some (dR q o)) (dq : DicV K G hs q o kvs) :
    Sta K G H (start Nm (ws ++ [.ref q])) (startM Nm.length ds q hs kvs) ∧ forall (i : Nat) (es : Own), (startM Nm.length ds q hs kvs)[i]? = some (.owx es) -> i = ds.length ∧ (start Nm (ws ++ [.ref q]))[i]? = some (some (.ref q)) := by
  have hl := dv.length
  have st1 : forall i, i = ds.length -> (start Nm (ws ++ [.ref q]))[i]? = some (some (.ref q)) := fun i hi => by
    subst hi
    unfold L2.start
    rw [List.getElem?_append_left (by simp [hl]), List.getElem?_map, List.getElem?_append_right (by omega), hl, Nat.sub_self]
    rfl
  have own : forall (i : Nat) (es : Own), (startM Nm.length ds q hs kvs)[i]? = some (.owx es) -> i = ds.length := fun i es h => by
    unfold startM at h
    by_cases hi : i < ds.length
    · rw [List.getElem?_append_left (by simpa using hi), List.getElem?_map] at h
      cases hd : ds[i]? with
      | none => rw [hd] at h; cases h
      | some d => rw [hd] at h; cases h
    · rw [List.getElem?_append_right (by simpa using hi), List.length_map] at h
      cases hj : i - ds.length with
      | zero => omega
      | succ j =>
        rw [hj, List.getElem?_cons_succ, List.getElem?_replicate] at h
        split at h <;> cases h
  refine ⟨⟨gh, ?_, fun i c hc => ?_, fun i j p es fs h1 h2 _ _ => (own i es h1).trans (own j fs h2).symm⟩, fun i es h => ⟨own i es h, st1 i (own i es h)⟩⟩
  · unfold L2.start startM
    simp [hl]
  · unfold startM at hc
    have hlen : i < (List.map Cell.dat ds ++ Cell.owx (.memo q hs kvs) :: List.replicate (Nm.length - (ds.length + 1)) Cell.any).length := (List.getElem?_eq_some_iff.mp hc).1
    by_cases hi : i < ds.length
    · rw [List.getElem?_append_left (by simpa using hi), List.getElem?_map] at hc
      cases hd : ds[i]? with
      | none => rw [hd] at hc; cases hc
      | some d =>
        rw [hd] at hc
        cases hc
        obtain ⟨v, hv, dq⟩ := dv.get hd
        refine ⟨some v, ?_, v, rfl, dq⟩
        unfold L2.start
        rw [List.getElem?_append_left (by simp [hl]; omega), List.getElem?_map, List.getElem?_append_left (by omega), hv]
        rfl
    · rw [List.getElem?_append_right (by simpa using hi), List.length_map] at hc
      cases hj : i - ds.length with
      | zero =>
        rw [hj] at hc
        cases hc
        exact ⟨_, st1 i (by omega), q, dR q o, rfl, g0, h0, rfl, o, rfl, dq⟩
      | succ j =>
        rw [hj, List.getElem?_cons_succ, List.getElem?_replicate] at hc
        split at hc
        · cases hc
          have : i < (start Nm (ws ++ [.ref q])).length := by
            unfold L2.start
            simp only [List.length_append, List.length_map, List.length_replicate, List.length_cons, List.length_nil] at hlen ⊢
            omega
          exact ⟨_, List.getElem?_eq_getElem this, trivial⟩
        · cases hc
theorem can_ofM {P : Program} {w : World} {K : PySem.W.Frag} {mg : Str -> Option Value} {base : Heap} {x : Str} {st : Stmt} {f : Addr} {fd : FuncData} {Nm ps : List Str} {k : Nat} {R : RelM} (F : FnP K x st f fd) (hm : mg x = some (.ref f)) (S : FnScope Nm ps (defScope st))
    (hb : forall (kV doc pm : Value) (an : Option Addr) (cdv ct : Value) (us : List Value), us.length = ps.length -> bindArgs (PySem.W.fnOf x x (defArgs st) (defBody st) (defScope st) .none kV doc pm an cdv ct) ⟨us, []⟩ = pure (ps.zip us)) (hlen : forall ds I d, R ds I d -> ds.length + 1 = ps.length)
    (body : forall cdv A outer s H E (N : En) ds I d q kvs, Room k (cxD P w K mg base Nm x st f cdv A outer s H E).A -> R ds I d -> I kvs -> GS (cxD P w K mg base Nm x st f cdv A outer s H E) N (defBody st) (startM Nm.length ds q (hsW w) kvs) { nx := fun _ => False, rt := fun d' => d' = d, mm := some ⟨q, hsW w, I⟩ }) :
    CanM P w K mg base (k + 1) x R := by
  refine ⟨f, fd, ps, hm, F.kp, F.bindsN hb, F.ok S (fun vs H Q E ⟨G, ds, q, o, kvs, I, d, ws, _, e, dv, _, _, _, _, hR, _⟩ => by rw [e, List.length_append, dv.length]; exact hlen ds I d hR) fun cdv A outer s H vs Q E hr hsp => ?_⟩
  obtain ⟨G, ds, q, o, kvs, I, d, ws, gh, rfl, dv, g0, h0, dq, hI, hR, hq⟩ := hsp
  refine ⟨tws _ _, pss_tw, ?_⟩
  obtain ⟨st0, ow⟩ := sta_startM (Nm := Nm) gh dv g0 h0 dq
  have fr0 : Fr K ⟨G, less H q, fun _ => none⟩ G (start Nm (ws ++ [.ref q])) H (startM Nm.length ds q (hsW w) kvs) := by
    refine ⟨G, ⟨⟨Same.refl _, fun b o z => (less_some z).2, gh, fun _ _ => rfl⟩, fun _ _ z => nomatch z⟩, Same.refl _, st0, fun i es p h1 h2 => ?_⟩
    obtain ⟨_, e⟩ := ow i es h1
    rw [e] at h2
    cases h2
    exact less_at
  refine tws_mono ?_ (body cdv A outer s H E ⟨G, less H q, fun _ => none⟩ ds I d q kvs hr hR hI G (L2.start Nm (ws ++ [V.ref q])) H fr0)
  refine ⟨fun σ H' hn => ?_, fun v H' hn => ?_, fun _ _ z => ?_, fun _ _ z => ?_⟩
  · obtain ⟨ρ, _, hn⟩ := hn
    exact hn.elim
  · obtain ⟨d', ⟨G', e1, _, dq', hm'⟩, hn⟩ := hn
    have hn' : d' = d := hn
    subst hn'
    exact hq v G' H' e1.toExt hm' dq'
  · obtain ⟨_, _, z⟩ := z; exact z
  · obtain ⟨_, _, z⟩ := z; exact z
section
variable {X : Cx} {N : En} {e : Expr} {es : List Expr} {ρ : Rho} {d : PyData} {ds : List PyData} {pos p p2 : Pos} {k k' : Nat} {x : Str} {R : RelM} {I : List (PyData × PyData) -> Prop}
/-- arguments, the last one the dict in slot i -/
def GAm (X : Cx) (es : List Expr) (ρ : Rho) (ds : List PyData) (i : Nat) : Prop := forall (σ : L2.St) (G H : Hp) (Q : List V -> Hp -> Prop), Sta X.K G H σ ρ -> (forall ws q G' H', Ext G H G' H' -> DqAll X.K G' ws ds -> σ[i]? = some (some (.ref q)) -> Q (ws ++ [.ref q]) H') -> twA X es σ H Q
theorem gam_last (i : Nat) {y : Str} {o : Own} (ho : ρ[i]? = some (.owx o) := by rfl) (hi : X.N[i]? = some y := by rfl) (hv : Vis X.env.scope y := by first | exact Or.inl rfl | exact Or.inr (Or.inl rfl) | exact Or.inr (Or.inr rfl)) (hd : (y == ("__debug__" : Str)) = false := by decide) (hcd : (y == ("__classdict__" : Str)) = false := by decide)
    (hst : starEach [.Name y p] X.env = (false, eval (.Name y p) X.env) :: starEach [] X.env := by rfl) : GAm X [.Name y p] ρ [] i := fun σ G H Q s q pos pins s' I => by
  obtain ⟨a, u, h1, _⟩ := s.owx ho
  exact ⟨(pa_cons (pe_var hi hv hd hcd) pa_nil hst).run pos pins s' σ H Q I ⟨.ref a, h1, q [] a G H (.refl s.gh) .nil h1⟩⟩
theorem gam_cons {i : Nat} (h : GE X e ρ d) (hr : GAm X es ρ ds i) (hst : starEach (e :: es) X.env = (false, eval e X.env) :: starEach es X.env := by rfl) : GAm X (e :: es) ρ (d :: ds) i := fun σ G H Q s q pos pins s' I =>
  ⟨(pa_cons pe_tw pa_tw hst).run pos pins s' σ H Q I (h σ G H _ s fun v G1 H1 e1 dv => hr σ G1 H1 _ (s.ext e1) fun ws b G2 H2 e2 dvs hb => q (v :: ws) b G2 H2 (e1.trans e2) (.cons (dv.mono e2.g) dvs) hb)⟩
/-- the own dict of slot i -/
def isOwnD (hs : NestedKey -> Int) (kvs : List (PyData × PyData)) (o : Own) : Prop := o = .dict hs kvs ∨ ∃ q, o = .memo q hs kvs
def reD (o : Own) (kvs : List (PyData × PyData)) : Own := match o with
  | .list ds => .list ds
  | .dict hs _ => .dict hs kvs
  | .memo q hs _ => .memo q hs kvs
theorem gem_callO (i : Nat) {o : Own} {kvs : List (PyData × PyData)} (c : CanM X.prog X.w X.K X.mg X.base k x R) (hr : Room k' X.A) (ha : GAm X (e :: es) ρ ds i) (hR : R ds I d) (hI : I kvs) (ho : ρ[i]? = some (.owx o)) (hod : isOwnD (hsW X.w) kvs o) (hk : k ≤ k' := by decide) (hg : Gl X x := by rfl) (hdb : (x == ("__debug__" : Str)) = false := by decide) (he : starEach (e :: es) X.env = (false, eval e X.env) :: starEach es X.env := by rfl) (hpl : (backTo pos (starEach es X.env)).any (·.1) = false := by rfl) :
    GEM X N (.Call (.Name x p) (e :: es) [] pos) ρ d (fun ρ' => ∃ kvs', I kvs' ∧ ρ' = ρ.set i (.owx (reD o kvs'))) := by
  obtain ⟨f, fd, ps, hm, kp, hb, F⟩ := c.ex
  refine gem_of (pe_call F (hr.mono hk) hg hm kp hb .nil passL pa_tw hdb he hpl) fun P σ H Q fr0 q => ?_
  obtain ⟨G, e0, sp, sta, fr⟩ := fr0
  refine ha σ G H _ sta fun ws b G1 H1 e1 dv hb1 => ?_
  have sta1 := sta.ext e1
  obtain ⟨b', u, o1, o2, o3, o4⟩ := sta1.owx ho
  rw [hb1] at o1
  cases o1
  have hnb := fr i _ b ho hb1
  obtain ⟨ob, rfl, dic⟩ : ∃ ob, u = dR b ob ∧ DicV X.K G1 (hsW X.w) b ob kvs := by
    rcases hod with rfl | ⟨q', rfl⟩
    · exact o4
    · exact o4.2
  refine ⟨G1, ds, b, ob, kvs, I, d, ws, e1.gh, by rw [List.append_nil], dv, o2, o3, dic, hI, hR, fun v G' H' e2 mk dq => ?_⟩
  obtain ⟨ob', kvs', m1, m2, m3, m4⟩ := mk
  refine q v H' _ ⟨kvs', m4, rfl⟩ ⟨G', (e0.trans e1).fill e2 hnb, (sp.trans e1.g).trans e2.g, sta1.fill ho hb1 e2 m1 m2 ?_, fresh_mut ho fr, dq⟩
  rcases hod with rfl | ⟨q', rfl⟩
  · exact ⟨ob', rfl, m3⟩
  · exact ⟨o4.1, ob', rfl, m3⟩
theorem gem_callD (i : Nat) {kvs : List (PyData × PyData)} (c : CanM X.prog X.w X.K X.mg X.base k x R) (hr : Room k' X.A) (ha : GAm X (e :: es) ρ ds i) (hR : R ds I d) (hI : I kvs) (ho : ρ[i]? = some (.dic (hsW X.w) kvs) := by rfl) (hk : k ≤ k' := by decide) (hg : Gl X x := by rfl) (hdb : (x == ("__debug__" : Str)) = false := by decide) (he : starEach (e :: es) X.env = (false, eval e X.env) :: starEach es X.env := by rfl) (hpl : (backTo pos (starEach es X.env)).any (·.1) = false := by rfl) :
    GEM X N (.Call (.Name x p) (e :: es) [] pos) ρ d (fun ρ' => ∃ kvs', I kvs' ∧ ρ' = ρ.set i (.dic (hsW X.w) kvs')) := gem_callO i c hr ha hR hI ho (.inl rfl) hk hg hdb he hpl
theorem gem_callM (i : Nat) {q : Addr} {kvs : List (PyData × PyData)} (c : CanM X.prog X.w X.K X.mg X.base k x R) (hr : Room k' X.A) (ha : GAm X (e :: es) ρ ds i) (hR : R ds I d) (hI : I kvs) (ho : ρ[i]? = some (.owx (.memo q (hsW X.w) kvs)) := by rfl) (hk : k ≤ k' := by decide) (hg : Gl X x := by rfl) (hdb : (x == ("__debug__" : Str)) = false := by decide) (he : starEach (e :: es) X.env = (false, eval e X.env) :: starEach es X.env := by rfl) (hpl : (backTo pos (starEach es X.env)).any (·.1) = false := by rfl) :
    GEM X N (.Call (.Name x p) (e :: es) [] pos) ρ d (fun ρ' => ∃ kvs', I kvs' ∧ ρ' = ρ.set i (.owx (.memo q (hsW X.w) kvs'))) := gem_callO i c hr ha hR hI ho (.inr ⟨q, rfl⟩) hk hg hdb he hpl
/-- arguments, the last one {} -/
def GAn (X : Cx) (es : List Expr) (ρ : Rho) (ds : List PyData) : Prop := forall (σ : L2.St) (G H : Hp) (Q : List V -> Hp -> Prop), Sta X.K G H σ ρ -> (forall ws q o G' H', Ext G H G' H' -> DqAll X.K G' ws ds -> H' q = none -> DicO (hsW X.w) q o [] -> Q (ws ++ [.ref q]) (upd H' q (dR q o))) -> twA X es σ H Q
theorem gan_last (hst : starEach [.Dict [] [] p] X.env = (false, eval (.Dict [] [] p) X.env) :: starEach [] X.env := by rfl) : GAn X [.Dict [] [] p] ρ [] := fun σ G H Q s q pos pins s' I =>
  ⟨(pa_cons pe_xdnew pa_nil hst).run pos pins s' σ H Q I fun a o ha ho => q [] a o G H (.refl s.gh) .nil ha ho⟩
theorem gan_cons (h : GE X e ρ d) (hr : GAn X es ρ ds) (hst : starEach (e :: es) X.env = (false, eval e X.env) :: starEach es X.env := by rfl) : GAn X (e :: es) ρ (d :: ds) := fun σ G H Q s q pos pins s' I =>
  ⟨(pa_cons pe_tw pa_tw hst).run pos pins s' σ H Q I (h σ G H _ s fun v G1 H1 e1 dv => hr σ G1 H1 _ (s.ext e1) fun ws b o G2 H2 e2 dvs hb ho => q (v :: ws) b o G2 H2 (e1.trans e2) (.cons (dv.mono e2.g) dvs) hb ho)⟩
theorem ge_callN (c : CanM X.prog X.w X.K X.mg X.base k x R) (hr : Room k' X.A) (ha : GAn X (e :: es) ρ ds) (hR : R ds I d) (hI : I []) (hk : k ≤ k' := by decide) (hg : Gl X x := by rfl) (hdb : (x == ("__debug__" : Str)) = false := by decide) (he : starEach (e :: es) X.env = (false, eval e X.env) :: starEach es X.env := by rfl) (hpl : (backTo pos (starEach es X.env)).any (·.1) = false := by rfl) :
    GE X (.Call (.Name x p) (e :: es) [] pos) ρ d := by
  obtain ⟨f, fd, ps, hm, kp, hb, F⟩ := c.ex
  refine ge_of (pe_call F (hr.mono hk) hg hm kp hb .nil passL pa_tw hdb he hpl) fun σ G H Q s q => ha σ G H _ s fun ws b o G1 H1 e1 dv hb1 ho => ?_
  refine ⟨G1, ds, b, o, [], I, d, ws, e1.gh.trans (same_new hb1), by rw [List.append_nil], dv, e1.gh.free hb1, upd_same, ⟨[], ho, trivial⟩, hI, hR, fun v G' H' e2 mk dq => ?_⟩
  refine q v G' H' ⟨e1.g.trans e2.g, fun y u z => ?_, e2.gh, fun y hy => ?_⟩ dq
  · have hz := e1.h y u z
    have n : y ≠ b := ne_of_none hz hb1
    exact e2.h y u (by rw [less_ne n, upd_ne n]; exact hz)
  · have h1 : H1 y ≠ none := fun z => by
      cases hn : H y with
      | none => exact hy hn
      | some o => rw [e1.h y o hn] at z; cases z
    have n : y ≠ b := fun z => h1 (by rw [z]; exact hb1)
    rw [e2.old y (by rw [less_ne n, upd_ne n]; exact h1), e1.old y hy]
end
end Gd

namespace Gd
open PySem PySem.Spec L2 PySem.W
/-! ### min over data -/
section
variable {prog : Program} {w : World} {A : Around} {E : Value → Shared → Prop} {s : Shared}
theorem min_list_ix {l : Addr} {vs : Array Value} {x : PyData} {xs : List PyData} {as : List Addr} {Q : Value → Shared → Prop} (hh : A.handled = none) (hl : s.heap.IsList l vs) (hr : ReadsAll s.heap vs.toList (x :: xs) as) (ha : AlikeAll (x :: xs)) (hu : A.units + 1 + PyData.depthAll (x :: xs) < cLine)
    (h : forall (i : Nat) v h' tk, vs[i]? = some v -> (x :: xs)[i]? = some (minD x xs) -> (forall b o, s.heap.get? b = some o -> h'.get? b = some o) -> Q v { s with heap := h', toks := tk }) :
    wpAny (model prog w) A (call (.builtin "min") [.ref l]) Q E s := by
  have hn : vs.size = xs.length + 1 := readsAll_len hr
  refine call_min_walkH (iter_listW (A := A.in1) hh hl fun s₂ e W st hfp hw hk => ?_)
  refine ⟨_, _, _, _, _, _, _, s.heap, _, rfl, W, st, hfp, by omega, hw, hk, cmpIn_lt (A := A.in1) hr ha (by show A.units + 1 + _ < _; exact hu), fun v s' hP m => ?_⟩
  obtain ⟨h', tk, rfl, hk'⟩ := moved_old e rfl m
  have e1 : vs.size - 1 = xs.length := by omega
  obtain ⟨e3, e2⟩ := argBest_fold dataLt PyData.none x xs xs.length (Nat.le_refl _)
  rw [List.take_length] at e2
  rw [e1] at hP
  refine h _ v h' tk hP ?_ hk'
  have hlt : argBest (fun i j => dataLt ((x :: xs).getD i .none) ((x :: xs).getD j .none)) xs.length < (x :: xs).length := by rw [List.length_cons]; omega
  rw [List.getD_eq_getElem?_getD, List.getElem?_eq_getElem hlt] at e2
  rw [List.getElem?_eq_getElem hlt]
  exact congrArg some e2
theorem min_two_ix {a b' : Value} {x y : PyData} {as : List Addr} {Q : Value → Shared → Prop} (hh : A.handled = none) (hr : ReadsAll s.heap [a, b'] [x, y] as) (ha : AlikeAll [x, y]) (hu : A.units + 1 + PyData.depthAll [x, y] < cLine)
    (h : forall h' tk, (forall c o, s.heap.get? c = some o -> h'.get? c = some o) -> Q (if dataLt y x = true then b' else a) { s with heap := h', toks := tk }) :
    wpAny (model prog w) A (call (.builtin "min") [a, b']) Q E s := by
  have hname : (toString "min" ++ toString ".loop" : String) = "min.loop" := by decide
  refine call_function_tree F.kind_min F.plain_min F.entry_min (F.args_min2 _ _) ?_
  show wpAny _ A.in1 (Builtin.Builtins.bindParams "min" ["key", "default"] 0 ⟨[], []⟩ >>= _) _ _ s
  refine wpAny_bind (wpAny_of_eq (show Builtin.Builtins.bindParams "min" ["key", "default"] 0 ⟨[], []⟩ = pure [none, none] from rfl) ?_)
  show wpAny _ A.in1 (newTuple [a, b'] >>= _) _ _ s
  refine wpAny_bind (wpAny_newObj_type ?_)
  have hT : (s.heap.push { cls := .type "tuple", data := .seq #[a, b'] }).IsTuple s.heap.objs.size #[a, b'] := ⟨_, Heap.get?_push_size _ rfl, rfl, 0, rfl⟩
  have rk : forall b o, s.heap.get? b = some o -> (s.heap.push { cls := .type "tuple", data := .seq #[a, b'] }).get? b = some o := fun b o e => Heap.get?_push_of_some _ e
  have hit : wpAny (model prog w) A.in1 (pyIter (.ref s.heap.objs.size)) (fun it s₂ => ∃ I fp wr G n P St H bt, it = .ref I ∧ WalksS prog w A.in1 I fp wr G n P St ∧ St 0 s₂ ∧ (∀ b ∈ fp, b < s₂.heap.objs.size) ∧ 0 < n ∧
      (∀ b o, H.get? b = some o → b ∉ wr) ∧ (∀ b o, H.get? b = some o → s₂.heap.get? b = some o) ∧ CmpIn prog w A.in1 .Lt H P bt ∧ ∀ v s', P (argBest bt (n - 1)) v → Moved wr G s₂ s' → Q v s') E { s with heap := s.heap.push { cls := .type "tuple", data := .seq #[a, b'] } } := by
    refine iter_tupleW (A := A.in1) hh hT fun s₂ e W st hfp hw hk => ?_
    refine ⟨_, _, _, _, _, _, _, s.heap.push { cls := .type "tuple", data := .seq #[a, b'] }, _, rfl, W, st, hfp, Nat.succ_pos 1, hw, hk, cmpIn_lt (A := A.in1) (s := { s with heap := s.heap.push { cls := .type "tuple", data := .seq #[a, b'] } }) (vs := #[a, b']) (PyProof.Rows.ReadsAll.keeps rk hr) ha (by show A.units + 1 + _ < _; exact hu), fun v s' hP m => ?_⟩
    obtain ⟨h', tk, rfl, hk'⟩ := moved_old e rfl m
    have hv : v = if dataLt y x = true then b' else a := by
      have e1 : argBest (fun i j => dataLt ([x, y].getD i .none) ([x, y].getD j .none)) 1 = if dataLt y x = true then 1 else 0 := rfl
      have hP' : #[a, b'][argBest (fun i j => dataLt ([x, y].getD i .none) ([x, y].getD j .none)) 1]? = some v := hP
      rw [e1] at hP'
      by_cases hlt : dataLt y x = true
      · rw [if_pos hlt] at hP' ⊢
        exact (Option.some.inj hP').symm
      · rw [if_neg hlt] at hP' ⊢
        exact (Option.some.inj hP').symm
    rw [hv]
    exact h h' tk fun c o e => hk' c o (rk c o e)
  refine wpAny_bind (wpAny_mono hit (fun it s₂ h₂ => ?_) fun _ _ e => e)
  obtain ⟨I, fp, wr, G, n, P, St, H, bt, rfl, W, hst, hfp, hn, hw, hkeep, hcmp, hQ⟩ := h₂
  refine wpAny_bind (wpAny_newObj_type ?_)
  have hSf : s₂.heap.objs.size ∉ fp := fun hm => Nat.lt_irrefl _ (hfp _ hm)
  rw [hname]
  refine wpAny_pure ⟨plainId_quiet F.plain_min_loop _, codeAny_min_loop_firstH W H hw bt hcmp s₂.heap.objs.size hSf (fresh_in hkeep) _ hn (fun b o e => Heap.get?_push_of_some _ (hkeep b o e)) (W.frame 0 s₂ _ s₂.toks hst (Nat.le_refl _) fun b _ o e => Heap.get?_push_of_some _ e) (Heap.get?_push_size _ rfl) fun v s' hP hm => ?_⟩
  exact hQ v s' hP (Moved.drop_new (tk := s₂.toks) hm (Nat.le_refl _))
end
section
variable {X : Cx} {N : En} {a b : Expr} {ρ : Rho} {d1 d2 : PyData} {pos p : Pos}
def rMinL (K : PySem.W.Frag) : List V → Hp → VK → Prop := fun vs H Q => ∃ (l : Addr) (ws : List V) (x : PyData) (xs : List PyData), vs = [V.ref l] ∧ SqL K H l ws ∧ DpAll K H ws (x :: xs) ∧ AlikeAll (x :: xs) ∧ PyData.depthAll (x :: xs) ≤ 60 ∧ forall (i : Nat) v, ws[i]? = some v -> (x :: xs)[i]? = some (minD x xs) -> Q v H
theorem vals_get : forall {xs : List V} {us : List Value} {i : Nat} {u : Value}, Vals xs us -> us[i]? = some u -> ∃ x, xs[i]? = some x ∧ RelV x u
  | _, _, _, _, .nil, e => by simp at e
  | _, _, 0, _, .cons r _, e => by simp at e; subst e; exact ⟨_, rfl, r⟩
  | _, _, i + 1, _, .cons _ t, e => by
    obtain ⟨x, h1, h2⟩ := vals_get (i := i) t (by simpa using e)
    exact ⟨x, by simpa using h1, h2⟩
theorem cr_minL (hc : X.calm = true) (hu : X.A.units + 64 < cLine) : CallR X (.builtin "min") (rMinL X.K) := by
  intro pins s σ H vs us Q I r h
  obtain ⟨l, ws, x, xs, rfl, hs, hd, ha, h60, q⟩ := h
  obtain ⟨its, rv, hl, _⟩ := I.list hs
  obtain ⟨as, hr⟩ := Dp.readsAll I _ _ _ hd rv
  rw [Vals.ref1 r]
  refine min_list_ix (I.ok.hd hc) hl.isList (as := as) (x := x) (xs := xs) hr ha (by omega) fun i v h' tk hv he hk => ?_
  obtain ⟨y, h1, h2⟩ := vals_get (i := i) (u := v) rv (by simpa using hv)
  exact ⟨y, H, I.kept hk, h2, q i y h1 he⟩
theorem k_minL {x : PyData} {xs : List PyData} (hc : X.calm = true) (hu : X.A.units + 64 < cLine) (hn : noDictAll (x :: xs) = true) (ha : AlikeAll (x :: xs)) (h60 : PyData.depthAll (x :: xs) ≤ 60) : CalD X (.builtin "min") [.list (x :: xs)] (minD x xs) := ⟨_, cr_minL hc hu, fun vs G H Q gh dv q => by
  cases dv with
  | cons h1 h2 =>
    cases h2
    cases h1 with
    | lst s1 a1 =>
      refine ⟨_, _, x, xs, rfl, .inl (.inl (gh _ _ s1)), (a1.mono gh).dp hn, ha, h60, fun i v hv he => ?_⟩
      obtain ⟨w, e1, e2⟩ := a1.get he
      rw [hv] at e1
      cases e1
      exact q v G H (.refl gh) e2⟩
def rMin2D (K : PySem.W.Frag) : List V → Hp → VK → Prop := fun vs H Q => ∃ (v1 v2 : V) (x y : PyData), vs = [v1, v2] ∧ Dp K H v1 x ∧ Dp K H v2 y ∧ AlikeAll [x, y] ∧ PyData.depthAll [x, y] ≤ 60 ∧ Q (if dataLt y x = true then v2 else v1) H
theorem cr_min2D (hc : X.calm = true) (hu : X.A.units + 64 < cLine) : CallR X (.builtin "min") (rMin2D X.K) := by
  intro pins s σ H vs us Q I r h
  obtain ⟨v1, v2, x, y, rfl, h1, h2, ha, h60, q⟩ := h
  obtain ⟨u, u2, rfl, r1, r2⟩ := vals2 r
  obtain ⟨as, q1⟩ := Dp.reads I _ _ _ h1 r1
  obtain ⟨bs, q2⟩ := Dp.reads I _ _ _ h2 r2
  refine min_two_ix (I.ok.hd hc) (ReadsAll.cons q1 (ReadsAll.cons q2 ReadsAll.nil)) ha (by omega) fun h' tk hk => ?_
  by_cases hlt : dataLt y x = true
  · rw [if_pos hlt] at q ⊢
    exact ⟨v2, H, I.kept hk, r2, q⟩
  · rw [if_neg hlt] at q ⊢
    exact ⟨v1, H, I.kept hk, r1, q⟩
theorem k_min2D (hc : X.calm = true) (hu : X.A.units + 64 < cLine) (hn1 : noDict d1 = true) (hn2 : noDict d2 = true) (ha : AlikeAll [d1, d2]) (h60 : PyData.depthAll [d1, d2] ≤ 60) : CalD X (.builtin "min") [d1, d2] (if dataLt d2 d1 = true then d2 else d1) := ⟨_, cr_min2D hc hu, fun vs G H Q gh dv q => by
  cases dv with
  | cons h1 h2 =>
    cases h2 with
    | cons h3 h4 =>
      cases h4
      refine ⟨_, _, d1, d2, rfl, (h1.mono gh).dp hn1, (h3.mono gh).dp hn2, ha, h60, ?_⟩
      by_cases hlt : dataLt d2 d1 = true
      · rw [if_pos hlt] at q ⊢
        exact q _ G H (.refl gh) h3
      · rw [if_neg hlt] at q ⊢
        exact q _ G H (.refl gh) h1⟩
end
end Gd

namespace Gd
open PySem PySem.Spec L2 PySem.W
/-! ### min of a typed list -/
section
variable {X : Cx} {α : Type} [DecidableEq α] [DatumOrd α]
theorem depthAll_toD (k : Nat) (hk : Datum.depth α ≤ k) : forall xs : List α, PyData.depthAll (xs.map Datum.toD) ≤ k
  | [] => by simp [PyData.depthAll]
  | x :: xs => by
    rw [List.map_cons, PyData.depthAll]
    have := Datum.depth_le x
    have := depthAll_toD k hk xs
    omega
theorem noDict_toD (hd : forall a : α, noDict (Datum.toD a) = true) : forall xs : List α, noDictAll (xs.map Datum.toD) = true
  | [] => by simp [noDictAll]
  | x :: xs => by rw [List.map_cons, noDictAll, hd, noDict_toD hd xs]; rfl
theorem k_minT (x : α) (xs : List α) (hc : X.calm = true) (hu : X.A.units + 64 < cLine) (hd : forall a : α, noDict (Datum.toD a) = true) (hk : Datum.depth α ≤ 60) : CalD X (.builtin "min") [.list ((x :: xs).map Datum.toD)] (Datum.toD (minOf x xs)) := by
  rw [← minD_map]
  rw [List.map_cons]
  refine k_minL hc hu ?_ ?_ ?_
  · rw [← List.map_cons]; exact noDict_toD hd _
  · rw [← List.map_cons]; exact alikeAll_datum _
  · rw [← List.map_cons]; exact depthAll_toD 60 hk _
theorem k_min2T (x y : α) (hc : X.calm = true) (hu : X.A.units + 64 < cLine) (hd : forall a : α, noDict (Datum.toD a) = true) (hk : Datum.depth α ≤ 60) : CalD X (.builtin "min") [Datum.toD x, Datum.toD y] (Datum.toD (if DatumOrd.lt y x = true then y else x)) := by
  have h := k_min2D (X := X) (d1 := Datum.toD x) (d2 := Datum.toD y) hc hu (hd x) (hd y) (by have := alikeAll_datum [x, y]; exact this) (by have := depthAll_toD 60 hk [x, y]; exact this)
  rw [DatumOrd.lt_eq] at h
  by_cases hlt : DatumOrd.lt y x = true
  · rw [if_pos hlt] at h ⊢; exact h
  · rw [if_neg hlt] at h ⊢; exact h
/-- the one that is less than all others -/
theorem minOf_is {x0 : α} (irr : DatumOrd.lt x0 x0 = false) : forall {xs : List α} {x : α}, x0 ∈ x :: xs -> (forall y, y ∈ x :: xs -> y ≠ x0 -> DatumOrd.lt x0 y = true ∧ DatumOrd.lt y x0 = false) -> minOf x xs = x0
  | [], x, hm, _ => by
    have : x0 = x := by simpa using hm
    rw [this]; rfl
  | y :: ys, x, hm, h => by
    show minOf (if DatumOrd.lt y x = true then y else x) ys = x0
    by_cases hx : x = x0
    · subst hx
      have hy : DatumOrd.lt y x = false := by
        by_cases e : y = x
        · rw [e]; exact irr
        · exact (h y (List.mem_cons_of_mem _ List.mem_cons_self) e).2
      rw [hy, if_neg Bool.false_ne_true]
      exact minOf_is irr List.mem_cons_self fun z hz => h z (by
        rcases List.mem_cons.mp hz with rfl | hz
        · exact List.mem_cons_self
        · exact List.mem_cons_of_mem _ (List.mem_cons_of_mem _ hz))
    · by_cases hy : y = x0
      · subst hy
        rw [(h x List.mem_cons_self hx).1, if_pos rfl]
        exact minOf_is irr List.mem_cons_self fun z hz => h z (List.mem_cons_of_mem _ hz)
      · have hin : x0 ∈ ys := by
          rcases List.mem_cons.mp hm with e | hm
          · exact absurd e.symm hx
          · rcases List.mem_cons.mp hm with e | hm
            · exact absurd e.symm hy
            · exact hm
        refine minOf_is irr (List.mem_cons_of_mem _ hin) fun z hz => h z ?_
        rcases List.mem_cons.mp hz with rfl | hz
        · split
          · exact List.mem_cons_of_mem _ List.mem_cons_self
          · exact List.mem_cons_self
        · exact List.mem_cons_of_mem _ (List.mem_cons_of_mem _ hz)
end
theorem nd_int : forall a : Int, noDict (Datum.toD a) = true := fun _ => rfl
theorem nd_str : forall a : Str, noDict (Datum.toD a) = true := fun _ => rfl
theorem nd_is : forall a : Int × Str, noDict (Datum.toD a) = true := fun _ => rfl
/-! ### tuples put together; tuple assignments with a new dict -/
section
variable {X : Cx} {N : En} {st : Stmt} {a b c : Expr} {es : List Expr} {ρ ρ' : Rho} {d d1 d2 : PyData} {ds : List PyData} {pos pos' p p2 : Pos} {Φ : Post}
theorem b_catT {xs ys : List PyData} (hx : 0 < xs.length) (hy : 0 < ys.length) (h : xs.length + ys.length ≤ 100000) : BinD X .Add (.tuple xs) (.tuple ys) (.tuple (xs ++ ys)) := ⟨_, op_catT, fun v1 v2 G H Q gh h1 h2 q => by
  cases h1 with
  | tup s1 a1 =>
    cases h2 with
    | tup s2 a2 =>
      refine ⟨_, _, _, _, rfl, rfl, sqT_mono gh s1, sqT_mono gh s2, fun z => ?_, by rw [a1.length, a2.length]; exact Nat.le_trans h (by decide), fun z => ?_, fun _ p hp => ?_⟩
      · have := a1.length
        rw [z] at this
        exact absurd this.symm (Nat.ne_of_gt hx)
      · have := a2.length
        rw [z] at this
        exact absurd this.symm (Nat.ne_of_gt hy)
      · exact q _ _ _ (.new gh hp) (.tup (.inl (.inl upd_same)) ((a1.append a2).mono (same_new (gh.free hp))))⟩
theorem g1_parN (i j : Nat) {x y : Str} {px py pt pt2 pd : Pos} {kt k2 : Nat} (ha : GE X a ρ d1) (h : Φ.nx ((ρ.set i (.dat d1)).set j (.dic (hsW X.w) []))) (hN : X.N.Nodup) (hw : swappedStores [.Tuple [.Name x px, .Name y py] kt pt] (.Tuple [a, .Dict [] [] pd] k2 pt2) X.env = pure (some [x, y]) := by rfl) (hc : X.calm = true := by rfl)
    (hi : X.N[i]? = some x := by rfl) (hj : X.N[j]? = some y := by rfl) (hij : i ≠ j := by decide) (hx : X.env.scope.names.lookup x = some .local := by rfl) (hy : X.env.scope.names.lookup y = some .local := by rfl)
    (hst : starEach [a, .Dict [] [] pd] X.env = (false, eval a X.env) :: starEach [.Dict [] [] pd] X.env := by rfl) (hst2 : starEach [.Dict [] [] pd] X.env = (false, eval (.Dict [] [] pd) X.env) :: starEach [] X.env := by rfl)
    (hs : swapsWithSole [.Tuple [.Name x px, .Name y py] kt pt] (.Tuple [a, .Dict [] [] pd] k2 pt2) pos.line X.env = pure false := by rfl) : G1 X N (.Assign [.Tuple [.Name x px, .Name y py] kt pt] (.Tuple [a, .Dict [] [] pd] k2 pt2) pos) ρ Φ :=
  g1_of (ps_par hc hN hi hj hij hx hy pa_tw hw hs) fun P σ H f => by
    obtain ⟨G, e0, sp, sta, fr⟩ := f
    refine gan_cons ha (gan_last hst2) hst σ G H _ sta fun ws q o G' H' e1 dv hq ho => ?_
    cases dv with
    | cons h1 h2 =>
      cases h2
      have e2 := e0.trans e1
      refine ⟨_, .ref q, rfl, _, ⟨G', ⟨⟨e2.g, e2.h.trans (same_new hq), e2.gh.trans (same_new hq), e2.old⟩, e2.pin⟩, sp.trans e1.g, ((sta.ext e1).set i h1).setOwx j hq (x := .dict (hsW X.w) []) ⟨o, rfl, [], ho, trivial⟩, fun k xs r o1 o2 => ?_⟩, h⟩
      rcases set_get o1 with ⟨rfl, _⟩ | ⟨n, o1⟩
      · rcases set_get o2 with ⟨_, z⟩ | ⟨z, _⟩
        · cases z
          exact e2.h.free hq
        · exact absurd rfl z
      · rw [List.getElem?_set_ne n] at o2
        exact fresh_set fr k xs r o1 o2
theorem g1_par3N (i j l : Nat) {x y z : Str} {px py pz pt pt2 pd : Pos} {kt k2 : Nat} (ha : GE X a ρ d1) (hb : GE X b ρ d2) (h : Φ.nx (((ρ.set i (.dat d1)).set j (.dat d2)).set l (.dic (hsW X.w) []))) (hN : X.N.Nodup)
    (hw : swappedStores [.Tuple [.Name x px, .Name y py, .Name z pz] kt pt] (.Tuple [a, b, .Dict [] [] pd] k2 pt2) X.env = pure (some [x, y, z]) := by rfl) (hc : X.calm = true := by rfl)
    (hi : X.N[i]? = some x := by rfl) (hj : X.N[j]? = some y := by rfl) (hl : X.N[l]? = some z := by rfl) (hij : i ≠ j := by decide) (hil : i ≠ l := by decide) (hjl : j ≠ l := by decide) (hx : X.env.scope.names.lookup x = some .local := by rfl) (hy : X.env.scope.names.lookup y = some .local := by rfl) (hz : X.env.scope.names.lookup z = some .local := by rfl)
    (hst0 : starEach [a, b, .Dict [] [] pd] X.env = (false, eval a X.env) :: starEach [b, .Dict [] [] pd] X.env := by rfl) (hst : starEach [b, .Dict [] [] pd] X.env = (false, eval b X.env) :: starEach [.Dict [] [] pd] X.env := by rfl) (hst2 : starEach [.Dict [] [] pd] X.env = (false, eval (.Dict [] [] pd) X.env) :: starEach [] X.env := by rfl)
    (hs : swapsWithSole [.Tuple [.Name x px, .Name y py, .Name z pz] kt pt] (.Tuple [a, b, .Dict [] [] pd] k2 pt2) pos.line X.env = pure false := by rfl) : G1 X N (.Assign [.Tuple [.Name x px, .Name y py, .Name z pz] kt pt] (.Tuple [a, b, .Dict [] [] pd] k2 pt2) pos) ρ Φ :=
  g1_of (ps_par3 hc hN hi hj hl hij hil hjl hx hy hz pa_tw hw hs) fun P σ H f => by
    obtain ⟨G, e0, sp, sta, fr⟩ := f
    refine gan_cons ha (gan_cons hb (gan_last hst2) hst) hst0 σ G H _ sta fun ws q o G' H' e1 dv hq ho => ?_
    cases dv with
    | cons h1 h2 =>
      cases h2 with
      | cons h3 h4 =>
        cases h4
        have e2 := e0.trans e1
        refine ⟨_, _, .ref q, rfl, _, ⟨G', ⟨⟨e2.g, e2.h.trans (same_new hq), e2.gh.trans (same_new hq), e2.old⟩, e2.pin⟩, sp.trans e1.g, (((sta.ext e1).set i h1).set j h3).setOwx l hq (x := .dict (hsW X.w) []) ⟨o, rfl, [], ho, trivial⟩, fun k xs r o1 o2 => ?_⟩, h⟩
        rcases set_get o1 with ⟨rfl, _⟩ | ⟨n, o1⟩
        · rcases set_get o2 with ⟨_, z⟩ | ⟨z, _⟩
          · cases z
            exact e2.h.free hq
          · exact absurd rfl z
        · rw [List.getElem?_set_ne n] at o2
          exact fresh_set (fresh_set fr) k xs r o1 o2
end
/-! ### tables of what has been found -/
section
variable {κ : Type} [DecidableEq κ]
def memT (kD : κ -> PyData) (f : κ -> PyData) (Ks : List κ) : List (PyData × PyData) := Ks.map fun k => (kD k, f k)
theorem memT_get {kD f : κ -> PyData} (hinj : forall a b, nk (kD a) = nk (kD b) -> a = b) (k : κ) : forall Ks : List κ, dGet (memT kD f Ks) (kD k) = if k ∈ Ks then some (f k) else none
  | [] => rfl
  | j :: Ks => by
    show dGet ((kD j, f j) :: memT kD f Ks) (kD k) = _
    rw [dGet_cons, memT_get hinj k Ks]
    by_cases h : j = k
    · subst h
      rw [if_pos rfl, if_pos List.mem_cons_self]
    · rw [if_neg (fun z => h (hinj j k z))]
      by_cases h2 : k ∈ Ks
      · rw [if_pos h2, if_pos (List.mem_cons_of_mem _ h2)]
      · rw [if_neg h2, if_neg (fun z => (List.mem_cons.mp z).elim (fun e => h e.symm) h2)]
theorem memT_put {kD f : κ -> PyData} (hinj : forall a b, nk (kD a) = nk (kD b) -> a = b) {k : κ} {Ks : List κ} (h : k ∉ Ks) : dPut (memT kD f Ks) (kD k) (f k) = memT kD f (Ks ++ [k]) := by
  unfold dPut
  rw [memT_get hinj, if_neg h]
  show memT kD f Ks ++ [(kD k, f k)] = _
  unfold memT
  rw [List.map_append]
  rfl
/-- the entries are what f says, each key once, all keys good -/
def MemI (kD f : κ -> PyData) (ok : κ -> Prop) (kvs : List (PyData × PyData)) : Prop := ∃ Ks : List κ, kvs = memT kD f Ks ∧ Ks.Nodup ∧ forall k, k ∈ Ks -> ok k
theorem memI_nil {kD f : κ -> PyData} {ok : κ -> Prop} : MemI kD f ok [] := ⟨[], rfl, List.nodup_nil, fun _ h => absurd h List.not_mem_nil⟩
theorem nodup_snoc {k : κ} {Ks : List κ} (h1 : Ks.Nodup) (h2 : k ∉ Ks) : (Ks ++ [k]).Nodup := by
  rw [List.nodup_append]
  refine ⟨h1, by simp, ?_⟩
  intro a ha b hb
  rw [List.mem_singleton.mp hb]
  intro z
  exact h2 (z ▸ ha)
end
end Gd

namespace Gd
open PySem PySem.Spec L2 PySem.W
section
variable {κ : Type} [DecidableEq κ]
theorem memT_same {kD f : κ -> PyData} (hinj : forall a b, nk (kD a) = nk (kD b) -> a = b) {k : κ} {Ks : List κ} (h : k ∈ Ks) : dPut (memT kD f Ks) (kD k) (f k) = memT kD f Ks := by
  unfold dPut
  rw [memT_get hinj, if_pos h]
  show (memT kD f Ks).map _ = _
  unfold memT
  rw [List.map_map]
  refine List.map_congr_left fun j _ => ?_
  show (if nk (kD j) = nk (kD k) then (kD j, f k) else (kD j, f j)) = _
  by_cases e : nk (kD j) = nk (kD k)
  · rw [if_pos e, hinj j k e]
  · rw [if_neg e]
theorem MemI.put {kD f : κ -> PyData} {ok : κ -> Prop} (hinj : forall a b, nk (kD a) = nk (kD b) -> a = b) {k : κ} {kvs : List (PyData × PyData)} (h : MemI kD f ok kvs) (hk : ok k) : MemI kD f ok (dPut kvs (kD k) (f k)) := by
  obtain ⟨Ks, rfl, nd, h⟩ := h
  by_cases hm : k ∈ Ks
  · rw [memT_same hinj hm]
    exact ⟨Ks, rfl, nd, h⟩
  · rw [memT_put hinj hm]
    refine ⟨_, rfl, nodup_snoc nd hm, fun j hj => ?_⟩
    rcases List.mem_append.mp hj with hj | hj
    · exact h j hj
    · rw [List.mem_singleton.mp hj]; exact hk
theorem MemI.put_get {kD f : κ -> PyData} {ok : κ -> Prop} (hinj : forall a b, nk (kD a) = nk (kD b) -> a = b) {k : κ} {kvs : List (PyData × PyData)} (h : MemI kD f ok kvs) : dGet (dPut kvs (kD k) (f k)) (kD k) = some (f k) := by
  obtain ⟨Ks, rfl, nd, h⟩ := h
  by_cases hm : k ∈ Ks
  · rw [memT_same hinj hm, memT_get hinj, if_pos hm]
  · rw [memT_put hinj hm, memT_get hinj, if_pos (by simp)]
theorem MemI.get {kD f : κ -> PyData} {ok : κ -> Prop} (hinj : forall a b, nk (kD a) = nk (kD b) -> a = b) {kvs : List (PyData × PyData)} (h : MemI kD f ok kvs) (k : κ) : dGet kvs (kD k) = none ∨ dGet kvs (kD k) = some (f k) := by
  obtain ⟨Ks, rfl, nd, h⟩ := h
  rw [memT_get hinj]
  by_cases hm : k ∈ Ks
  · exact .inr (if_pos hm)
  · exact .inl (if_neg hm)
end
section
variable {X : Cx} {N : En} {a b e : Expr} {ρ : Rho} {d d1 d2 : PyData} {pos : Pos} {A B : Rho -> Prop} {k : Bool}
/-- the left one fills nothing -/
theorem gem_binP {op : Operator} (ha : GE X a ρ d1) (hb : GEM X N b ρ d2 B) (h : BinD X op d1 d2 d) : GEM X N (.BinOp a op b pos) ρ d B := gem_bin (gem_pure ha) (fun ρ1 e => by rw [show ρ1 = ρ from e]; exact hb) h
/-- the right one fills nothing -/
theorem gtm_cmpP {op : CmpOp} (ha : GEM X N a ρ d1 A) (hb : forall ρ1, A ρ1 -> GE X b ρ1 d2) (h : CmpD X op d1 d2 k) (hm : behindInMarks op b = false := by first | exact nomark _ | rfl) : GTM X N (.Compare a [op] [b] pos) ρ k A :=
  gtm_cmp ha (fun ρ1 hA => gem_mono (gem_pure (hb ρ1 hA)) fun ρ e => by rw [show ρ = ρ1 from e]; exact hA) h hm
end
section
variable {X : Cx}
theorem minOf_int : forall (ns : List Int) (n : Int), minOf n ns = ns.foldl min n
  | [], n => rfl
  | k :: ns, n => by
    show minOf (if decide (k < n) = true then k else n) ns = (ns.foldl min (min n k))
    rw [minOf_int ns]
    congr 1
    by_cases h : k < n
    · rw [if_pos (decide_eq_true h), Int.min_eq_right (by omega)]
    · rw [if_neg (by simpa using h), Int.min_eq_left (by omega)]
theorem k_minI (n : Int) (ns : List Int) (hc : X.calm = true) (hu : X.A.units + 64 < cLine) : CalD X (.builtin "min") [.list ((n :: ns).map PyData.int)] (.int (ns.foldl min n)) := by
  have h := k_minT (X := X) n ns hc hu nd_int (by decide)
  rw [minOf_int] at h
  exact h
end
end Gd

namespace Gd
open PySem PySem.Spec L2 PySem.W
/-! ### sorted over data -/
section
variable {X : Cx}
def rSortedD (K : PySem.W.Frag) : List V → Hp → VK → Prop := fun vs H Q => ∃ (l : Addr) (ws : List V) (ds : List PyData), vs = [V.ref l] ∧ SqL K H l ws ∧ DpAll K H ws ds ∧ AllAlike ds ∧ Sortable ds ∧ ds.length ≤ 1000000 ∧ (forall d, d ∈ ds -> d.depth ≤ 60) ∧
  forall (vs' : List V) (p : Addr), EachIs (fun v d => ∃ i : Nat, ws[i]? = some v ∧ ds[i]? = some d) vs' (ds.mergeSort (dataLe false id)) -> H p = none -> Q (.ref p) (upd H p (.lst vs'))
theorem each_vals {ws : List V} {ds : List PyData} : forall {us : List Value} {es : List PyData}, EachIs (fun u d => ∃ (i : Nat) (v : V), ws[i]? = some v ∧ ds[i]? = some d ∧ RelV v u) us es -> ∃ vs, Vals vs us ∧ EachIs (fun v d => ∃ i : Nat, ws[i]? = some v ∧ ds[i]? = some d) vs es
  | _, _, .nil => ⟨[], .nil, .nil⟩
  | _, _, .cons ⟨i, v, h1, h2, h3⟩ t => by
    obtain ⟨vs, a, b⟩ := each_vals t
    exact ⟨v :: vs, .cons h3 a, .cons ⟨i, h1, h2⟩ b⟩
theorem each_zip {h : Heap} : forall {ws : List V} {us : List Value} {ds : List PyData} {as : List Addr} (n : Nat) (W : List V) (D : List PyData), Vals ws us -> ReadsAll h us ds as -> (forall i : Nat, W[n + i]? = ws[i]?) -> (forall i : Nat, D[n + i]? = ds[i]?) ->
    EachIs (fun u d => ∃ (i : Nat) (v : V), W[i]? = some v ∧ D[i]? = some d ∧ RelV v u) us ds ∧ EachIs (fun u d => ∃ as, Reads h u d as) us ds
  | [], [], [], _, _, _, _, _, _, _, _ => ⟨.nil, .nil⟩
  | w :: ws, u :: us, d :: ds, _, n, W, D, .cons r rs, .cons q qs, hW, hD => by
    obtain ⟨a, b⟩ := each_zip (ws := ws) (us := us) (ds := ds) (n + 1) W D rs qs (fun i => by rw [show n + 1 + i = n + (i + 1) by omega, hW]; rfl) (fun i => by rw [show n + 1 + i = n + (i + 1) by omega, hD]; rfl)
    exact ⟨.cons ⟨n, w, hW 0, hD 0, r⟩ a, .cons ⟨_, q⟩ b⟩
theorem cr_sortedD (hu : X.A.units + 100 < cLine) : CallR X (.builtin "sorted") (rSortedD X.K) := by
  intro pins s σ H vs us Q I r h
  obtain ⟨l, ws, ds, rfl, hs, hd, ha, hk, hz, h60, q⟩ := h
  obtain ⟨its, rv, hl, _⟩ := I.list hs
  obtain ⟨as, hr⟩ := Dp.readsAll I _ _ _ hd rv
  obtain ⟨e1, e2⟩ := each_zip (h := s.heap) 0 ws ds rv hr (fun i => by rw [Nat.zero_add]) (fun i => by rw [Nat.zero_add])
  rw [Vals.ref1 r]
  refine sorted_data (enc := id) (bs := ds) (vs := its) (R := fun u d => ∃ (i : Nat) (v : V), ws[i]? = some v ∧ ds[i]? = some d ∧ RelV v u) hl.isList e1 e2 (by rw [List.map_id]; exact ha) (by rw [List.map_id]; exact hk) (Nat.le_trans hz (by decide)) (fun b hb => by have := h60 b hb; show X.A.units + 2 + b.depth < cLine; omega) fun out hlen eo => ?_
  obtain ⟨vs', a, b⟩ := each_vals eo
  obtain ⟨ep, he'⟩ := PyProof.Rows.sortedAll_at s.heap its out.toArray
  have hlen : vs'.length ≤ sizeLine := by
    have := a.length
    rw [this, hlen]
    exact Nat.le_trans hz (by decide)
  exact ⟨.ref _, upd H (s.heap.objs.size + 1) (.lst vs'), I.laid (t' := s.toks) (fun _ _ => PyProof.Rows.sortedAll_old) (Nat.le_succ _) ⟨hlen, out, ep, a, he'⟩, rfl, q vs' _ b (I.hok.fresh (Nat.le_succ _))⟩
theorem k_sortedD {ds : List PyData} (hu : X.A.units + 100 < cLine) (hn : noDictAll ds = true) (ha : AllAlike ds) (hk : Sortable ds) (hz : ds.length ≤ 1000000) (h60 : forall d, d ∈ ds -> d.depth ≤ 60) : CalD X (.builtin "sorted") [.list ds] (.list (ds.mergeSort (dataLe false id))) := ⟨_, cr_sortedD hu, fun vs G H Q gh dv q => by
  cases dv with
  | cons h1 h2 =>
    cases h2
    cases h1 with
    | lst s1 a1 =>
      refine ⟨_, _, ds, rfl, .inl (.inl (gh _ _ s1)), (a1.mono gh).dp hn, ha, hk, hz, h60, fun vs' p e hp => ?_⟩
      refine q _ _ _ (.new gh hp) (.lst upd_same ?_)
      have : DqAll X.K G vs' (ds.mergeSort (dataLe false id)) := by
        generalize ds.mergeSort (dataLe false id) = es at e
        induction e with
        | nil => exact .nil
        | cons h _ ih =>
          obtain ⟨i, e1, e2⟩ := h
          obtain ⟨w, f1, f2⟩ := a1.get e2
          rw [e1] at f1
          cases f1
          exact .cons f2 ih
      exact this.mono (same_new (gh.free hp))⟩
/-- what is in order stays -/
theorem k_sortedS {ds : List PyData} (hu : X.A.units + 100 < cLine) (hn : noDictAll ds = true) (ha : AllAlike ds) (hk : Sortable ds) (hz : ds.length ≤ 1000000) (h60 : forall d, d ∈ ds -> d.depth ≤ 60) (hs : ds.Pairwise fun a b => dataLe false id a b = true) : CalD X (.builtin "sorted") [.list ds] (.list ds) := by
  have h := k_sortedD (X := X) hu hn ha hk hz h60
  rw [List.mergeSort_of_pairwise hs] at h
  exact h
end
/-! ### tuple assignments of what may be new lists, dicts -/
section
variable {X : Cx} {N : En} {a b e : Expr} {es tgs : List Expr} {ρ ρ' : Rho} {d : PyData} {pos p p2 : Pos} {Φ : Post} {K : PySem.W.Frag} {G H : Hp} {σ : L2.St} {P : Hp}
/-- what v is, new since H0 -/
def NewOk (K : PySem.W.Frag) (H0 G H : Hp) (v : V) : Cell -> Prop
  | .any => False
  | .raw _ => False
  | .pin _ _ => False
  | .dat d => Dq K G v d
  | .owx x => ∃ q u, v = .ref q ∧ H0 q = none ∧ G q = none ∧ H q = some u ∧ OwnOk K G q u x
  | .fdc hs kvs => ∃ q o, v = .ref q ∧ G q = some (dR q o) ∧ DicV K G hs q o kvs
def NewAll (K : PySem.W.Frag) (H0 G H : Hp) : List V -> List Cell -> Prop
  | [], [] => True
  | v :: vs, c :: cs => NewOk K H0 G H v c ∧ (forall x, c = .owx x -> forall (j : Nat) (y : Own), cs[j]? = some (.owx y) -> vs[j]? ≠ some v) ∧ NewAll K H0 G H vs cs
  | _, _ => False
theorem NewOk.ext {H0 G' H' : Hp} {v : V} {c : Cell} (h : NewOk K H0 G H v c) (e : Ext G H G' H') : NewOk K H0 G' H' v c := by
  cases c with
  | any => exact h
  | raw _ => exact h
  | pin _ _ => exact h
  | dat d => exact Dq.mono e.g h
  | owx x =>
    obtain ⟨q, u, h1, h2, h3, h4, h5⟩ := h
    exact ⟨q, u, h1, h2, by rw [e.old q (by rw [h4]; exact fun z => nomatch z)]; exact h3, e.h _ _ h4, h5.mono e.g⟩
  | fdc hs kvs =>
    obtain ⟨q, o, h1, h2, h3⟩ := h
    exact ⟨q, o, h1, e.g _ _ h2, h3.mono e.g⟩
theorem NewOk.before {H0 H1 : Hp} {v : V} {c : Cell} (h : NewOk K H1 G H v c) (s : Same H0 H1) : NewOk K H0 G H v c := by
  cases c with
  | any => exact h
  | raw _ => exact h
  | pin _ _ => exact h
  | dat d => exact h
  | owx x =>
    obtain ⟨q, u, h1, h2, h3⟩ := h
    exact ⟨q, u, h1, s.free h2, h3⟩
  | fdc hs kvs => exact h
theorem NewAll.before {H0 H1 : Hp} (s : Same H0 H1) : forall {vs : List V} {cs : List Cell}, NewAll K H1 G H vs cs -> NewAll K H0 G H vs cs
  | [], [], _ => trivial
  | _ :: _, _ :: _, ⟨h1, h2, h3⟩ => ⟨h1.before s, h2, h3.before s⟩
  | [], _ :: _, h => h.elim
  | _ :: _, [], h => h.elim
theorem NewAll.ext {H0 G' H' : Hp} (e : Ext G H G' H') : forall {vs : List V} {cs : List Cell}, NewAll K H0 G H vs cs -> NewAll K H0 G' H' vs cs
  | [], [], _ => trivial
  | _ :: _, _ :: _, ⟨h1, h2, h3⟩ => ⟨h1.ext e, h2, h3.ext e⟩
  | [], _ :: _, h => h.elim
  | _ :: _, [], h => h.elim
theorem NewAll.len {H0 : Hp} : forall {vs : List V} {cs : List Cell}, NewAll K H0 G H vs cs -> vs.length = cs.length
  | [], [], _ => rfl
  | _ :: _, _ :: _, ⟨_, _, h⟩ => by rw [List.length_cons, List.length_cons, h.len]
  | [], _ :: _, h => h.elim
  | _ :: _, [], h => h.elim
/-- an expression's worth as a cell; arguments' -/
def GC (X : Cx) (e : Expr) (ρ : Rho) (c : Cell) : Prop := forall (σ : L2.St) (G H : Hp) (Q : VK), Sta X.K G H σ ρ -> (forall v G' H', Ext G H G' H' -> NewOk X.K H G' H' v c -> Q v H') -> tw X e σ H Q
def GAc (X : Cx) (es : List Expr) (ρ : Rho) (cs : List Cell) : Prop := forall (σ : L2.St) (G H : Hp) (Q : List V -> Hp -> Prop), Sta X.K G H σ ρ -> (forall vs G' H', Ext G H G' H' -> NewAll X.K H G' H' vs cs -> Q vs H') -> twA X es σ H Q
theorem gc_of {t : TE} {c : Cell} (h : PE X e t) (hv : forall (σ : L2.St) (G H : Hp) (Q : VK), Sta X.K G H σ ρ -> (forall v G' H', Ext G H G' H' -> NewOk X.K H G' H' v c -> Q v H') -> t σ H Q) : GC X e ρ c := fun σ G H Q s q pins s' I => ⟨h.run pins s' σ H Q I (hv σ G H Q s q)⟩
theorem gc_dat (h : GE X e ρ d) : GC X e ρ (.dat d) := fun σ G H Q s q => h σ G H Q s fun v G' H' e1 dv => q v G' H' e1 dv
theorem gc_dict0 : GC X (.Dict [] [] p) ρ (.dic (hsW X.w) []) := gc_of pe_xdnew fun σ G H Q s q a o ha ho =>
  q _ G _ ⟨Same.refl G, same_new ha, s.gh.trans (same_new ha), fun _ _ => rfl⟩ ⟨a, dR a o, rfl, ha, s.gh.free ha, upd_same, o, rfl, [], ho, trivial⟩
theorem gc_dict1 {k : PyData} (hu : X.A.units + 64 < cLine) (hk : GE X a ρ k) (he : GE X b ρ d) (hkey : isKey k = true) : GC X (.Dict [some a] [b] p) ρ (.dic (hsW X.w) [(k, d)]) := gc_of (pe_xdisp hu pe_tw pe_tw) fun σ G H Q s q pp o0 hp ho0 => by
  have ext0 : Ext G H G (upd H pp (dR pp o0)) := ⟨Same.refl G, same_new hp, s.gh.trans (same_new hp), fun _ _ => rfl⟩
  refine hk σ G _ _ (s.ext ext0) fun x G1 H1 e1 dk => he σ G1 H1 _ ((s.ext ext0).ext e1) fun y G2 H2 e2 dd => ?_
  have e02 := (ext0.trans e1).trans e2
  have h0 : H2 pp = some (dR pp o0) := (e1.trans e2).h _ _ upd_same
  obtain ⟨b', rfl⟩ := dk.key hkey
  refine ⟨h0, b', nk k, rfl, ⟨k, (dk.mono e2.g).mono e2.gh, hkey, rfl⟩, fun o u ru hdo => ?_⟩
  have g0 : G2 pp = none := by
    rw [(e1.trans e2).old pp (by rw [upd_same]; exact fun z => nomatch z)]
    exact s.gh.free hp
  refine q _ G2 _ ⟨e02.g, fun bb uu z => by rw [upd_ne (ne_of_none z hp)]; exact e02.h bb uu z, fun bb uu z => by rw [upd_ne (ne_of_none z g0)]; exact e02.gh bb uu z, fun bb hb => e02.old bb hb⟩ ⟨pp, dR pp o, rfl, hp, g0, upd_same, o, rfl, _, hdo, ⟨rfl, dk.mono e2.g, ⟨y, ru, dd⟩, hkey⟩, trivial⟩
theorem gc_list {ds : List PyData} (ha : GA X es ρ ds) (hz : ds.length ≤ 100000 := by exact Nat.le_of_ble_eq_true rfl) : GC X (.List es p) ρ (.own ds) := gc_of (pe_lst pa_tw) fun σ G H Q s q => ha σ G H _ s fun vs G1 H1 e1 dv => by
  refine ⟨by rw [dv.length]; exact Nat.le_trans hz (by decide), fun a hp => ?_⟩
  exact q _ G1 _ ⟨e1.g, e1.h.trans (same_new hp), e1.gh.trans (same_new hp), e1.old⟩ ⟨a, .lst vs, rfl, e1.h.free hp, e1.gh.free hp, upd_same, vs, rfl, dv⟩
theorem gc_fdc (i : Nat) {y : Str} {kvs : List (PyData × PyData)} {hs : NestedKey -> Int} (hc : ρ[i]? = some (.fdc hs kvs) := by rfl) (hi : X.N[i]? = some y := by rfl) (hv : Vis X.env.scope y := by first | exact Or.inl rfl | exact Or.inr (Or.inl rfl) | exact Or.inr (Or.inr rfl)) (hd : (y == ("__debug__" : Str)) = false := by decide) (hcd : (y == ("__classdict__" : Str)) = false := by decide) :
    GC X (.Name y p) ρ (.fdc hs kvs) := gc_of (pe_var hi hv hd hcd) fun σ G H Q s q => by
  obtain ⟨ov, h1, a, o, rfl, h2, h3⟩ := s.at_ i _ hc
  exact ⟨.ref a, h1, q _ G H (.refl s.gh) ⟨a, o, rfl, h2, h3⟩⟩
theorem gac_nil : GAc X [] ρ [] := fun σ G H Q s q pos pins s' I => ⟨pa_nil.run pos pins s' σ H Q I (q [] G H (.refl s.gh) trivial)⟩
theorem NewAll.at_ {H0 : Hp} : forall {vs : List V} {cs : List Cell} {j : Nat} {c : Cell}, NewAll K H0 G H vs cs -> cs[j]? = some c -> ∃ v, vs[j]? = some v ∧ NewOk K H0 G H v c
  | [], [], _, _, _, e => by simp at e
  | v :: vs, c :: cs, 0, _, ⟨a, _, _⟩, e => by simp at e; subst e; exact ⟨v, rfl, a⟩
  | v :: vs, c :: cs, j + 1, _, ⟨_, _, t⟩, e => by
    obtain ⟨v', h1, h2⟩ := NewAll.at_ (j := j) t (by simpa using e)
    exact ⟨v', by simpa using h1, h2⟩
  | [], _ :: _, _, _, h, _ => h.elim
  | _ :: _, [], _, _, h, _ => h.elim
theorem gac_cons {c : Cell} {cs : List Cell} (h : GC X e ρ c) (hr : GAc X es ρ cs) (hst : starEach (e :: es) X.env = (false, eval e X.env) :: starEach es X.env := by rfl) : GAc X (e :: es) ρ (c :: cs) := fun σ G H Q s q pos pins s' I => by
  refine ⟨(pa_cons pe_tw pa_tw hst).run pos pins s' σ H Q I (h σ G H _ s fun v G1 H1 e1 nv => hr σ G1 H1 _ (s.ext e1) fun vs G2 H2 e2 nvs => q (v :: vs) G2 H2 (e1.trans e2) ?_)⟩
  have hd : forall x, c = .owx x -> forall (j : Nat) (y : Own), cs[j]? = some (.owx y) -> vs[j]? ≠ some v := fun x hx j y hy hj => by
    subst hx
    obtain ⟨q1, u1, rfl, a1, a2, a3, a4⟩ := nv
    obtain ⟨v', b1, q2, u2, rfl, b2, _⟩ := nvs.at_ hy
    rw [hj] at b1
    cases b1
    rw [a3] at b2
    cases b2
  exact ⟨nv.ext e2, hd, nvs.before e1.h⟩
theorem Sta.setCell {H0 : Hp} {v : V} {c : Cell} (s : Sta K G H σ ρ) (i : Nat) (h : NewOk K H0 G H v c) (ap : forall x, c = .owx x -> forall (j : Nat) (y : Own), j ≠ i -> ρ[j]? = some (.owx y) -> σ[j]? ≠ some (some v)) : Sta K G H (σ.set i (some v)) (ρ.set i c) := by
  refine ⟨s.gh, by rw [List.length_set, List.length_set]; exact s.len, fun j d hd => ?_, fun a b q x y h1 h2 h3 h4 => ?_⟩
  · rcases set_get hd with ⟨rfl, rfl⟩ | ⟨hij, hd⟩
    · have hl := (List.getElem?_eq_some_iff.mp hd).1
      rw [List.length_set] at hl
      refine ⟨some v, List.getElem?_set_self (by rw [s.len]; exact hl), ?_⟩
      cases d with
      | any => exact h.elim
      | raw _ => exact h.elim
      | pin _ _ => exact h.elim
      | dat d => exact ⟨v, rfl, h⟩
      | owx x =>
        obtain ⟨q, u, e1, e2, e3, e4, e5⟩ := h
        exact ⟨q, u, by rw [e1], e3, e4, e5⟩
      | fdc hs kvs =>
        obtain ⟨q, o, e1, e2, e3⟩ := h
        exact ⟨q, o, by rw [e1], e2, e3⟩
    · obtain ⟨ov, o1, o2⟩ := s.at_ j d hd
      exact ⟨ov, by rw [List.getElem?_set_ne hij]; exact o1, o2⟩
  · rcases set_get h1 with ⟨rfl, e1⟩ | ⟨n1, o1⟩
    · rcases set_get h2 with ⟨rfl, _⟩ | ⟨n2, o2⟩
      · rfl
      · rw [List.getElem?_set_ne n2] at h4
        rcases set_get h3 with ⟨_, z⟩ | ⟨z, _⟩
        · cases z
          exact absurd h4 (ap x e1.symm b y (fun z => n2 z.symm) o2)
        · exact absurd rfl z
    · rw [List.getElem?_set_ne n1] at h3
      rcases set_get h2 with ⟨rfl, e2⟩ | ⟨n2, o2⟩
      · rcases set_get h4 with ⟨_, z⟩ | ⟨z, _⟩
        · cases z
          exact absurd h3 (ap y e2.symm a x (fun z => n1 z.symm) o1)
        · exact absurd rfl z
      · rw [List.getElem?_set_ne n2] at h4
        exact s.apart a b q x y o1 o2 h3 h4
def putCells : List Nat -> List Cell -> Rho -> Option Rho
  | [], [], ρ => some ρ
  | i :: is, c :: cs, ρ => putCells is cs (ρ.set i c)
  | _, _, _ => none
/-- own cells: of old, or new since H0 -/
theorem rdCells {H0 h0 : Hp} {Q : L2.St -> Hp -> Prop} (hh : Same h0 H0) : forall {is : List Nat} {cs : List Cell} {vs : List V} {ρ ρ' : Rho} {σ : L2.St}, putCells is cs ρ = some ρ' -> Sta K G H σ ρ -> NewAll K H0 G H vs cs ->
    (forall (j : Nat) (y : Own) (q : Addr), ρ[j]? = some (.owx y) -> σ[j]? = some (some (.ref q)) -> h0 q = none) ->
    (forall (j : Nat) (y : Own) (q : Addr), ρ[j]? = some (.owx y) -> σ[j]? = some (some (.ref q)) -> H0 q ≠ none ∨ forall (k : Nat) (z : Own), cs[k]? = some (.owx z) -> vs[k]? ≠ some (.ref q)) ->
    (forall σ', Sta K G H σ' ρ' -> (forall (j : Nat) (y : Own) (q : Addr), ρ'[j]? = some (.owx y) -> σ'[j]? = some (some (.ref q)) -> h0 q = none) -> Q σ' H) -> rdAll is vs σ H Q
  | [], [], [], _, _, _, e, s, _, fr, _, q => by
    cases e
    exact ⟨rfl, q _ s fr⟩
  | i :: is, c :: cs, v :: vs, ρ, ρ', σ, e, s, ⟨nv, nd, nvs⟩, fr, old, q => by
    refine ⟨v, vs, rfl, ?_⟩
    have st := s.setCell (v := v) (c := c) i nv (fun x hx j y hj ho hs => by
      subst hx
      obtain ⟨qa, u, rfl, a1, a2, a3, a4⟩ := nv
      rcases old j y qa ho hs with z | z
      · exact z a1
      · exact z 0 x rfl rfl)
    refine rdCells hh (is := is) (cs := cs) (vs := vs) (ρ := ρ.set i c) (σ := σ.set i (some v)) e st nvs ?_ ?_ q
    · intro j y qa ho hs
      rcases set_get ho with ⟨rfl, e1⟩ | ⟨n, ho⟩
      · rcases set_get hs with ⟨_, z⟩ | ⟨z, _⟩
        · cases z
          rw [← e1] at nv
          obtain ⟨qb, u, z, a1, _⟩ := nv
          cases z
          exact hh.free a1
        · exact absurd rfl z
      · rw [List.getElem?_set_ne n] at hs
        exact fr j y qa ho hs
    · intro j y qa ho hs
      rcases set_get ho with ⟨rfl, e1⟩ | ⟨n, ho⟩
      · rcases set_get hs with ⟨_, z⟩ | ⟨z, _⟩
        · cases z
          exact .inr fun k z hk => nd y e1.symm k z hk
        · exact absurd rfl z
      · rw [List.getElem?_set_ne n] at hs
        rcases old j y qa ho hs with z | z
        · exact .inl z
        · exact .inr fun k zz hk => z (k + 1) zz (by simpa using hk) |> fun f g => f (by simpa using g)
  | [], _ :: _, _, _, _, _, e, _, _, _, _, _ => by simp [putCells] at e
  | _ :: _, [], _, _, _, _, e, _, _, _, _, _ => by simp [putCells] at e
  | _ :: _, _ :: _, [], _, _, _, _, _, h, _, _, _ => h.elim
  | [], [], _ :: _, _, _, _, _, _, h, _, _, _ => h.elim
/-- x, y, .. = e1, e2, .. -/
theorem g1_asgC {is : List Nat} {cs : List Cell} {kt k2 : Nat} {pt pt2 : Pos} (ht : PGs X tgs (rdAll is)) (ha : GAc X es ρ cs) (hp : putCells is cs ρ = some ρ') (h : Φ.nx ρ') (hz : cs.length ≤ 100 := by exact Nat.le_of_ble_eq_true rfl)
    (hl : cs.length = is.length := by rfl) (hc : X.calm = true := by rfl) (hn : (assignEach tgs X.env).length = is.length := by rfl) (hst : (assignEach tgs X.env).findIdx? (·.1) = none := by rfl)
    (hs : swapsWithSole [.Tuple tgs kt pt] (.Tuple es k2 pt2) pos.line X.env = pure false := by rfl) (hw : swappedStores [.Tuple tgs kt pt] (.Tuple es k2 pt2) X.env = pure none := by rfl)
    (h1 : (assignEach [.Tuple tgs kt pt] X.env).map (·.2) = [assign (.Tuple tgs kt pt) X.env] := by rfl) : G1 X N (.Assign [.Tuple tgs kt pt] (.Tuple es k2 pt2) pos) ρ Φ :=
  g1_of (ps_asg (pe_tup pa_tw) (pg_tup hc ht hn hst) hs hw h1) fun P σ H f => by
    obtain ⟨G, e0, sp, sta, fr⟩ := f
    refine ha σ G H _ sta fun vs G1 H1 e1 nvs => ?_
    refine ⟨by rw [nvs.len]; exact Nat.le_trans hz (by decide), fun t htf => ?_⟩
    have e2 : Ext G1 H1 G1 (upd H1 t (.tup vs)) := ⟨Same.refl _, same_new htf, e1.gh.trans (same_new htf), fun _ _ => rfl⟩
    refine ⟨t, vs, rfl, .inl (.inl upd_same), by rw [nvs.len]; exact hl, ?_⟩
    have e12 := e1.trans e2
    refine rdCells (H0 := H) (h0 := N.h) e0.h hp (sta.ext e12) (nvs.ext e2) fr (fun j y q ho hs => .inl fun z => ?_) fun σ' s' fr' => ⟨ρ', ⟨G1, e0.trans e12, sp.trans e12.g, s', fr'⟩, h⟩
    obtain ⟨qa, u, a1, a2, a3, _⟩ := sta.owx ho
    rw [hs] at a1
    cases a1
    rw [z] at a3
    cases a3
end
end Gd

namespace Gd
open PySem PySem.Spec L2 PyProof.Rows
/-! ### sorted(set(xs)), xs a list of ints -/
section
variable {P : Program} {w : World} {A : Around} {E : Value → Shared → Prop} {s : Shared}
/-- set(l) as a set whose order is known enough to be sorted -/
theorem set_listI {l : Addr} {items : Array Value} (ns : List Int) {Q : Value → Shared → Prop} (hh : A.handled = none) (hl : s.heap.IsList l items) (hit : IntsAre items.toList ns) (hb : ns.length + 1 < scanBound)
    (h : ∀ (h' : Heap) (tk c : Nat), SetR w h' s.heap.objs.size (fun j => decide (j ∈ ns)) c → c ≤ ns.length → (∀ b o, s.heap.get? b = some o → h'.get? b = some o) → Q (.ref s.heap.objs.size) { s with heap := h', toks := tk }) :
    wpAny (model P w) A (call (.type "set") [.ref l]) Q E s := by
  have hsize : items.size = ns.length := by rw [← Array.length_toList]; exact IntsAre.length hit
  obtain ⟨c, tl, hmro⟩ := F.called_set.mro
  have hmade := F.called_set.made
  have hsub := F.called_set.sub
  refine wpAny_call (codeAny_of_tree ?_)
  show wpAny _ _ (callAny (.type "set") _) _ _ _
  refine wpAny_pure ⟨Code.quiet_builtin _ (by decide +kernel), codeAny_builtin F.entry_type_call ?_⟩
  rw [Around.under_plain (weight_type_call_type "set" [.ref l] []) rfl]
  have h1 := F.called_set.notType
  have h2 := F.called_set.canCreate
  have hct := F.typeCall_set_1 (.ref l)
  repeat (any_goals (first | assumption | wp_step))
  refine codeAny_mono (code_set_led1 (.ref l) (E := E) (Q₁ := fun obj s₁ => obj = .ref s.heap.objs.size ∧ s₁ = { s with heap := s.heap.push { cls := .type "set", dict := none, data := .set #[] 0 (.fresh 0 0 (!w.params.followText "set-order")) } }) ⟨rfl, rfl⟩) fun r s₁ hr => ?_
  cases r with
  | error e => exact hr
  | ok fl =>
    cases fl with
    | ret obj =>
      obtain ⟨rfl, rfl⟩ := hr
      have hS : (s.heap.push { cls := .type "set", dict := none, data := .set #[] 0 (.fresh 0 0 (!w.params.followText "set-order")) }).get? s.heap.objs.size = some { cls := .type "set", dict := none, data := .set #[] 0 (.fresh 0 0 (!w.params.followText "set-order")) } := Heap.get?_push_size _ rfl
      have hT : Shared.TypeIs { s with heap := s.heap.push { cls := .type "set", dict := none, data := .set #[] 0 (.fresh 0 0 (!w.params.followText "set-order")) } } (.ref s.heap.objs.size) "set" := ⟨_, hS, rfl⟩
      have hli := F.called_set.init.lookup
      have hbi := F.called_set.init.bind (.ref s.heap.objs.size)
      repeat (any_goals (first | assumption | wp_step))
      refine codeAny_mono (codeAny_call_builtin (R := wants (fun r s₂ => r = .none ∧ ∃ h' tk c, s₂ = { s with heap := h', toks := tk } ∧ SetR w h' s.heap.objs.size (fun j => decide (j ∈ ns)) c ∧ c ≤ ns.length ∧ (∀ b o, s.heap.get? b = some o → h'.get? b = some o)) E) F.called_set.init.plain F.entry_set_init (check_set_init_1 hT ?_)) fun r₂ s₂ hr₂ => ?_
      · obtain ⟨ol, hol, hcl, nl, hdl⟩ := hl
        obtain ⟨ocls, odict, odata, oslots⟩ := ol
        simp only at hcl hdl
        subst hcl; subst hdl
        have hol' : (s.heap.push { cls := .type "set", dict := none, data := .set #[] 0 (.fresh 0 0 (!w.params.followText "set-order")) }).get? l = some { cls := .type "list", dict := odict, data := .seq items nl, slots := oslots } := Heap.get?_push_of_some _ hol
        have hsls := F.sub_list_set
        have hslf := F.sub_list_frozenset
        have hne : (Value.type "list" == Value.type "dict") = false := by decide
        have hl1 : (s.heap.push { cls := .type "set", dict := none, data := .set #[] 0 (.fresh 0 0 (!w.params.followText "set-order")) }).IsList l items := ⟨_, hol', rfl, nl, rfl⟩
        unfold Builtin.«set.__init__» noKeywords Builtin.Frozenset.updateFrom
        generalize hPI : pyIter = PI
        wp_walk
        subst hPI
        refine wpAny_pyIter_list hl1 ?_
        refine wpAny_bind (wpAny_runValue ?_)
        have lt : l < s.heap.objs.size := Heap.lt_size hol
        have hneI : l ≠ (s.heap.push { cls := .type "set", dict := none, data := .set #[] 0 (.fresh 0 0 (!w.params.followText "set-order")) }).objs.size := by rw [Heap.size_push]; exact Nat.ne_of_lt (Nat.lt_succ_of_lt lt)
        have hSf : s.heap.objs.size ∉ [(s.heap.push { cls := .type "set", dict := none, data := .set #[] 0 (.fresh 0 0 (!w.params.followText "set-order")) }).objs.size, l] := by
          rw [Heap.size_push]
          simp only [List.mem_cons, List.mem_singleton, List.not_mem_nil, or_false, not_or]
          exact ⟨Nat.ne_of_lt (Nat.lt_succ_self _), Nat.ne_of_gt lt⟩
        have hval : ∀ (i : Nat) (v : Value), items[i]? = some v → ∃ k t, ns[i]? = some k ∧ v = .int k t := fun i v hv => by
          have hi : i < ns.length := by rw [← hsize]; exact (Array.getElem?_eq_some_iff.mp hv).1
          obtain ⟨t, e⟩ := IntsAre.int_at hit i v (by rw [Array.getElem?_toList]; exact hv)
          refine ⟨ns[i], t, List.getElem?_eq_getElem hi, ?_⟩
          rw [e, List.getD_eq_getElem?_getD, List.getElem?_eq_getElem hi] <;> rfl
        refine set_update_ints ((Walks.list (by simp [hh]) _ l hneI items).toS) s.heap.objs.size hSf ns hsize hb hval (items.size - 0) 0 _ (by omega) (Nat.zero_le _) ⟨⟨_, Heap.get?_push_size _ rfl, rfl, rfl⟩, (hl1.push _)⟩ ⟨0, Nat.le_refl 0, setR_new_at (Heap.get?_push_of_some _ hS)⟩ ?_
        intro s' c' hm hc' hS'
        obtain ⟨h', g2, d', tk', os'⟩ := s'
        have eg : g2 = s.gens := hm.gens
        have ed : d' = s.drawn := hm.drawn
        have eo : os' = s.os := hm.os
        subst eg; subst ed; subst eo
        show wpAny _ _ _ _ _ _
        refine wpAny_pure ?_
        show wpAny _ _ (ret Value.none) _ _ _
        refine wpAny_pure ⟨rfl, h', tk', c', rfl, hS', by omega, fun b o e => ?_⟩
        have hb0 : b < s.heap.objs.size := Heap.lt_size e
        refine hm.heap b o ?_ (Heap.get?_push_of_some _ (Heap.get?_push_of_some _ e))
        rw [Heap.size_push]
        simp only [List.mem_cons, List.mem_singleton, List.not_mem_nil, or_false, not_or]
        exact ⟨Nat.ne_of_lt hb0, Nat.ne_of_lt (Nat.lt_succ_of_lt hb0)⟩
      · cases r₂ with
        | error e => exact hr₂
        | ok fl₂ =>
          cases fl₂ with
          | ret r =>
            obtain ⟨rfl, h', tk, c', rfl, hS', hc', hk'⟩ := hr₂
            repeat (any_goals (first | assumption | wp_step))
            exact h _ _ _ hS' hc' hk'
          | _ => exact hr₂.elim
    | _ => exact hr.elim
end
theorem dq_ints {K : PySem.W.Frag} {G : Hp} : ∀ {vs : List V} {ns : List Int}, DqAll K G vs (ns.map PyData.int) → vs = ns.map V.int
  | _, [], .nil => rfl
  | _, n :: ns, .cons h t => by
    rw [dq_ints t]
    cases h
    rfl
theorem dq_ints2 {K : PySem.W.Frag} {G : Hp} : ∀ (ns : List Int), DqAll K G (ns.map V.int) (ns.map PyData.int)
  | [] => .nil
  | n :: ns => .cons (.int n) (dq_ints2 ns)
theorem pw_eq : ∀ {as bs : List Int}, as.Pairwise (· < ·) → bs.Pairwise (· < ·) → (∀ k, k ∈ as ↔ k ∈ bs) → as = bs
  | [], [], _, _, _ => rfl
  | [], b :: bs, _, _, h => absurd ((h b).mpr List.mem_cons_self) List.not_mem_nil
  | a :: as, [], _, _, h => absurd ((h a).mp List.mem_cons_self) List.not_mem_nil
  | a :: as, b :: bs, h1, h2, h => by
    rw [List.pairwise_cons] at h1 h2
    have e : a = b := by
      rcases List.mem_cons.mp ((h a).mp List.mem_cons_self) with e | e
      · exact e
      · rcases List.mem_cons.mp ((h b).mpr List.mem_cons_self) with e2 | e2
        · exact e2.symm
        · have := h2.1 a e
          have := h1.1 b e2
          omega
    subst e
    rw [pw_eq h1.2 h2.2 fun k => ?_]
    constructor
    · intro hk
      rcases List.mem_cons.mp ((h k).mp (List.mem_cons_of_mem _ hk)) with e | e
      · have := h1.1 k hk; omega
      · exact e
    · intro hk
      rcases List.mem_cons.mp ((h k).mpr (List.mem_cons_of_mem _ hk)) with e | e
      · have := h2.1 k hk; omega
      · exact e
section
variable {X : Cx} {a : Expr} {ρ : Rho} {p p2 q pos : Pos}
def tSortSetI (K : PySem.W.Frag) (ta : TE) : TE := fun σ H Q => ta σ H fun x H1 => ∃ (l : Addr) (ns : List Int), x = .ref l ∧ SqL K H1 l (ns.map V.int) ∧ ns.length < 64 ∧
  ∀ (ms : List Int) (p : Addr), ms.Pairwise (· < ·) → (∀ k : Int, k ∈ ms ↔ k ∈ ns) → H1 p = none → Q (.ref p) (upd H1 p (.lst (ms.map V.int)))
theorem pe_sortSetI {ta : TE} (hg : Gl X "sorted") (hm : X.mg "sorted" = none) (hg2 : Gl X "set") (hm2 : X.mg "set" = none) (ha : PE X a ta) (hc : X.calm = true := by rfl)
    (na : starEach [a] X.env = (false, eval a X.env) :: starEach [] X.env := by rfl) : PE X (.Call (.Name "sorted" p) [.Call (.Name "set" p2) [a] [] q] [] pos) (tSortSetI X.K ta) := by
  refine ⟨fun pins s σ H Q I h => ?_⟩
  refine Call_ (ld_blt I hg hm (by rfl) ?_)
  refine callWith_builtin1 (args_cons ?_ rfl) rfl rfl
  refine Call_ (ld_blt I hg2 hm2 boot_set ?_)
  refine callWith_type1 (args_cons (thn (ha.run pins s σ H _ I h) fun v s1 ⟨x, H1, I1, r1, q1⟩ => args_nil ?_) na) na rfl
  obtain ⟨l, ns, rfl, hq, hl, q1⟩ := q1
  cases r1
  obtain ⟨its, r, pl, hz⟩ := I1.list hq
  refine set_listI ns (I1.ok.hd hc) pl.isList (by simpa using ints_of_vals r) (by unfold scanBound; omega) fun h' tk c hS hcl hk => ?_
  refine args_nil ?_
  have I2 : Inv X pins σ H1 { s1 with heap := h', toks := tk } := I1.kept fun b o e => hk b o e
  refine sorted_set hS (I2.ok.hd hc) (by omega) fun s' p out c ms k g o hp hg hi hs hm hl2 => ?_
  have hlen : (ms.map V.int).length ≤ sizeLine := by rw [List.length_map, hl2, sizeLine_eq]; omega
  have hn : H1 p = none := I2.hok.fresh hp
  have J : Inv X pins σ (upd H1 p (.lst (ms.map V.int))) { ({ s1 with heap := h', toks := tk } : Shared) with heap := s'.heap, gens := s'.gens, drawn := s'.drawn, toks := s'.toks } :=
    I2.call (ch := []) (Un.laid k hp hn) (I2.hok.laid k hp ⟨hlen, out.toList, c, vals_of_ints hi, hg⟩) (by rw [g]; exact I2.bare) (fun _ z => nomatch z)
  have e : s' = { ({ s1 with heap := h', toks := tk } : Shared) with heap := s'.heap, gens := s'.gens, drawn := s'.drawn, toks := s'.toks } := by
    cases s'
    cases s1
    cases o
    rfl
  rw [e]
  exact ⟨.ref p, _, J, rfl, q1 ms p hs (fun k => by rw [hm k, decide_eq_true_eq]) hn⟩
theorem ge_sortSetI {ns ms : List Int} (hm : X.mg "sorted" = none) (hm2 : X.mg "set" = none) (ha : GE X a ρ (.list (ns.map PyData.int))) (hl : ns.length < 64) (hs : ms.Pairwise (· < ·)) (he : ∀ k : Int, k ∈ ms ↔ k ∈ ns) (hg : Gl X "sorted" := by rfl) (hg2 : Gl X "set" := by rfl) (hc : X.calm = true := by rfl)
    (na : starEach [a] X.env = (false, eval a X.env) :: starEach [] X.env := by rfl) : GE X (.Call (.Name "sorted" p) [.Call (.Name "set" p2) [a] [] q] [] pos) ρ (.list (ms.map PyData.int)) :=
  ge_of (pe_sortSetI hg hm hg2 hm2 pe_tw hc na) fun σ G H Q st k => ha σ G H _ st fun v G1 H1 e1 dv => by
    cases dv with
    | lst s1 a1 =>
      refine ⟨_, ns, rfl, ?_, hl, fun ms2 p h1 h2 hp => ?_⟩
      · have := dq_ints a1
        rw [← this]
        exact .inl (.inl (e1.gh _ _ s1))
      · have e : ms2 = ms := pw_eq h1 hs fun k => (h2 k).trans (he k).symm
        rw [e]
        exact k _ _ _ (e1.trans (.new e1.gh hp)) (.lst upd_same (dq_ints2 ms))
end
end Gd

namespace Gd
open PySem PySem.Spec L2 PySem.W
/-! ### sorted over ints, none twice -/
theorem k_sortI {X : Cx} {ns ms : List Int} (hu : X.A.units + 100 < cLine) (hz : ns.length ≤ 1000000) (hn : ns.Nodup) (hs : ms.Pairwise (· < ·)) (he : ∀ k : Int, k ∈ ms ↔ k ∈ ns) : CalD X (.builtin "sorted") [.list (ns.map PyData.int)] (.list (ms.map PyData.int)) := by
  have h := k_sortedD (X := X) (ds := ns.map PyData.int) hu ?_ (AllAlike.of fun a b => by simp [alike]) (Sortable.others fun a => ⟨(fun z => nomatch z), (fun xs z => nomatch z)⟩) (by rw [List.length_map]; exact hz) (fun d hd => by
    obtain ⟨a, _, rfl⟩ := List.mem_map.mp hd
    simp [PyData.depth])
  · have e : (ns.map PyData.int).mergeSort (dataLe false id) = (ns.mergeSort fun a b => decide (a ≤ b)).map PyData.int := by
      refine (List.map_mergeSort fun a _ b _ => ?_).symm
      exact (congrFun (congrFun (dataLe_int (id : Int → Int)) a) b).symm
    have e2 : (ns.mergeSort fun a b => decide (a ≤ b)) = ms := by
      have pm := List.mergeSort_perm ns fun a b => decide (a ≤ b)
      have pw : (ns.mergeSort fun a b => decide (a ≤ b)).Pairwise fun a b => decide (a ≤ b) = true := List.pairwise_mergeSort (fun a b c h1 h2 => by
        have h1 := of_decide_eq_true h1
        have h2 := of_decide_eq_true h2
        exact decide_eq_true (by omega)) (fun a b => by
        by_cases h : a ≤ b
        · simp [h]
        · have : b ≤ a := by omega
          simp [this]) ns
      have nd : (ns.mergeSort fun a b => decide (a ≤ b)).Nodup := pm.nodup_iff.mpr hn
      refine pw_eq ?_ hs fun k => (pm.mem_iff).trans (he k).symm
      refine (pw.and nd).imp fun {a b} ⟨h1, h2⟩ => ?_
      have h1 := of_decide_eq_true h1
      have h2 : a ≠ b := h2
      omega
    rw [e, e2] at h
    exact h
  · have : forall l : List Int, noDictAll (l.map PyData.int) = true := fun l => by
      induction l with
      | nil => rfl
      | cons x L ih => rw [List.map_cons, noDictAll, ih]; rfl
    exact this ns
end Gd

namespace Gd
open PySem PySem.Spec L2
section
variable {X : Cx} {N : En} {a b : Expr} {es : List Expr} {ρ : Rho} {d d2 : PyData} {ds : List PyData} {pos : Pos} {Φ : Post}
/-! ### (x, y, ..).index(z) of texts -/
def tTupM (r : V -> List V -> Hp -> VK -> Prop) (t t2 : TA) : TE := fun σ H Q => t σ H fun xs H1 => xs.length ≤ sizeLine ∧ forall p, H1 p = none -> t2 σ (upd H1 p (.tup xs)) fun ys H2 => r (.ref p) ys H2 Q
theorem pe_tupM {es2 : List Expr} {e : Expr} {x1 : Nat} {tp apos cpos : Pos} {t t2 : TA} {name : Str} {id : String} {r : V -> List V -> Hp -> VK -> Prop} (slot : Slot "tuple" name id) (hty : typeOf (.builtin id) = pure (.type "method_descriptor")) (hm : MtR X id r) (h : PA X es t) (ha : PA X (e :: es2) t2)
    (hbase : attributeBase (.Tuple es x1 tp) name X.env (eval (.Tuple es x1 tp) X.env) = eval (.Tuple es x1 tp) X.env := by rfl)
    (hfew : ((backTo cpos (starEach (e :: es2) X.env)).all (fun x => !x.1) && (backToKw cpos (keywordEach [] X.env)).all (fun x => x.1.isSome)
      && decide ((e :: es2).length + ([] : List Keyword).length + (if ([] : List Keyword).isEmpty then 0 else 1) < 30)) = true := by rfl)
    (hline : (apos.endLine == cpos.line) = true := by rfl) (hs : starEach (e :: es2) X.env = (false, eval e X.env) :: starEach es2 X.env := by rfl) (hplain : (backTo cpos (starEach es2 X.env)).any (·.1) = false := by rfl) :
    PE X (.Call (.Attribute (.Tuple es x1 tp) name apos) (e :: es2) [] cpos) (tTupM r t t2) := by
  refine ⟨fun pins s σ H Q I hq => ?_⟩
  refine wpAny_Call_method_late hbase hfew hline rfl (wpAny_Tuple_spliced (thn (h.run tp pins s σ H _ I hq) fun us s1 ⟨xs, H1, I1, r1, z, q⟩ => ⟨by rw [← r1.length]; exact z, ?_⟩))
  have hf : H1 s1.heap.objs.size = none := I1.hok.fresh (Nat.le_refl _)
  have hg := Heap.get?_push_size s1.heap (o := { cls := .type "tuple", data := .seq us.toArray }) rfl
  refine ⟨"tuple", id, PySem.F.plainAttrs_tuple, slot, hty, ⟨_, hg, rfl⟩, fun a e => by cases e; exact ⟨_, hg, rfl⟩, ?_⟩
  have I2 := I1.laid (t' := s1.toks) (fun b u e => Heap.get?_push_of_some _ e) (Nat.le_refl _) (show ObjOk X.prog X.w _ _ _ (.tup xs) from ⟨z, us, r1, ⟨_, hg, rfl, _, rfl⟩⟩)
  have hA := ha.run cpos pins _ σ _ _ I2 (q _ hf)
  rw [hs] at hA ⊢
  refine Calls.callWith_builtin (by show (false || (backTo cpos (starEach es2 X.env)).any (·.1)) = false; rw [hplain] <;> rfl) (Calls.evalArgs_plain ?_)
  exact thn hA fun us s2 ⟨vs, H2, I2, r2, q2⟩ => hm pins s2 σ H2 (.ref s1.heap.objs.size) vs (.ref s1.heap.objs.size) us Q I2 rfl r2 q2
theorem ge_indexT {ys : List Str} {z : Str} {j x1 : Nat} {tp apos : Pos} (ha : GA X es ρ (ys.map PyData.str)) (hz : ys.length ≤ 1000) (hb : GE X b ρ (.str z)) (hj : ys[j]? = some z) (hn : forall m, m < j -> ys[m]? ≠ some z)
    (hbase : attributeBase (.Tuple es x1 tp) "index" X.env (eval (.Tuple es x1 tp) X.env) = eval (.Tuple es x1 tp) X.env := by rfl)
    (hfew : ((backTo pos (starEach (b :: []) X.env)).all (fun x => !x.1) && (backToKw pos (keywordEach [] X.env)).all (fun x => x.1.isSome) && decide ((b :: []).length + ([] : List Keyword).length + (if ([] : List Keyword).isEmpty then 0 else 1) < 30)) = true := by rfl)
    (hline : (apos.endLine == pos.line) = true := by rfl) (hs1 : starEach (b :: []) X.env = (false, eval b X.env) :: starEach [] X.env := by rfl) (hplain : (backTo pos (starEach [] X.env)).any (·.1) = false := by rfl) : GE X (.Call (.Attribute (.Tuple es x1 tp) "index" apos) [b] [] pos) ρ (.int (j : Nat)) :=
  ge_of (pe_tupM PySem.F.slot_tuple_index PySem.F.type_tuple_index mt_tup_index pa_tw (pa_cons pe_tw pa_nil hs1) hbase hfew hline hs1 hplain) fun σ G H Q s q => ha σ G H _ s fun vs G1 H1 e1 dv => by
    rw [dv.strs]
    refine ⟨by rw [List.length_map, sizeLine_eq]; omega, fun p hp => ?_⟩
    have e2 : Ext G H (upd G1 p (.tup (ys.map V.str))) (upd H1 p (.tup (ys.map V.str))) := e1.trans (.new e1.gh hp)
    refine hb σ _ _ _ (s.ext e2) fun v2 G2 H2 e3 d2 => ?_
    cases d2
    exact ⟨_, ys, z, j, rfl, rfl, .inl (.inl (e3.h _ _ upd_same)), hj, hn, q _ G2 H2 (e2.trans e3) (.int _)⟩
/-! ### tuple(a list) -/
theorem k_tupleL : CalD X (.type "tuple") [.list ds] (.tuple ds) := ⟨_, call_tuple_of, fun vs G H Q gh dv q => by
  cases dv with
  | cons h1 h2 =>
    cases h2
    cases h1 with
    | @lst p xs _ s1 a1 =>
      refine ⟨p, xs, rfl, .inl ⟨.inl (.inl (gh _ _ s1)), fun l hl => ?_⟩⟩
      exact q _ _ _ (.new gh hl) (.tup (.inl (.inl upd_same)) (a1.mono (same_new (gh.free hl))))⟩
/-! ### lists of numbers and None -/
def opI : Option Int -> PyData
  | none => .none
  | some n => .int n
def opV : Option Int -> V
  | none => .non
  | some n => .int n
theorem DqAll.opts {K : PySem.W.Frag} {G : Hp} : forall {vs : List V} {ns : List (Option Int)}, DqAll K G vs (ns.map opI) -> vs = ns.map opV
  | _, [], .nil => rfl
  | _, none :: _, .cons h t => by
    cases h
    rw [DqAll.opts t]
    rfl
  | _, some _ :: _, .cons h t => by
    cases h
    rw [DqAll.opts t]
    rfl
theorem flat_opts (ns : List (Option Int)) : (ns.map opV).all flatV = true := by
  rw [List.all_map, List.all_eq_true]
  intro x _
  cases x <;> rfl
theorem inV_opts (ns : List (Option Int)) : inV .non (ns.map opV) = decide (none ∈ ns) := by
  unfold inV
  rw [Bool.eq_iff_iff, List.any_eq_true, decide_eq_true_eq]
  constructor
  · rintro ⟨y, hy, e⟩
    obtain ⟨x, hx, rfl⟩ := List.mem_map.mp hy
    cases x with
    | none => exact hx
    | some n => cases e
  · intro h
    exact ⟨_, List.mem_map.mpr ⟨_, h, rfl⟩, rfl⟩
theorem c_noneIn {ns : List (Option Int)} : CmpD X .In .none (.list (ns.map opI)) (decide (none ∈ ns)) := ⟨_, op_in_seq, fun v1 v2 G H Q gh h1 h2 q => by
  cases h1
  cases h2 with
  | @lst p xs _ s1 a1 =>
    rw [DqAll.opts a1] at s1
    refine ⟨p, _, rfl, .inl (.inl (.inl (gh _ _ s1))), rfl, flat_opts ns, ?_⟩
    rw [if_neg Bool.false_ne_true, inV_opts]
    exact q _ G H (.refl gh) (.bl _)⟩
theorem ge_indexO {ns : List (Option Int)} {n : Int} {j : Nat} {apos : Pos} (ha : GE X a ρ (.list (ns.map opI))) (hb : GE X b ρ (.int n)) (hj : ns[j]? = some (some n)) (hn : forall m, m < j -> ns[m]? ≠ some (some n))
    (hbase : attributeBase a "index" X.env (eval a X.env) = eval a X.env := by rfl)
    (hfew : ((backTo pos (starEach (b :: []) X.env)).all (fun x => !x.1) && (backToKw pos (keywordEach [] X.env)).all (fun x => x.1.isSome) && decide ((b :: []).length + ([] : List Keyword).length + (if ([] : List Keyword).isEmpty then 0 else 1) < 30)) = true := by rfl)
    (hline : (apos.endLine == pos.line) = true := by rfl) (hs1 : starEach (b :: []) X.env = (false, eval b X.env) :: starEach [] X.env := by rfl) (hplain : (backTo pos (starEach [] X.env)).any (·.1) = false := by rfl) : GE X (.Call (.Attribute a "index" apos) [b] [] pos) ρ (.int (j : Nat)) :=
  ge_of (pe_bm PySem.F.plainAttrs_list PySem.F.slot_list_index PySem.F.type_list_index mt_index pe_tw (pa_cons pe_tw pa_nil hs1) hbase hfew hline hs1 hplain) fun σ G H Q s q => ha σ G H _ s fun v G1 H1 e1 dv => by
    cases dv with
    | lst s1 a1 =>
      rw [DqAll.opts a1] at s1
      refine ⟨.inl ⟨rfl, _, .inl (.inl (e1.gh _ _ s1))⟩, hb σ G1 H1 _ (s.ext e1) fun v2 G2 H2 e2 d2 => ?_⟩
      cases d2
      refine ⟨_, ns.map opV, .int n, j, .int n, rfl, rfl, .inl (.inl (e2.h _ _ (e1.gh _ _ s1))), rfl, flat_opts ns, by rw [List.getElem?_map, hj]; rfl, by show (n == n) = true; exact beq_self_eq_true n, fun m z hm hz => ?_, q _ G2 H2 (e1.trans e2) (.int _)⟩
      rw [List.getElem?_map] at hz
      cases hx : ns[m]? with
      | none => rw [hx] at hz; cases hz
      | some o =>
        rw [hx] at hz
        cases hz
        cases o with
        | none => rfl
        | some k =>
          show (k == n) = false
          rw [beq_eq_false_iff_ne]
          intro e
          exact hn m hm (by rw [hx, e])
/-! ### "DRW".index(sign) -/
def ixS (c : Nat) : Nat := if c = 68 then 0 else if c = 82 then 1 else 2
theorem ge_drw {apos : Pos} {c : Nat} (hc : c = 68 ∨ c = 82 ∨ c = 87) (ha : GE X a ρ (.str (S [68, 82, 87]))) (hb : GE X b ρ (.str (S [c]))) (hs : starEach [b] X.env = [(false, eval b X.env)] := by rfl) (hbase : attributeBase a "index" X.env (eval a X.env) = eval a X.env := by rfl) (hline : (apos.endLine == pos.line) = true := by rfl) :
    GE X (.Call (.Attribute a "index" apos) [b] [] pos) ρ (.int (ixS c : Nat)) :=
  ge_m1 PySem.F.slot_str_index PySem.F.type_str_index mt_sindex ha hb (fun v G H Q gh dv q => by
    cases dv
    refine ⟨_, _, ixS c, [], rfl, rfl, ?_, q _ _ _ (.refl gh) (.int _)⟩
    rcases hc with rfl | rfl | rfl <;> decide +kernel) hs hbase hline
end
end Gd

namespace Gd
open PySem PySem.Spec L2
/-! ### objects that are known whole for a while: added to what is tracked, taken out of it -/
theorem dR_has {P : Program} {w : World} {H : Hp} {h : Heap} {a : Addr} {o : Obj} (e : h.get? a = some o) : ObjOk P w H h a (dR a o) := ⟨e, ⟨o, e⟩, fun h1 h2 z st => st _ z⟩
theorem dR_is {P : Program} {w : World} {H : Hp} {h : Heap} {a : Addr} {o : Obj} (hok : HOk P w H h) (e : H a = some (dR a o)) : h.get? a = some o := (hok a _ e).1
abbrev Dm := Addr -> Option Obj
def addH (H : Hp) (D : Dm) : Hp := fun b => match D b with | some o => some (dR b o) | none => H b
def delH (H : Hp) (D : Dm) : Hp := fun b => match D b with | some _ => none | none => H b
theorem addH_in {H : Hp} {D : Dm} {b : Addr} {o : Obj} (e : D b = some o) : addH H D b = some (dR b o) := by unfold addH; rw [e]
theorem addH_out {H : Hp} {D : Dm} {b : Addr} (e : D b = none) : addH H D b = H b := by unfold addH; rw [e]
theorem delH_in {H : Hp} {D : Dm} {b : Addr} {o : Obj} (e : D b = some o) : delH H D b = none := by unfold delH; rw [e]
theorem delH_out {H : Hp} {D : Dm} {b : Addr} (e : D b = none) : delH H D b = H b := by unfold delH; rw [e]
theorem addH_some {H : Hp} {D : Dm} {b : Addr} {u : HO} (h : addH H D b = some u) (n : forall o, u ≠ dR b o) : D b = none ∧ H b = some u := by
  cases e : D b with
  | none => rw [addH_out e] at h; exact ⟨rfl, h⟩
  | some o => rw [addH_in e] at h; exact absurd (Option.some.inj h).symm (n o)
theorem addH_none {H : Hp} {D : Dm} {b : Addr} (h : addH H D b = none) : D b = none ∧ H b = none := by
  cases e : D b with
  | none => rw [addH_out e] at h; exact ⟨rfl, h⟩
  | some o => rw [addH_in e] at h; cases h
theorem delH_some {H : Hp} {D : Dm} {b : Addr} {u : HO} (h : delH H D b = some u) : D b = none ∧ H b = some u := by
  cases e : D b with
  | none => rw [delH_out e] at h; exact ⟨rfl, h⟩
  | some o => rw [delH_in e] at h; cases h
/-- what is added stands in the heap, is not tracked, is no frame -/
def AddOk (D : Dm) (H : Hp) (h : Heap) (fs : List Addr) : Prop := forall c o, D c = some o -> H c = none ∧ h.get? c = some o ∧ c ∉ fs
theorem dR_ne {b : Addr} {o : Obj} {u : HO} (h : match u with | .ext _ => False | _ => True) : u ≠ dR b o := fun z => by
  subst z
  exact h
theorem hok_add {P : Program} {w : World} {H : Hp} {h : Heap} {D : Dm} (hok : HOk P w H h) (hn : forall c o, D c = some o -> H c = none) (hg : forall c o, D c = some o -> h.get? c = some o) : HOk P w (addH H D) h := fun b u e => by
  cases eD : D b with
  | some o =>
    rw [addH_in eD] at e
    cases e
    exact dR_has (hg b o eD)
  | none =>
    rw [addH_out eD] at e
    refine (hok b u e).stay (fun _ _ _ q => q) (fun d q => ?_) fun d xs q => ?_
    · have n : D d = none := by
        cases z : D d with
        | none => rfl
        | some o => rw [hn d o z] at q; cases q
      rw [addH_out n]; exact q
    · have n : D d = none := by
        cases z : D d with
        | none => rfl
        | some o => rw [hn d o z] at q; cases q
      rw [addH_out n]; exact q
theorem hok_del {P : Program} {w : World} {H : Hp} {h : Heap} {D : Dm} (hok : HOk P w H h) (hn : forall c o, D c = some o -> H c = some (dR c o)) : HOk P w (delH H D) h := fun b u e => by
  obtain ⟨eD, e⟩ := delH_some e
  refine (hok b u e).stay (fun _ _ _ q => q) (fun d q => ?_) fun d xs q => ?_
  · have n : D d = none := by
      cases z : D d with
      | none => rfl
      | some o => rw [hn d o z] at q; cases q
    rw [delH_out n]; exact q
  · have n : D d = none := by
      cases z : D d with
      | none => rfl
      | some o => rw [hn d o z] at q; cases q
    rw [delH_out n]; exact q
section
variable {P : Program} {w : World} {outer : List Env} {H : Hp} {s s' : Shared} {D : Dm} {Q Q' : VK} {E E' : XK} {r : Result}
/-- a call's end, seen with D tracked besides -/
theorem cr_add (hD : AddOk D H s.heap (frs outer)) (hQ : forall v H', (forall c o, D c = some o -> H' c = none) -> Q v H' -> Q' v (addH H' D)) (hE : forall cls d H', (forall c o, D c = some o -> H' c = none) -> E cls d H' -> E' cls d (addH H' D)) (h : CR (L2.CX P w) outer P w H s Q E r s') : CR (L2.CX P w) outer P w (addH H D) s Q' E' r s' := by
  cases r with
  | ok fl =>
    cases fl with
    | ret u =>
      obtain ⟨v, H', os, bare, un, hok, rv, q⟩ := h
      have hn : forall c o, D c = some o -> H' c = none := fun c o e => un.free c o (hD c o e).2.1 (hD c o e).1 (by simp)
      refine ⟨v, addH H' D, os, bare, ⟨fun b o e n hb hx => ?_, fun b o e n hb hx => ?_, fun b o e n hx => ?_, un.there, fun b xs e => ?_, fun b o xs e => ?_, fun b ps e => ?_⟩, hok_add hok hn fun c o e => un.keep c o (hD c o e).2.1 (hD c o e).1 (hD c o e).2.2 (by simp), rv, hQ v H' hn q⟩
      · exact un.keep b o e (addH_none n).2 hb hx
      · exact un.slot b o e (addH_none n).2 hb hx
      · rw [addH_out (addH_none n).1]; exact un.free b o e (addH_none n).2 hx
      · obtain ⟨e1, e2⟩ := addH_some e fun _ => dR_ne trivial
        rw [addH_out e1]; exact un.tups b xs e2
      · obtain ⟨e1, e2⟩ := addH_some e fun _ => dR_ne trivial
        rw [addH_out e1]; exact un.frzs b o xs e2
      · obtain ⟨e1, e2⟩ := addH_some e fun _ => dR_ne trivial
        rw [addH_out e1]; exact un.tbls b ps e2
    | next => exact h
    | brk => exact h
    | cont => exact h
  | error e =>
    obtain ⟨a, B, H', cls, d, rfl, fl, hok, ub, na, os, ag, hq⟩ := h
    have hn : forall c o, D c = some o -> H' c = none := fun c o e => ub.free c o (hD c o e).2.1 (hD c o e).1
    have hg : forall c o, D c = some o -> B.get? c = some o := fun c o e => ub.keep c o (hD c o e).2.1 (hD c o e).1 (hD c o e).2.2
    have naD : D a = none := by
      cases z : D a with
      | none => rfl
      | some o =>
        have := hg a o z
        rw [fl.2.1] at this
        cases this
    refine ⟨a, B, addH H' D, cls, d, rfl, fl, hok_add hok hn hg, ⟨fun b o e n hb => ?_, ub.slot, fun b o e n => ?_, ub.there, fun b xs e => ?_, fun b o xs e => ?_, fun b ps e => ?_⟩, by rw [addH_out naD]; exact na, os, ag, hE _ _ _ hn hq⟩
    · exact ub.keep b o e (addH_none n).2 hb
    · rw [addH_out (addH_none n).1]; exact ub.free b o e (addH_none n).2
    · obtain ⟨e1, e2⟩ := addH_some e fun _ => dR_ne trivial
      rw [addH_out e1]; exact ub.tups b xs e2
    · obtain ⟨e1, e2⟩ := addH_some e fun _ => dR_ne trivial
      rw [addH_out e1]; exact ub.frzs b o xs e2
    · obtain ⟨e1, e2⟩ := addH_some e fun _ => dR_ne trivial
      rw [addH_out e1]; exact ub.tbls b ps e2
/-- a call's end, seen without D -/
theorem cr_del (hD : AddOk D H s.heap (frs outer)) (hQ : forall v H', Q' v H' -> (forall c o, D c = some o -> H' c = some (dR c o)) ∧ Q v (delH H' D)) (hE : forall cls d H', E' cls d H' -> (forall c o, D c = some o -> H' c = some (dR c o)) ∧ E cls d (delH H' D)) (h : CR (L2.CX P w) outer P w (addH H D) s Q' E' r s') : CR (L2.CX P w) outer P w H s Q E r s' := by
  have toA : forall b, H b = none -> D b = none -> addH H D b = none := fun b n z => by rw [addH_out z]; exact n
  have out : forall b u, H b = some u -> D b = none := fun b u e => by
    cases z : D b with
    | none => rfl
    | some o => rw [(hD b o z).1] at e; cases e
  cases r with
  | ok fl =>
    cases fl with
    | ret u =>
      obtain ⟨v, H', os, bare, un, hok, rv, q⟩ := h
      obtain ⟨hn, q⟩ := hQ v H' q
      refine ⟨v, delH H' D, os, bare, ⟨fun b o e n hb hx => ?_, fun b o e n hb hx => ?_, fun b o e n hx => ?_, un.there, fun b xs e => ?_, fun b o xs e => ?_, fun b ps e => ?_⟩, hok_del hok hn, rv, q⟩
      · cases z : D b with
        | none => exact un.keep b o e (toA b n z) hb hx
        | some o' =>
          have e' := (hD b o' z).2.1
          rw [e] at e'
          cases e'
          exact dR_is hok (hn b _ z)
      · cases z : D b with
        | none => exact un.slot b o e (toA b n z) hb hx
        | some o' => exact absurd hb (hD b o' z).2.2
      · cases z : D b with
        | none => rw [delH_out z]; exact un.free b o e (toA b n z) hx
        | some o' => exact delH_in z
      · have z := out b _ e
        rw [delH_out z]
        exact un.tups b xs (by rw [addH_out z]; exact e)
      · have z := out b _ e
        rw [delH_out z]
        exact un.frzs b o xs (by rw [addH_out z]; exact e)
      · have z := out b _ e
        rw [delH_out z]
        exact un.tbls b ps (by rw [addH_out z]; exact e)
    | next => exact h
    | brk => exact h
    | cont => exact h
  | error e =>
    obtain ⟨a, B, H', cls, d, rfl, fl, hok, ub, na, os, ag, hq⟩ := h
    obtain ⟨hn, hq⟩ := hE cls d H' hq
    refine ⟨a, B, delH H' D, cls, d, rfl, fl, hok_del hok hn, ⟨fun b o e n hb => ?_, ub.slot, fun b o e n => ?_, ub.there, fun b xs e => ?_, fun b o xs e => ?_, fun b ps e => ?_⟩, ?_, os, ag, hq⟩
    · cases z : D b with
      | none => exact ub.keep b o e (toA b n z) hb
      | some o' =>
        have e' := (hD b o' z).2.1
        rw [e] at e'
        cases e'
        exact dR_is hok (hn b _ z)
    · cases z : D b with
      | none => rw [delH_out z]; exact ub.free b o e (toA b n z)
      | some o' => exact delH_in z
    · have z := out b _ e
      rw [delH_out z]
      exact ub.tups b xs (by rw [addH_out z]; exact e)
    · have z := out b _ e
      rw [delH_out z]
      exact ub.frzs b o xs (by rw [addH_out z]; exact e)
    · have z := out b _ e
      rw [delH_out z]
      exact ub.tbls b ps (by rw [addH_out z]; exact e)
    · cases z : D a with
      | none => rw [delH_out z]; exact na
      | some o' => exact delH_in z
theorem env0_add {K : PySem.W.Frag} {mg : Str -> Option Value} {base : Heap} {A : Around} (e0 : Env0 P w K mg base A outer s H) (hD : AddOk D H s.heap (frs outer)) (hb : forall c o, D c = some o -> base.get? c = none) : Env0 P w K mg base A outer s (addH H D) := by
  refine ⟨e0.frames, e0.mod, fun b o e => ⟨(e0.bs b o e).1, ?_⟩, e0.bsz, e0.funs, fun b h => ?_, hok_add e0.hok (fun c o e => (hD c o e).1) fun c o e => (hD c o e).2.1, e0.bare⟩
  · have z : D b = none := by
      cases z : D b with
      | none => rfl
      | some o' => rw [hb b o' z] at e; cases e
    rw [addH_out z]; exact (e0.bs b o e).2
  · have z : D b = none := by
      cases z : D b with
      | none => rfl
      | some o' => exact absurd h (hD b o' z).2.2
    rw [addH_out z]; exact e0.frf b h
theorem env0_del {K : PySem.W.Frag} {mg : Str -> Option Value} {base : Heap} {A : Around} (e0 : Env0 P w K mg base A outer s H) (hn : forall c o, D c = some o -> H c = some (dR c o)) : Env0 P w K mg base A outer s (delH H D) := by
  refine ⟨e0.frames, e0.mod, fun b o e => ⟨(e0.bs b o e).1, ?_⟩, e0.bsz, e0.funs, fun b h => ?_, hok_del e0.hok hn, e0.bare⟩
  · cases z : D b with
    | none => rw [delH_out z]; exact (e0.bs b o e).2
    | some o' => exact delH_in z
  · cases z : D b with
    | none => rw [delH_out z]; exact e0.frf b h
    | some o' => exact delH_in z
theorem add_del (hn : forall c o, D c = some o -> H c = some (dR c o)) : addH (delH H D) D = H := by
  funext b
  cases z : D b with
  | none => rw [addH_out z, delH_out z]
  | some o => rw [addH_in z, hn b o z]
theorem del_add (hn : forall c o, D c = some o -> H c = none) : delH (addH H D) D = H := by
  funext b
  cases z : D b with
  | none => rw [delH_out z, addH_out z]
  | some o => rw [delH_in z, hn b o z]
end
end Gd

namespace Gd
open PySem PySem.Spec L2
/-! ### data does not lean on tables, nor on things that are known by a predicate -/
def Opq (u : HO) : Prop := (∃ φ, u = .ext φ) ∨ ∃ ps, u = .tbl ps
/-- .. nor on instances -/
def LessI (G G' : Hp) : Prop := forall b u, G b = some u -> G' b = some u ∨ Opq u ∨ ∃ C dx fs, u = .ins C dx fs
def Less (G G' : Hp) : Prop := forall b u, G b = some u -> G' b = some u ∨ Opq u
theorem Less.at {G G' : Hp} (l : Less G G') {b : Addr} {u : HO} (e : G b = some u) (n : match u with | .ext _ => False | .tbl _ => False | _ => True) : G' b = some u := by
  rcases l b u e with h | ⟨φ, rfl⟩ | ⟨ps, rfl⟩
  · exact h
  · exact n.elim
  · exact n.elim
mutual
theorem Dq.less {K : PySem.W.Frag} {G G' : Hp} (l : Less G G') : forall {v : V} {d : PyData}, Dq K G v d -> Dq K G' v d
  | _, _, .non => .non
  | _, _, .bl b => .bl b
  | _, _, .int i => .int i
  | _, _, .str x => .str x
  | _, _, .lst h a => .lst (l.at h trivial) (DqAll.less l a)
  | _, _, .tup h a => .tup (by
      rcases h with (h | ⟨o, h⟩) | h
      · exact .inl (.inl (l.at h trivial))
      · exact .inl (.inr ⟨o, l.at h trivial⟩)
      · exact .inr h) (DqAll.less l a)
  | _, _, .scr h e => .scr (by
      rcases h with (h | ⟨o, h⟩) | h
      · exact .inl (.inl (l.at h trivial))
      · exact .inl (.inr ⟨o, l.at h trivial⟩)
      · exact .inr h) e
  | _, _, .adr e => .adr e
theorem DqAll.less {K : PySem.W.Frag} {G G' : Hp} (l : Less G G') : forall {vs : List V} {ds : List PyData}, DqAll K G vs ds -> DqAll K G' vs ds
  | _, _, .nil => .nil
  | _, _, .cons h t => .cons (Dq.less l h) (DqAll.less l t)
end
theorem less_del {G : Hp} {D : Dm} (hn : forall c o, D c = some o -> forall u, G c = some u -> u = dR c o) : Less G (delH G D) := fun b u e => by
  cases z : D b with
  | none => exact .inl (by rw [delH_out z]; exact e)
  | some o =>
    rw [hn b o z u e]
    exact .inr (.inl ⟨_, rfl⟩)
theorem DqAll.getB {K : PySem.W.Frag} {G : Hp} {vs : List V} {ds : List PyData} (h : DqAll K G vs ds) {i : Nat} {d : PyData} (e : ds[i]? = some d) : ∃ v, vs[i]? = some v ∧ Dq K G v d := h.get e
theorem LessI.at {G G' : Hp} (l : LessI G G') {b : Addr} {u : HO} (e : G b = some u) (n : match u with | .ext _ => False | .tbl _ => False | .ins _ _ _ => False | _ => True) : G' b = some u := by
  rcases l b u e with h | (⟨φ, rfl⟩ | ⟨ps, rfl⟩) | ⟨C, dx, fs, rfl⟩
  · exact h
  · exact n.elim
  · exact n.elim
  · exact n.elim
mutual
theorem Dq.lessI {K : PySem.W.Frag} {G G' : Hp} (l : LessI G G') : forall {v : V} {d : PyData}, Dq K G v d -> Dq K G' v d
  | _, _, .non => .non
  | _, _, .bl b => .bl b
  | _, _, .int i => .int i
  | _, _, .str x => .str x
  | _, _, .lst h a => .lst (l.at h trivial) (DqAll.lessI l a)
  | _, _, .tup h a => .tup (by
      rcases h with (h | ⟨o, h⟩) | h
      · exact .inl (.inl (l.at h trivial))
      · exact .inl (.inr ⟨o, l.at h trivial⟩)
      · exact .inr h) (DqAll.lessI l a)
  | _, _, .scr h e => .scr (by
      rcases h with (h | ⟨o, h⟩) | h
      · exact .inl (.inl (l.at h trivial))
      · exact .inl (.inr ⟨o, l.at h trivial⟩)
      · exact .inr h) e
  | _, _, .adr e => .adr e
theorem DqAll.lessI {K : PySem.W.Frag} {G G' : Hp} (l : LessI G G') : forall {vs : List V} {ds : List PyData}, DqAll K G vs ds -> DqAll K G' vs ds
  | _, _, .nil => .nil
  | _, _, .cons h t => .cons (Dq.lessI l h) (DqAll.lessI l t)
end
/-! ### a function without parameters that raises -/
/-- calling f, wherever G is tracked, raises an error of the class at C -/
structure Th (P : Program) (w : World) (K : PySem.W.Frag) (mg : Str -> Option Value) (base : Heap) (k : Nat) (G : Hp) (f C : Addr) : Prop where
  fn : ∃ o, G f = some (dR f o) ∧ forall h : Heap, h.get? f = some o -> PySem.W.FnAt f h
  run : forall (A : Around) (outer : List Env) (s : Shared) (H : Hp) (E : XK), Room k A -> Env0 P w K mg base A outer s H -> Same G H -> (forall H', Same H H' -> E (.ref C) none H') ->
    codeAny (model P w) A (.call (.ref f) ⟨[], []⟩) (CR (L2.CX P w) outer P w H s (fun _ _ => False) E) s
theorem Th.mono {P : Program} {w : World} {K : PySem.W.Frag} {mg : Str -> Option Value} {base : Heap} {k : Nat} {G G' : Hp} {f C : Addr} (t : Th P w K mg base k G f C) (s : Same G G') : Th P w K mg base k G' f C :=
  ⟨let ⟨o, a, b⟩ := t.fn; ⟨o, s _ _ a, b⟩, fun A outer s' H E hr e0 sg hE => t.run A outer s' H E hr e0 (s.trans sg) hE⟩
section
variable {X : Cx} {N : En} {ρ : Rho} {pos p1 p2 : Pos} {x : Str} {k k' i : Nat} {f C : Addr} {A : Rho -> Prop} {φ : Hp -> Prop} {d : PyData} {v : V}
/-- the name in slot i, whose cell says what it is -/
theorem gvP (i : Nat) (h : forall G0, φ G0 -> Dq X.K G0 v d) (hc : ρ[i]? = some (.pin v φ) := by rfl) (hN : X.N[i]? = some x := by rfl) (hv : Vis X.env.scope x := by first | exact Or.inl rfl | exact Or.inr (Or.inl rfl) | exact Or.inr (Or.inr rfl)) (hd : (x == ("__debug__" : Str)) = false := by decide)
    (hcd : (x == ("__classdict__" : Str)) = false := by decide) : GE X (.Name x pos) ρ d := ge_of (pe_var hN hv hd hcd) fun σ G H Q hs q => by
  obtain ⟨ov, h1, h2, G0, h3, h4, h5⟩ := hs.at_ i _ hc
  subst h2
  exact ⟨v, h1, q v G H (.refl hs.gh) ((h G0 h5).mono h3)⟩
/-- x(), x a function that raises -/
theorem gx_thunk (i : Nat) (hth : forall G0, φ G0 -> Th X.prog X.w X.K X.mg X.base k G0 f C) (hr : Room k' X.A) (hx : Xok X N A C) (hA : A ρ) (hk : k ≤ k' := by decide) (hc : ρ[i]? = some (.pin (.ref f) φ) := by rfl) (hN : X.N[i]? = some x := by rfl) (hv : Vis X.env.scope x := by first | exact Or.inl rfl | exact Or.inr (Or.inl rfl) | exact Or.inr (Or.inr rfl)) (hd : (x == ("__debug__" : Str)) = false := by decide)
    (hcd : (x == ("__classdict__" : Str)) = false := by decide) : GX X N (.Call (.Name x p1) [] [] p2) ρ := fun P σ H fr pins s I => by
  refine Wp.mk ?_
  obtain ⟨W, tk, hW⟩ := hx
  obtain ⟨G, e0, sp, sta, fs⟩ := fr
  obtain ⟨ov, h1, h2, G0, h3, h4, h5⟩ := sta.at_ i _ hc
  subst h2
  have th := hth G0 h5
  refine wpAny_Call_Name_kw (thn ((pe_var (pos := p1) hN hv hd hcd).run pins s σ H (fun v H1 => v = .ref f ∧ H1 = H) I ⟨.ref f, h1, rfl, rfl⟩) fun u s1 ⟨v, H1, I1, r1, q1⟩ => ?_)
  obtain ⟨rfl, rfl⟩ := q1
  cases r1
  obtain ⟨o, of, fa⟩ := th.fn
  have gH : Same G0 H1 := h3.trans sta.gh
  refine PySem.W.callWith_F0 (fa _ (dR_is I1.hok (gH _ _ of))) ?_
  refine wpAny_call (codeAny_mono (th.run X.A X.stack s1 H1 (WE W σ) (hr.mono hk) I1.env0 gH fun H' sm => ?_) fun r s' hq => ?_)
  · have e2 : Ext G H1 G H' := ⟨Same.refl G, sm, sta.gh.trans sm, fun _ _ => rfl⟩
    exact hW P σ H' ρ hA ⟨G, e0.trans e2, sp, sta.ext e2, fs⟩
  · cases r with
    | error e => exact passAt tk σ pins H1 s1 e s' I1 hq
    | ok fl =>
      cases fl with
      | ret u =>
        obtain ⟨_, _, _, _, _, _, _, z⟩ := hq
        exact z.elim
      | next => exact False.elim hq
      | brk => exact False.elim hq
      | cont => exact False.elim hq
end
/-! ### what a lambda has captured -/
structure ClG (K : PySem.W.Frag) (G : Hp) (cl : List (Str × Addr)) (fr : List Str) (ds : List PyData) : Prop where
  inj : forall x y c, cl.lookup x = some c -> cl.lookup y = some c -> x = y
  all : forall y c, (y, c) ∈ cl -> ∃ (o : Obj) (v : Option Value), G c = some (dR c o) ∧ o.data = .cell v
  has : ∃ vs : List V, DqAll K G vs ds ∧ ds.length = fr.length ∧ forall (i : Nat) (y : Str) (v : V), fr[i]? = some y -> vs[i]? = some v -> ∃ (c : Addr) (o : Obj) (u : Value), cl.lookup y = some c ∧ G c = some (dR c o) ∧ o.data = .cell (some u) ∧ RelV v u
/-- a lambda's context -/
abbrev lcx (P : Program) (w : World) (K : PySem.W.Frag) (mg : Str -> Option Value) (base : Heap) (fr : List Str) (q : Str) (params : Arguments) (scope : Scope) (cl : List (Str × Addr)) (c' f : Addr) (A : Around) (outer : List Env) (s : Shared) (H : Hp) (E : XK) : Cx :=
  NdefX.ncx (L2.CX P w) P w K mg base fr ⟨"<lambda>", q, params, [], scope, cl, c'⟩ f A outer s H E
theorem lam_th {P : Program} {w : World} {K : PySem.W.Frag} {mg : Str -> Option Value} {base : Heap} {k : Nat} {G0 : Hp} {f c' C : Addr} {q : Str} {params : Arguments} {body : Expr} {scope : Scope} {cl : List (Str × Addr)} {pm ctv : Value} {fr : List Str} {ds : List PyData}
    (hf : G0 f = some (dR f (PySem.W.kla_obj "<lambda>" q params body scope cl pm c' ctv))) (hc : G0 c' = some (LamX.CodeO c' q)) (S : NdefX.NScope fr [] fr scope) (hcl : ClG K G0 cl fr ds)
    (hbind : bindArgs (PySem.W.kla_fn "<lambda>" q params body scope cl pm (.ref c') ctv) ⟨[], []⟩ = pure [])
    (hbody : forall (A : Around) (outer : List Env) (s : Shared) (H : Hp) (E : XK) (N : En), Room k (lcx P w K mg base fr q params scope cl c' f A outer s H E).A -> Xok (lcx P w K mg base fr q params scope cl c' f A outer s H E) N (fun _ => True) C ->
      GX (lcx P w K mg base fr q params scope cl c' f A outer s H E) N body (ds.map Cell.dat)) : Th P w K mg base (k + 1) G0 f C := by
  refine ⟨⟨_, hf, fun h e => ⟨_, _, _, _, e⟩⟩, fun A outer s H E hr e0 sg hE => ?_⟩
  generalize hD : (fun c => if c ∈ cl.map (·.2) then s.heap.get? c else none : Dm) = D
  have hDc : forall c o, D c = some o -> (∃ y, (y, c) ∈ cl) ∧ s.heap.get? c = some o := fun c o e => by
    rw [← hD] at e
    have e : (if c ∈ cl.map (·.2) then s.heap.get? c else none) = some o := e
    by_cases hm : c ∈ cl.map (·.2)
    · rw [if_pos hm] at e
      obtain ⟨p, hp, rfl⟩ := List.mem_map.mp hm
      exact ⟨⟨p.1, hp⟩, e⟩
    · rw [if_neg hm] at e
      cases e
  have hDi : forall y c o, (y, c) ∈ cl -> s.heap.get? c = some o -> D c = some o := fun y c o hm e => by
    rw [← hD]
    show (if c ∈ cl.map (·.2) then s.heap.get? c else none) = some o
    rw [if_pos (List.mem_map.mpr ⟨(y, c), hm, rfl⟩)]
    exact e
  have hG : forall c o, D c = some o -> G0 c = some (dR c o) := fun c o e => by
    obtain ⟨⟨y, hm⟩, hg⟩ := hDc c o e
    obtain ⟨o', v, h1, _⟩ := hcl.all y c hm
    have := dR_is e0.hok (sg _ _ h1)
    rw [hg] at this
    cases this
    exact h1
  have hn : forall c o, D c = some o -> H c = some (dR c o) := fun c o e => sg _ _ (hG c o e)
  have hadd : AddOk D (delH H D) s.heap (frs outer) := fun c o e => ⟨delH_in e, (hDc c o e).2, fun z => by
    have := e0.frf c z
    rw [hn c o e] at this
    cases this⟩
  have hof := dR_is e0.hok (sg _ _ hf)
  obtain ⟨⟨oc, vs, t, hoc, hdc, hvc⟩, _, _⟩ := e0.hok c' _ (sg _ _ hc)
  have lim : s.heap.NoLimit := e0.mod.nolimit.keeps fun b o e => (e0.bs b o e).1
  obtain ⟨ws, hws, hlen, hcv⟩ := hcl.has
  have key : codeAny (model P w) A (.call (.ref f) ⟨[], []⟩) (CR (L2.CX P w) outer P w (delH H D) s (fun _ _ => False) fun cls d H' => E cls d (addH H' D)) s := by
    refine PySem.W.kla_callFunE hr.depth hof rfl S.co S.gen rfl ⟨c', oc, vs, t, rfl, hoc, hdc, hvc⟩ ?_
    rw [hbind]
    refine wpAny_pure (wpAny_newFunctionEnv S.nocell (fun y hy => absurd hy (by simp)) (fun h₁ hns hsb => ⟨lim.fresh _ hsb, ?_⟩) S.kind)
    show codeAny _ _ (.expr body (lcx P w K mg base fr q params scope cl c' f A outer s (delH H D) fun cls d H' => E cls d (addH H' D)).env) _ _
    have kp : forall b o, s.heap.get? b = some o -> h₁.get? b = some o := fun b o e => hsb.extBut b o (Nat.ne_of_lt (Heap.lt_size e)) (Heap.get?_push_of_some _ e)
    have inC : forall y c, cl.lookup y = some c -> (y, c) ∈ cl := fun y c e => PySem.mem_of_lookup e
    have CA : NdefX.CellsAt cl fr (ws.map some) s.heap (delH H D) := by
      refine ⟨by rw [List.length_map, hws.length, hlen], fun y c e => ?_, hcl.inj, fun i y e => ?_⟩
      · obtain ⟨o, v, h1, h2⟩ := hcl.all y c (inC y c e)
        have hg := dR_is e0.hok (sg _ _ h1)
        exact ⟨delH_in (hDi y c o (inC y c e) hg), v, o, hg, h2⟩
      · have hi : i < ws.length := by rw [hws.length, hlen]; exact (List.getElem?_eq_some_iff.mp e).1
        obtain ⟨c, o, u, h1, h2, h3, h4⟩ := hcv i y ws[i] e (List.getElem?_eq_getElem hi)
        refine ⟨c, h1, fun v hv => ⟨u, ?_, o, dR_is e0.hok (sg _ _ h2), h3⟩⟩
        rw [List.getElem?_map, List.getElem?_eq_getElem hi] at hv
        cases hv
        exact h4
    have J := NdefX.inv_startN (CX := L2.CX P w) (F := ⟨"<lambda>", q, params, [], scope, cl, c'⟩) (f := f) (E := fun cls d H' => E cls d (addH H' D)) (us := []) (vs := []) (h₁ := h₁) (tk := s.toks + ([] : List (Str × Value)).length) S hr.hd (env0_del e0 hn) rfl .nil CA hns kp
    have gl : Less G0 (delH G0 D) := less_del fun c o e u eu => by
      rw [hG c o e] at eu
      exact (Option.some.inj eu).symm
    have g2 : Same (delH G0 D) (delH H D) := fun b u e => by
      obtain ⟨z, e⟩ := delH_some e
      rw [delH_out z]
      exact sg _ _ e
    have sta : Sta K (delH G0 D) (delH H D) (NdefX.startF fr [] (ws.map some)) (ds.map Cell.dat) := by
      have es : NdefX.startF fr [] (ws.map some) = ws.map some := by
        unfold NdefX.startF
        have : fr.length - ([] : List V).length - (ws.map some).length = 0 := by rw [List.length_map, hws.length, hlen]; simp
        rw [this]
        simp
      rw [es]
      refine ⟨g2, by rw [List.length_map, List.length_map, hws.length], fun i c hc => ?_, fun i j p x y h1 => ?_⟩
      · rw [List.getElem?_map] at hc
        cases hd : ds[i]? with
        | none => rw [hd] at hc; cases hc
        | some d =>
          rw [hd] at hc
          cases hc
          obtain ⟨v, hv, dv⟩ := hws.get hd
          exact ⟨some v, by rw [List.getElem?_map, hv]; rfl, v, rfl, dv.less gl⟩
      · rw [List.getElem?_map] at h1
        cases hd : ds[i]? with
        | none => rw [hd] at h1; cases h1
        | some d => rw [hd] at h1; cases h1
    have fr0 : Gd.Fr K ⟨delH G0 D, delH H D, fun _ => none⟩ (delH G0 D) (NdefX.startF fr [] (ws.map some)) (delH H D) (ds.map Cell.dat) := ⟨delH G0 D, ⟨.refl g2, fun _ _ z => nomatch z⟩, Same.refl _, sta, fun i x p h1 => by
      rw [List.getElem?_map] at h1
      cases hd : ds[i]? with
      | none => rw [hd] at h1; cases h1
      | some d => rw [hd] at h1; cases h1⟩
    refine PySem.W.kla_codeExpr (wpAny_mono (hbody A outer s (delH H D) (fun cls d H' => E cls d (addH H' D)) ⟨delH G0 D, delH H D, fun _ => none⟩ (hr.deeper _) ⟨fun cls d _ H' => E cls d (addH H' D), takes_of rfl rfl rfl rfl, fun P1 σ1 H1 ρ1 _ f1 => ?_⟩ _ _ _ fr0 [] _ J).run (fun v s' hq => ?_) fun e s' hq => hq)
    · obtain ⟨G1, e1, _⟩ := f1
      refine hE _ fun b u e => ?_
      cases z : D b with
      | none =>
        rw [addH_out z]
        exact e1.h b u (by show delH H D b = some u; rw [delH_out z]; exact e)
      | some o =>
        rw [addH_in z]
        rw [hn b o z] at e
        exact e
    · obtain ⟨_, _, _, _, z⟩ := hq
      exact z.elim
  have hC := codeAny_mono key fun r s' h => cr_add (Q' := fun _ _ => False) (E' := E) hadd (fun v H' _ z => z) (fun cls d H' _ z => z) h
  rw [add_del hn] at hC
  exact hC
end Gd

namespace Gd
open PySem PySem.Spec L2
/-! ### tables of code objects beside the data -/
/-- the tables T are tracked apart from G, the code objects that they tell stand in G -/
def TabG (T : List (Addr × Str)) (G H : Hp) : Prop := forall p, p ∈ T -> ∃ ps : Array Value, H p.1 = some (.tbl ps) ∧ G p.1 = none ∧ TriplesOk ps.toList ∧ forall (pos : Pos) (cv : Value), codeAmong pos ps.toList = some cv -> ∃ c, cv = .ref c ∧ G c = some (LamX.CodeO c p.2)
/-- Ext, but the tables may grow -/
structure ExtT (T : List (Addr × Str)) (G H G' H' : Hp) : Prop where
  g : Same G G'
  h : LamX.ExtN H H'
  gh : Same G' H'
  old : forall a, H a ≠ none -> G' a = G a
  tab : TabG T G' H'
theorem TabG.ext {T : List (Addr × Str)} {G H G' H' : Hp} (t : TabG T G H) (e : Ext G H G' H') : TabG T G' H' := fun p hp => by
  obtain ⟨ps, h1, h2, h3, h4⟩ := t p hp
  refine ⟨ps, e.h _ _ h1, by rw [e.old _ (by rw [h1]; exact fun z => nomatch z)]; exact h2, h3, fun pos cv hc => ?_⟩
  obtain ⟨c, a, b⟩ := h4 pos cv hc
  exact ⟨c, a, e.g _ _ b⟩
theorem Ext.toT {T : List (Addr × Str)} {G H G' H' : Hp} (e : Ext G H G' H') (t : TabG T G H) : ExtT T G H G' H' := ⟨e.g, LamX.ExtN.of e.h, e.gh, e.old, t.ext e⟩
theorem ExtT.trans {T : List (Addr × Str)} {G H G1 H1 G2 H2 : Hp} (a : ExtT T G H G1 H1) (b : ExtT T G1 H1 G2 H2) (ht : forall p ps, H p = some (.tbl ps) -> ∃ qs, H1 p = some (.tbl qs)) : ExtT T G H G2 H2 :=
  ⟨a.g.trans b.g, a.h.trans b.h, b.gh, fun x hx => by
    have h1 : H1 x ≠ none := fun z => by
      cases e : H x with
      | none => exact hx e
      | some o =>
        by_cases ho : ∃ ps, o = .tbl ps
        · obtain ⟨ps, rfl⟩ := ho
          obtain ⟨qs, e1⟩ := ht x ps e
          rw [z] at e1
          cases e1
        · have := a.h x o e fun ps y => ho ⟨ps, y⟩
          rw [z] at this
          cases this
    rw [b.old x h1, a.old x hx], b.tab⟩
/-- the reading of a lambda without parameters -/
def tLamT (X : Cx) (T : List (Addr × Str)) (params : Arguments) (body : Expr) (scope : Scope) : TE := fun σ H Q => ∃ G, Same G H ∧ TabG T G H ∧ forall (f c' : Addr) (pm ctv : Value) (G1 H1 : Hp), ExtT T G H G1 H1 -> (forall p ps, H p = some (.tbl ps) -> ∃ qs, H1 p = some (.tbl qs)) -> H f = none ->
  G1 f = some (dR f (PySem.W.kla_obj "<lambda>" (X.env.qual ++ "<lambda>") params body scope (cloFrom X.env.cells scope.names []) pm c' ctv)) -> G1 c' = some (LamX.CodeO c' (X.env.qual ++ "<lambda>")) -> Q (.ref f) H1
theorem tbl_ne {b : Addr} {o : Obj} (ps : Array Value) : dR b o ≠ HO.tbl ps := fun z => by
  unfold dR at z
  cases z
section
variable {X : Cx} {params : Arguments} {body : Expr} {scope : Scope} {pos : Pos} {T : List (Addr × Str)} {c P : Addr}
theorem pe_lamT (TB : LamX.TabB X.base X.mg c P) (hcode : X.env.code = .ref c) (hm : (P, X.env.qual ++ "<lambda>") ∈ T) (hu : forall p, p ∈ T -> p.1 = P -> p.2 = X.env.qual ++ "<lambda>") (L : LamX.LamS X.env.scope scope) (hdef : defaultsOf params X.env = ([], [])) :
    PE X (.Lambda params body scope pos) (tLamT X T params body scope) := by
  refine ⟨fun pins s σ H Q I hq => ?_⟩
  obtain ⟨G, gh, tab, q⟩ := hq
  obtain ⟨ps, hP, gP, ht, ha⟩ := tab _ hm
  have hP : H P = some (.tbl ps) := hP
  have gP : G P = none := gP
  have hPs : s.heap.get? P = some { cls := .none, data := .fields ps } := I.hok P _ hP
  have bP : s.heap.BuiltinsAt X.mg P := TB.bm.keeps I.bk
  have hclo := closure_ok (L.has I.ok)
  refine PySem.W.kla_eval hdef ?_
  cases hca : codeAmong pos ps.toList with
  | some cv =>
    obtain ⟨c', rfl, hco⟩ := ha pos cv hca
    refine PySem.W.kla_makeFunctionHit (mg := X.mg) hclo I.ok.glob (I.mod.glob.keeps I.bk) hcode (TB.code.keeps I.bk) hPs ht hca bP fun ctv h' tk hx hsz => ?_
    have I1 : Inv X pins σ H { s with heap := h', toks := tk } := I.kept hx
    have nf : H h'.objs.size = none := I.hok.fresh hsz
    have I2 := I1.laid (a := h'.objs.size) (o := dR h'.objs.size (PySem.W.kla_obj "<lambda>" (X.env.qual ++ "<lambda>") params body scope (cloFrom X.env.cells scope.names []) ((X.mg "__name__").getD .none) c' ctv)) (t' := tk)
      (h' := h'.push (PySem.W.kla_obj "<lambda>" (X.env.qual ++ "<lambda>") params body scope (cloFrom X.env.cells scope.names []) ((X.mg "__name__").getD .none) c' ctv)) (fun b u e => Heap.get?_push_of_some _ e) (Nat.le_refl _) (dR_has (Heap.get?_push_size _ rfl))
    have ex := Ext.new gh nf (o := dR h'.objs.size (PySem.W.kla_obj "<lambda>" (X.env.qual ++ "<lambda>") params body scope (cloFrom X.env.cells scope.names []) ((X.mg "__name__").getD .none) c' ctv))
    exact ⟨.ref h'.objs.size, _, I2, rfl, q h'.objs.size c' _ ctv _ _ (ex.toT tab) (fun p qs e => ⟨qs, ex.h _ _ e⟩) nf upd_same (ex.g _ _ hco)⟩
  | none =>
    refine PySem.W.kla_makeFunction (mg := X.mg) hclo I.ok.glob (I.mod.glob.keeps I.bk) hcode (TB.code.keeps I.bk) hPs ht hca TB.gP bP fun c' ctv h' tk hx hge hlt hrec htb => ?_
    obtain ⟨c2, oc, vs, t, e2, hoc, hd, hv⟩ := hrec
    cases e2
    have nc : H c' = none := I.hok.fresh hge
    have I1 := LamX.inv_table (t' := tk) (more := #[rawInt pos.line, rawInt pos.col, .ref c']) (h' := h') I hP (fun b o hb e => hx b o hb e) htb hge ⟨oc, vs, t, hoc, hd, hv⟩
    have nf1 := I1.hok.fresh (Nat.le_refl h'.objs.size)
    have hsz : s.heap.objs.size ≤ h'.objs.size := Nat.le_trans hge (Nat.le_of_lt hlt)
    have nf : H h'.objs.size = none := I.hok.fresh hsz
    have I2 := I1.laid (a := h'.objs.size) (o := dR h'.objs.size (PySem.W.kla_obj "<lambda>" (X.env.qual ++ "<lambda>") params body scope (cloFrom X.env.cells scope.names []) ((X.mg "__name__").getD .none) c' ctv)) (t' := tk)
      (h' := h'.push (PySem.W.kla_obj "<lambda>" (X.env.qual ++ "<lambda>") params body scope (cloFrom X.env.cells scope.names []) ((X.mg "__name__").getD .none) c' ctv)) (fun b u e => Heap.get?_push_of_some _ e) (Nat.le_refl _) (dR_has (Heap.get?_push_size _ rfl))
    have gc : G c' = none := gh.free nc
    have gf : G h'.objs.size = none := gh.free nf
    have nPc : P ≠ c' := ne_of_none hP nc
    have nPf : P ≠ h'.objs.size := ne_of_none hP nf
    have ncf : c' ≠ h'.objs.size := Nat.ne_of_lt hlt
    generalize hfo : PySem.W.kla_obj "<lambda>" (X.env.qual ++ "<lambda>") params body scope (cloFrom X.env.cells scope.names []) ((X.mg "__name__").getD .none) c' ctv = fo at I2
    have toG : forall b, b ≠ c' -> b ≠ h'.objs.size -> upd (upd G c' (LamX.CodeO c' (X.env.qual ++ "<lambda>"))) h'.objs.size (dR h'.objs.size fo) b = G b := fun b h1 h2 => by rw [upd_ne h2, upd_ne h1]
    have toH : forall b, b ≠ P -> b ≠ c' -> b ≠ h'.objs.size -> upd (upd (upd H P (.tbl (ps ++ #[rawInt pos.line, rawInt pos.col, .ref c']))) c' (LamX.CodeO c' (X.env.qual ++ "<lambda>"))) h'.objs.size (dR h'.objs.size fo) b = H b := fun b h0 h1 h2 => by rw [upd_ne h2, upd_ne h1, upd_ne h0]
    have hTP : upd (upd (upd H P (.tbl (ps ++ #[rawInt pos.line, rawInt pos.col, .ref c']))) c' (LamX.CodeO c' (X.env.qual ++ "<lambda>"))) h'.objs.size (dR h'.objs.size fo) P = some (.tbl (ps ++ #[rawInt pos.line, rawInt pos.col, .ref c'])) := by rw [upd_ne nPf, upd_ne nPc, upd_same]
    have sG : Same G (upd (upd G c' (LamX.CodeO c' (X.env.qual ++ "<lambda>"))) h'.objs.size (dR h'.objs.size fo)) := fun b o e => by
      rw [toG b (ne_of_none e gc) (ne_of_none e gf)]
      exact e
    have hcG : upd (upd G c' (LamX.CodeO c' (X.env.qual ++ "<lambda>"))) h'.objs.size (dR h'.objs.size fo) c' = some (LamX.CodeO c' (X.env.qual ++ "<lambda>")) := by rw [upd_ne ncf, upd_same]
    have eL : (ps ++ #[rawInt pos.line, rawInt pos.col, .ref c']).toList = ps.toList ++ [rawInt pos.line, rawInt pos.col, .ref c'] := by simp
    refine ⟨.ref h'.objs.size, _, I2, rfl, q h'.objs.size c' _ ctv (upd (upd G c' (LamX.CodeO c' (X.env.qual ++ "<lambda>"))) h'.objs.size (dR h'.objs.size fo)) _ ⟨sG, fun b o e n => ?_, fun b o e => ?_, fun a hx => ?_, fun p hp => ?_⟩ (fun p qs e => ?_) nf (by rw [hfo]; exact upd_same) hcG⟩
    · have h0 : b ≠ P := fun z => by
        rw [z, hP] at e
        exact n ps (Option.some.inj e).symm
      rw [toH b h0 (ne_of_none e nc) (ne_of_none e nf)]
      exact e
    · by_cases h2 : b = h'.objs.size
      · subst h2
        rw [upd_same] at e ⊢
        exact e
      · by_cases h1 : b = c'
        · subst h1
          rw [upd_ne h2, upd_same] at e ⊢
          exact e
        · rw [toG b h1 h2] at e
          have h0 : b ≠ P := fun z => by rw [z, gP] at e; cases e
          rw [toH b h0 h1 h2]
          exact gh b o e
    · exact toG a (fun z => hx (by rw [z]; exact nc)) fun z => hx (by rw [z]; exact nf)
    · by_cases hb : p.1 = P
      · rw [hu p hp hb, hb]
        refine ⟨_, hTP, by rw [toG P nPc nPf]; exact gP, by rw [eL]; exact PySem.TriplesOk_snoc _ _ _ _ ht, fun p' cv hcv => ?_⟩
        rw [eL] at hcv
        rcases LamX.among_app _ ht hcv with z | z
        · obtain ⟨c0, a1, a2⟩ := ha p' cv z
          exact ⟨c0, a1, sG _ _ a2⟩
        · exact ⟨c', z, hcG⟩
      · obtain ⟨ps', a1, a2, a3, a4⟩ := tab p hp
        refine ⟨ps', by rw [toH p.1 hb (ne_of_none a1 nc) (ne_of_none a1 nf)]; exact a1, by rw [toG p.1 (ne_of_none a1 nc) (ne_of_none a1 nf)]; exact a2, a3, fun p' cv hcv => ?_⟩
        obtain ⟨c0, b1, b2⟩ := a4 p' cv hcv
        exact ⟨c0, b1, sG _ _ b2⟩
    · by_cases hb : p = P
      · rw [hb]; exact ⟨_, hTP⟩
      · exact ⟨qs, by rw [toH p hb (ne_of_none e nc) (ne_of_none e nf)]; exact e⟩
end
/-! ### the running frame's cells, tracked while a def runs -/
structure CellsD (X : Cx) (σ : L2.St) (H : Hp) (D : Dm) : Prop where
  free : forall c o, D c = some o -> H c = none
  inj : forall x y c, X.env.cells.lookup x = some c -> X.env.cells.lookup y = some c -> x = y
  all : forall y c, X.env.cells.lookup y = some c -> ∃ (o : Obj) (v : Option Value), D c = some o ∧ o.data = .cell v
  val : forall (i : Nat) (y : Str) (v : V), X.N[i]? = some y -> σ[i]? = some (some v) -> (X.env.scope.names.lookup y = some .cell ∨ X.env.scope.names.lookup y = some .free) -> ∃ (c : Addr) (o : Obj) (u : Value), X.env.cells.lookup y = some c ∧ D c = some o ∧ o.data = .cell (some u) ∧ RelV v u
open Classical in
theorem cellsD_of {X : Cx} {pins : List (Addr × Obj)} {σ : L2.St} {H : Hp} {s : Shared} (I : Inv X pins σ H s) (hfn : forall y, X.fn y = true) : ∃ D : Dm, CellsD X σ H D ∧ AddOk D H s.heap (frs X.stack) ∧ (forall c o, D c = some o -> X.base.get? c = none) ∧ forall c o, D c = some o -> X.s_0.heap.objs.size ≤ c := by
  have hD : forall c o, (if ∃ y, X.env.cells.lookup y = some c then s.heap.get? c else none) = some o -> (∃ y, X.env.cells.lookup y = some c) ∧ s.heap.get? c = some o := fun c o e => by
    by_cases hm : ∃ y, X.env.cells.lookup y = some c
    · rw [if_pos hm] at e
      exact ⟨hm, e⟩
    · rw [if_neg hm] at e
      cases e
  have hI : forall y c o, X.env.cells.lookup y = some c -> s.heap.get? c = some o -> (if ∃ y, X.env.cells.lookup y = some c then s.heap.get? c else none) = some o := fun y c o h1 h2 => by
    rw [if_pos ⟨y, h1⟩]
    exact h2
  refine ⟨fun c => if ∃ y, X.env.cells.lookup y = some c then s.heap.get? c else none, ⟨fun c o e => ?_, I.ok.inj, fun y c e => ?_, fun i y v e1 e2 k => ?_⟩, fun c o e => ?_, fun c o e => ?_, fun c o e => ?_⟩
  · obtain ⟨⟨y, hy⟩, _⟩ := hD c o e
    exact I.freeC y c hy
  · obtain ⟨v, o, ho, hd⟩ := I.cell y c e
    exact ⟨o, v, hI y c o e ho, hd⟩
  · obtain ⟨m, hn, hl⟩ := I.loc
    obtain ⟨u, r, l⟩ := hl i y v e1 e2 (k.elim (fun z => .inr (.inl z)) fun z => .inr (.inr z))
    rcases l with ⟨z, _⟩ | ⟨_, c, hc, o, ho, hd⟩
    · have z' : X.env.scope.names.lookup y = some .local := z
      rcases k with k | k <;> rw [k] at z' <;> cases z'
    · exact ⟨c, o, u, hc, hI y c o hc ho, hd, r⟩
  · obtain ⟨⟨y, hy⟩, hg⟩ := hD c o e
    refine ⟨I.freeC y c hy, hg, fun hm => ?_⟩
    obtain ⟨v, o', ho', hd'⟩ := I.cell y c hy
    rcases List.mem_cons.mp (I.stkSub c hm) with z | z
    · exact I.cne y c hy z
    · obtain ⟨_, o2, ho2, _⟩ := I.ok.funs.mem z
      have h1 := I.ok.cab y c (hfn y) hy
      exact Nat.lt_irrefl _ (Nat.lt_of_lt_of_le (Heap.lt_size ho2) h1)
  · obtain ⟨⟨y, hy⟩, _⟩ := hD c o e
    exact Heap.get?_none_of_le (Nat.le_trans I.ok.bsz (I.ok.cab y c (hfn y) hy))
  · obtain ⟨⟨y, hy⟩, _⟩ := hD c o e
    exact I.ok.cab y c (hfn y) hy
/-- a def called while the running frame's cells are tracked; nothing is raised -/
def tCallC (X : Cx) (sp : Sp) (t : TA) : TE := fun σ H Q => t σ H fun vs H1 => forall D, CellsD X σ H1 D -> sp vs (addH H1 D) (fun v H' => (forall c o, D c = some o -> H' c = some (dR c o)) ∧ Q v (delH H' D)) fun _ _ _ => False
theorem pe_callC {X : Cx} {k k' : Nat} {f : Addr} {fd : FuncData} {ps : List Str} {sp : Sp} {x : Str} {p pos : Pos} {e : Expr} {es : List Expr} {t : TA} (F : FnOk X.prog X.w X.K X.mg X.base (L2.CX X.prog X.w) k f fd ps sp) (hr : Room k' X.A) (hk : k ≤ k') (hg : Gl X x) (hm : X.mg x = some (.ref f)) (kp : PySem.W.keepIn X.K (.ref f) = true) (hb : Binds X.K fd ps [])
    (hfn : forall y, X.fn y = true) (ha : PA X (e :: es) t) (hdb : (x == ("__debug__" : Str)) = false := by decide) (he : starEach (e :: es) X.env = (false, eval e X.env) :: starEach es X.env := by rfl) (hpl : (backTo pos (starEach es X.env)).any (·.1) = false := by rfl) :
    PE X (.Call (.Name x p) (e :: es) [] pos) (tCallC X sp t) := by
  refine ⟨fun pins s σ H Q I h => ?_⟩
  refine wpAny_Call_Name_kw (ld_glob I hg hm ?_ hdb)
  refine PySem.W.callWith_K (h₀ := X.base) I.ok.mod.kin kp (thn (ha.run pos pins s σ H _ I h) fun us s1 ⟨vs, H1, I1, r, q⟩ => ⟨I1.kIn, ?_⟩) he hpl
  obtain ⟨D, cd, ao, hbase, _⟩ := cellsD_of I1 hfn
  have hsp := q D cd
  have hl : us.length = ps.length := by rw [← r.length]; exact F.len _ _ _ _ hsp
  have hbt := hb s1 us I1.kIn (by rw [List.append_nil]; exact hl)
  rw [List.append_nil] at hbt
  refine wpAny_call (codeAny_mono (F.run X.A X.stack s1 (addH H1 D) ⟨us, []⟩ us vs _ _ (hr.mono hk) (env0_add I1.env0 ao hbase) hbt r hsp) fun r' s' hq => ?_)
  have hq := cr_del (Q := Q) (E := fun _ _ _ => False) ao (fun v H' z => z) (fun cls d H' z => z.elim) hq
  cases r' with
  | error e' =>
    obtain ⟨_, _, _, _, _, _, _, _, _, _, _, _, z⟩ := hq
    exact z.elim
  | ok fl =>
    cases fl with
    | ret u => exact I1.after hq
    | next => exact False.elim hq
    | brk => exact False.elim hq
    | cont => exact False.elim hq
end Gd

namespace Gd
open PySem PySem.Spec L2
/-! ### bodies that make lambdas: the tables T stand beside the data -/
def TabP (T : List (Addr × Str)) (G : Hp) : Prop := forall p, p ∈ T -> ∃ ps : Array Value, G p.1 = some (.tbl ps) ∧ TriplesOk ps.toList ∧ forall (pos : Pos) (cv : Value), codeAmong pos ps.toList = some cv -> ∃ c, cv = .ref c ∧ G c = some (LamX.CodeO c p.2)
theorem TabP.mono {T : List (Addr × Str)} {G G' : Hp} (t : TabP T G) (s : Same G G') : TabP T G' := fun p hp => by
  obtain ⟨ps, h1, h2, h3⟩ := t p hp
  refine ⟨ps, s _ _ h1, h2, fun pos cv hc => ?_⟩
  obtain ⟨c, a, b⟩ := h3 pos cv hc
  exact ⟨c, a, s _ _ b⟩
/-- the entry tells of no table -/
structure NoT (N : En) : Prop where
  g : Same N.g N.h
  h : forall b ps, N.h b ≠ some (.tbl ps)
  p : forall b ps, N.p b ≠ some (.tbl ps)
def OffT (T : List (Addr × Str)) (P : Hp) : Prop := forall p, p ∈ T -> P p.1 = none
def plusT (T : List (Addr × Str)) (G H : Hp) : Hp := fun b => if b ∈ T.map (·.1) then H b else G b
def minusT (T : List (Addr × Str)) (G : Hp) : Hp := fun b => if b ∈ T.map (·.1) then none else G b
theorem plus_in {T : List (Addr × Str)} {G H : Hp} {b : Addr} (h : b ∈ T.map (·.1)) : plusT T G H b = H b := if_pos h
theorem plus_out {T : List (Addr × Str)} {G H : Hp} {b : Addr} (h : b ∉ T.map (·.1)) : plusT T G H b = G b := if_neg h
theorem minus_in {T : List (Addr × Str)} {G : Hp} {b : Addr} (h : b ∈ T.map (·.1)) : minusT T G b = none := if_pos h
theorem minus_out {T : List (Addr × Str)} {G : Hp} {b : Addr} (h : b ∉ T.map (·.1)) : minusT T G b = G b := if_neg h
def FrL (K : PySem.W.Frag) (N : En) (T : List (Addr × Str)) (P : Hp) (σ : L2.St) (H : Hp) (ρ : Rho) : Prop := ∃ Gp, Gd.Fr K N Gp σ H ρ ∧ Same P Gp ∧ OffT T P ∧ TabP T Gp
/-- the state with the tables out of the data -/
def FrO (K : PySem.W.Frag) (N : En) (T : List (Addr × Str)) (P G : Hp) (σ : L2.St) (H : Hp) (ρ : Rho) : Prop :=
  ExN N G H ∧ Same P G ∧ Sta K G H σ ρ ∧ (forall (i : Nat) (x : Own) (p : Addr), ρ[i]? = some (.owx x) -> σ[i]? = some (some (.ref p)) -> N.h p = none) ∧ TabG T G H
theorem OwnOk.less {K : PySem.W.Frag} {G G' : Hp} {p : Addr} {u : HO} {x : Own} (l : Less G G') (h : OwnOk K G p u x) : OwnOk K G' p u x := by
  have de : forall {kvs : List (PyData × PyData)} {xs : List (NestedKey × Addr × Value)}, DEnt K G kvs xs -> DEnt K G' kvs xs := fun {kvs} => by
    induction kvs with
    | nil => intro xs h; cases xs with
      | nil => trivial
      | cons _ _ => exact h.elim
    | cons kv kvs ih => intro xs h; cases xs with
      | nil => exact h.elim
      | cons y ys =>
        obtain ⟨⟨a, b, ⟨v, c, d⟩, e⟩, t⟩ := h
        exact ⟨⟨a, b.less l, ⟨v, c, d.less l⟩, e⟩, ih t⟩
  cases x with
  | list ds =>
    obtain ⟨vs, a, b⟩ := h
    exact ⟨vs, a, b.less l⟩
  | dict hs kvs =>
    obtain ⟨o, a, xs, b, c⟩ := h
    exact ⟨o, a, xs, b, de c⟩
  | memo q hs kvs =>
    obtain ⟨z, o, a, xs, b, c⟩ := h
    exact ⟨z, o, a, xs, b, de c⟩
theorem own_tbl {K : PySem.W.Frag} {G : Hp} {p : Addr} {u : HO} {x : Own} (h : OwnOk K G p u x) (ps : Array Value) : u ≠ .tbl ps := fun z => by
  subst z
  cases x with
  | list ds => obtain ⟨vs, a, _⟩ := h; cases a
  | dict hs kvs => obtain ⟨o, a, _⟩ := h; exact tbl_ne ps a.symm
  | memo q hs kvs => obtain ⟨_, o, a, _⟩ := h; exact tbl_ne ps a.symm
section
variable {K : PySem.W.Frag} {N : En} {T : List (Addr × Str)} {P G : Hp} {σ : L2.St} {H : Hp} {ρ : Rho}
theorem mem_fst {b : Addr} (h : b ∈ T.map (·.1)) : ∃ p, p ∈ T ∧ p.1 = b := by
  obtain ⟨p, hp, e⟩ := List.mem_map.mp h
  exact ⟨p, hp, e⟩
theorem FrL.down (f : FrL K N T P σ H ρ) (hn : NoT N) : ∃ G, FrO K N T P G σ H ρ := by
  obtain ⟨Gp, ⟨G, e0, sp, sta, fr⟩, pg, off, tab⟩ := f
  have tG := tab.mono sp
  have isT : forall b, b ∈ T.map (·.1) -> ∃ ps, G b = some (.tbl ps) := fun b h => by
    obtain ⟨p, hp, rfl⟩ := mem_fst h
    obtain ⟨ps, h1, _⟩ := tG p hp
    exact ⟨ps, h1⟩
  have ls : Less G (minusT T G) := fun b u e => by
    by_cases h : b ∈ T.map (·.1)
    · obtain ⟨ps, h1⟩ := isT b h
      rw [h1] at e
      exact .inr (.inr ⟨ps, (Option.some.inj e).symm⟩)
    · exact .inl (by rw [minus_out h]; exact e)
  have keep : forall b u, G b = some u -> (forall ps, u ≠ .tbl ps) -> minusT T G b = some u := fun b u e n => by
    rcases ls b u e with h | ⟨φ, z⟩ | ⟨ps, z⟩
    · exact h
    · by_cases h : b ∈ T.map (·.1)
      · obtain ⟨ps, h1⟩ := isT b h
        rw [h1] at e
        exact absurd (Option.some.inj e).symm (n ps)
      · rw [minus_out h]; exact e
    · exact absurd z (n ps)
  have sH : Same (minusT T G) H := fun b u e => by
    by_cases h : b ∈ T.map (·.1)
    · rw [minus_in h] at e; cases e
    · rw [minus_out h] at e; exact sta.gh b u e
  have nN : forall b, N.h b ≠ none -> b ∉ T.map (·.1) := fun b hb h => by
    obtain ⟨ps, h1⟩ := isT b h
    cases z : N.h b with
    | none => exact hb z
    | some u =>
      have := e0.h b u z
      rw [sta.gh _ _ h1] at this
      cases this
      exact hn.h b ps z
  refine ⟨minusT T G, ⟨⟨fun b u e => ?_, e0.h, sH, fun a ha => ?_⟩, fun b u e => ?_⟩, fun b u e => ?_, ⟨sH, sta.len, fun i c hc => ?_, sta.apart⟩, fr, fun p hp => ?_⟩
  · refine keep b u (e0.g b u e) fun ps z => hn.h b ps ?_
    rw [← z]
    exact hn.g b u e
  · rw [minus_out (nN a ha)]
    exact e0.old a ha
  · exact keep b u (e0.pin b u e) fun ps z => hn.p b ps (by rw [← z]; exact e)
  · have h : b ∉ T.map (·.1) := fun h => by
      obtain ⟨p, hp, rfl⟩ := mem_fst h
      rw [off p hp] at e
      cases e
    rw [minus_out h]
    exact sp b u (pg b u e)
  · obtain ⟨ov, o1, o2⟩ := sta.at_ i c hc
    refine ⟨ov, o1, ?_⟩
    cases c with
    | any => trivial
    | raw v => exact o2
    | dat d =>
      obtain ⟨v, r1, r2⟩ := o2
      exact ⟨v, r1, r2.less ls⟩
    | owx x =>
      obtain ⟨q, u, r1, r2, r3, r4⟩ := o2
      refine ⟨q, u, r1, ?_, r3, r4.less ls⟩
      by_cases h : q ∈ T.map (·.1)
      · exact minus_in h
      · rw [minus_out h]; exact r2
    | fdc hs kvs =>
      obtain ⟨q, o, r1, r2, xs, r3, r4⟩ := o2
      obtain ⟨o', z, r5⟩ := OwnOk.less (p := q) (u := dR q o) (x := .dict hs kvs) ls ⟨o, rfl, xs, r3, r4⟩
      have : o' = o ∨ True := .inr trivial
      refine ⟨q, o, r1, keep q _ r2 fun ps => tbl_ne ps, xs, r3, ?_⟩
      obtain ⟨o2, z2, r6⟩ := OwnOk.less (p := q) (u := dR q o) (x := .dict hs kvs) ls ⟨o, rfl, xs, r3, r4⟩
      have de : forall {kvs : List (PyData × PyData)} {xs : List (NestedKey × Addr × Value)}, DEnt K G kvs xs -> DEnt K (minusT T G) kvs xs := fun {kvs} => by
        induction kvs with
        | nil => intro xs h; cases xs with
          | nil => trivial
          | cons _ _ => exact h.elim
        | cons kv kvs ih => intro xs h; cases xs with
          | nil => exact h.elim
          | cons y ys =>
            obtain ⟨⟨a, b, ⟨v, c, d⟩, e⟩, t⟩ := h
            exact ⟨⟨a, b.less ls, ⟨v, c, d.less ls⟩, e⟩, ih t⟩
      exact de r4
    | pin v φ =>
      obtain ⟨r1, G0, r2, r3, r4⟩ := o2
      exact ⟨r1, G0, fun b u e => keep b u (r2 b u e) fun ps z => r3 b ps (by rw [← z]; exact e), r3, r4⟩
  · obtain ⟨ps, h1, h2, h3⟩ := tG p hp
    refine ⟨ps, sta.gh _ _ h1, minus_in (List.mem_map.mpr ⟨p, hp, rfl⟩), h2, fun pos cv hc => ?_⟩
    obtain ⟨c, a, b⟩ := h3 pos cv hc
    exact ⟨c, a, keep c _ b fun ps => LamX.codeO_ne ps⟩
theorem FrO.up (f : FrO K N T P G σ H ρ) (hn : NoT N) : FrL K N T P σ H ρ := by
  obtain ⟨e0, sp, sta, fr, tab⟩ := f
  have off : forall b, b ∈ T.map (·.1) -> G b = none := fun b h => by
    obtain ⟨p, hp, rfl⟩ := mem_fst h
    obtain ⟨ps, _, h1, _⟩ := tab p hp
    exact h1
  have isT : forall b, b ∈ T.map (·.1) -> ∃ ps, H b = some (.tbl ps) := fun b h => by
    obtain ⟨p, hp, rfl⟩ := mem_fst h
    obtain ⟨ps, h1, _⟩ := tab p hp
    exact ⟨ps, h1⟩
  have sG : Same G (plusT T G H) := fun b u e => by
    by_cases h : b ∈ T.map (·.1)
    · rw [off b h] at e; cases e
    · rw [plus_out h]; exact e
  have sH : Same (plusT T G H) H := fun b u e => by
    by_cases h : b ∈ T.map (·.1)
    · rw [plus_in h] at e; exact e
    · rw [plus_out h] at e; exact sta.gh b u e
  refine ⟨plusT T G H, ⟨plusT T G H, ⟨⟨e0.g.trans sG, e0.h, sH, fun a ha => ?_⟩, e0.pin.trans sG⟩, Same.refl _, ⟨sH, sta.len, fun i c hc => ?_, sta.apart⟩, fr⟩, sp.trans sG, fun p hp => ?_, fun p hp => ?_⟩
  · have h : a ∉ T.map (·.1) := fun h => by
      obtain ⟨ps, h1⟩ := isT a h
      cases z : N.h a with
      | none => exact ha z
      | some u =>
        have := e0.h a u z
        rw [h1] at this
        cases this
        exact hn.h a ps z
    rw [plus_out h]
    exact e0.old a ha
  · obtain ⟨ov, o1, o2⟩ := sta.at_ i c hc
    refine ⟨ov, o1, ?_⟩
    cases c with
    | any => trivial
    | raw v => exact o2
    | dat d =>
      obtain ⟨v, r1, r2⟩ := o2
      exact ⟨v, r1, r2.mono sG⟩
    | owx x =>
      obtain ⟨q, u, r1, r2, r3, r4⟩ := o2
      refine ⟨q, u, r1, ?_, r3, r4.mono sG⟩
      by_cases h : q ∈ T.map (·.1)
      · obtain ⟨ps, h1⟩ := isT q h
        rw [h1] at r3
        exact absurd (Option.some.inj r3).symm (own_tbl r4 ps)
      · rw [plus_out h]; exact r2
    | fdc hs kvs =>
      obtain ⟨q, o, r1, r2, r3⟩ := o2
      exact ⟨q, o, r1, sG _ _ r2, r3.mono sG⟩
    | pin v φ =>
      obtain ⟨r1, G0, r2, r3⟩ := o2
      exact ⟨r1, G0, r2.trans sG, r3⟩
  · cases z : P p.1 with
    | none => rfl
    | some u =>
      have := sp _ _ z
      rw [off _ (List.mem_map.mpr ⟨p, hp, rfl⟩)] at this
      cases this
  · obtain ⟨ps, h1, h2, h3, h4⟩ := tab p hp
    refine ⟨ps, by rw [plus_in (List.mem_map.mpr ⟨p, hp, rfl⟩)]; exact h1, h3, fun pos cv hc => ?_⟩
    obtain ⟨c, a, b⟩ := h4 pos cv hc
    exact ⟨c, a, sG _ _ b⟩
/-- behind a step that lets tables grow -/
theorem FrO.extT {G' H' : Hp} (f : FrO K N T P G σ H ρ) (hn : NoT N) (e : ExtT T G H G' H') : FrO K N T P G' σ H' ρ := by
  obtain ⟨e0, sp, sta, fr, tab⟩ := f
  refine ⟨⟨⟨e0.g.trans e.g, fun b u z => e.h b u (e0.h b u z) fun ps y => hn.h b ps (by rw [← y]; exact z), e.gh, fun a ha => ?_⟩, e0.pin.trans e.g⟩, sp.trans e.g, ⟨e.gh, sta.len, fun i c hc => ?_, sta.apart⟩, fr, e.tab⟩
  · have : H a ≠ none := fun y => by
      cases z : N.h a with
      | none => exact ha z
      | some u =>
        have := e0.h a u z
        rw [y] at this
        cases this
    rw [e.old a this]
    exact e0.old a ha
  · obtain ⟨ov, o1, o2⟩ := sta.at_ i c hc
    refine ⟨ov, o1, ?_⟩
    cases c with
    | any => trivial
    | raw v => exact o2
    | dat d =>
      obtain ⟨v, r1, r2⟩ := o2
      exact ⟨v, r1, r2.mono e.g⟩
    | owx x =>
      obtain ⟨q, u, r1, r2, r3, r4⟩ := o2
      exact ⟨q, u, r1, by rw [e.old q (by rw [r3]; exact fun z => nomatch z)]; exact r2, e.h _ _ r3 (own_tbl r4), r4.mono e.g⟩
    | fdc hs kvs =>
      obtain ⟨q, o, r1, r2, r3⟩ := o2
      exact ⟨q, o, r1, e.g _ _ r2, r3.mono e.g⟩
    | pin v φ =>
      obtain ⟨r1, G0, r2, r3⟩ := o2
      exact ⟨r1, G0, r2.trans e.g, r3⟩
end
/-! ### blocks -/
def endsL (K : PySem.W.Frag) (N : En) (T : List (Addr × Str)) (P : Hp) (Φ : Post) : Ends where
  nx := fun σ H => ∃ ρ, FrL K N T P σ H ρ ∧ Φ.nx ρ
  rt := fun v H => ∃ d, (∃ Gp, Rt K N Gp none v H d ∧ Same P Gp ∧ OffT T P ∧ TabP T Gp) ∧ Φ.rt d
  bk := fun σ H => ∃ ρ, FrL K N T P σ H ρ ∧ Φ.bk ρ
  ct := fun σ H => ∃ ρ, FrL K N T P σ H ρ ∧ Φ.ct ρ
def GSL (X : Cx) (N : En) (T : List (Addr × Str)) (ss : List Stmt) (ρ : Rho) (Φ : Post) : Prop := forall (P : Hp) (σ : L2.St) (H : Hp), FrL X.K N T P σ H ρ -> tws X ss (endsL X.K N T P Φ) σ H
def G1L (X : Cx) (N : En) (T : List (Addr × Str)) (st : Stmt) (ρ : Rho) (Φ : Post) : Prop := forall (P : Hp) (σ : L2.St) (H : Hp), FrL X.K N T P σ H ρ -> twp X st (endsL X.K N T P Φ) σ H
def GTL (X : Cx) (N : En) (T : List (Addr × Str)) (c : Expr) (ρ : Rho) (k : Bool) : Prop := forall (P : Hp) (σ : L2.St) (H : Hp), FrL X.K N T P σ H ρ -> twT X c σ H fun b H' => b = k ∧ FrL X.K N T P σ H' ρ
def GBL (X : Cx) (N : En) (T : List (Addr × Str)) (e : Expr) (ρ : Rho) (k : Bool) : Prop := forall (P : Hp) (σ : L2.St) (H : Hp), FrL X.K N T P σ H ρ -> tw X e σ H fun v H' => v = .bl k ∧ FrL X.K N T P σ H' ρ
section
variable {X : Cx} {N : En} {T : List (Addr × Str)} {st : Stmt} {rest body orelse : List Stmt} {e a b c tg iter : Expr} {ρ : Rho} {d : PyData} {pos : Pos} {Φ : Post} {k k' : Bool}
theorem ends_toL {P Gp : Hp} (pg : Same P Gp) (off : OffT T P) (tab : TabP T Gp) (hm : Φ.mm = none) : EndsLe (ends X.K N Gp Φ) (endsL X.K N T P Φ) :=
  ⟨fun _ _ ⟨ρ, f, q⟩ => ⟨ρ, ⟨Gp, f, pg, off, tab⟩, q⟩, fun _ _ ⟨d, r, q⟩ => ⟨d, ⟨Gp, by rw [hm] at r; exact r, pg, off, tab⟩, q⟩, fun _ _ ⟨ρ, f, q⟩ => ⟨ρ, ⟨Gp, f, pg, off, tab⟩, q⟩, fun _ _ ⟨ρ, f, q⟩ => ⟨ρ, ⟨Gp, f, pg, off, tab⟩, q⟩⟩
theorem g1l_of (h : G1 X N st ρ Φ) (hm : Φ.mm = none := by rfl) : G1L X N T st ρ Φ := fun P σ H ⟨Gp, f, pg, off, tab⟩ => twp_mono (ends_toL pg off tab hm) (h Gp σ H f)
theorem gsl_of {ss : List Stmt} (h : GS X N ss ρ Φ) (hm : Φ.mm = none := by rfl) : GSL X N T ss ρ Φ := fun P σ H ⟨Gp, f, pg, off, tab⟩ => tws_mono (ends_toL pg off tab hm) (h Gp σ H f)
theorem gsl_nil (h : Φ.nx ρ) : GSL X N T [] ρ Φ := fun P σ H f => fun pins s I => ⟨pss_nil.run pins s σ H _ I ⟨ρ, f, h⟩⟩
theorem gsl_consL (h : G1L X N T st ρ { Φ with nx := fun ρ' => GSL X N T rest ρ' Φ }) : GSL X N T (st :: rest) ρ Φ := fun P σ H f pins s I => Wp.mk <|
  (pss_cons ps_tw pss_tw).run pins s σ H _ I (twp_mono (D := endsL X.K N T P { Φ with nx := fun ρ' => GSL X N T rest ρ' Φ }) ⟨fun _ _ ⟨_, f', g⟩ => g P _ _ f', fun _ _ q => q, fun _ _ q => q, fun _ _ q => q⟩ (h P σ H f))
theorem gsl_cons (h : G1 X N st ρ { Φ with nx := fun ρ' => GSL X N T rest ρ' Φ }) (hm : Φ.mm = none := by rfl) : GSL X N T (st :: rest) ρ Φ := gsl_consL (g1l_of h hm)
theorem gtl_of (h : GT X c ρ k) : GTL X N T c ρ k := fun P σ H ⟨Gp, f, pg, off, tab⟩ => f.evT h fun H' f' => ⟨rfl, Gp, f', pg, off, tab⟩
theorem gtl_val (h : GBL X N T e ρ k) (he : forall whole, isTrue e X.env whole = (do let v ← whole; standAt e.pos; holding [v] (truthy v)) := by intro _; rfl) : GTL X N T e ρ k := fun P σ H f pins s I => Wp.mk <|
  (pt_val pe_tw he).run pins s σ H _ I fun pins' s' I' => ⟨thn (h P σ H f pins' s' I').run fun u s1 ⟨v, H1, I1, r1, z⟩ => ⟨v, H1, I1, r1, k, z.1, rfl, z.2⟩⟩
theorem gtl_not (h : GTL X N T a ρ k) : GTL X N T (.UnaryOp .Not a pos) ρ (!k) := fun P σ H f pins s I => Wp.mk <|
  (pt_not pt_tw).run pins s σ H _ I fun pins' s' I' => ⟨thn (h P σ H f pins' s' I').run fun u s1 ⟨H1, I1, z⟩ => ⟨H1, I1, by rw [z.1], z.2⟩⟩
def GWL (X : Cx) (N : En) (T : List (Addr × Str)) (c : Expr) (ρ : Rho) (k : Bool) : Prop := forall (P : Hp) (σ : L2.St) (H : Hp), FrL X.K N T P σ H ρ -> twW X c σ H fun b H' => b = k ∧ FrL X.K N T P σ H' ρ
theorem gtl_w (h : GWL X N T e ρ k) : GTL X N T e ρ k := fun P σ H f pins s I => Wp.mk <| pw_tw.pt.run pins s σ H _ I (h P σ H f)
theorem gwl_or1 (h : GTL X N T a ρ k) : GWL X N T (.BoolOp .Or [a] pos) ρ k := fun P σ H f wh pins s I => Wp.mk <| (pw_or1 pt_tw).run wh pins s σ H _ I (h P σ H f)
theorem gwl_or {rest : List Expr} (ha : GTL X N T a ρ k) (hb : k = false -> GWL X N T (.BoolOp .Or (b :: rest) pos) ρ k') : GWL X N T (.BoolOp .Or (a :: b :: rest) pos) ρ (k || k') := fun P σ H f wh pins s I => Wp.mk <|
  (pw_or pt_tw pw_tw).run wh pins s σ H _ I fun pins' s' I' => ⟨thn (ha P σ H f pins' s' I').run fun u s1 ⟨H1, I1, z⟩ => ⟨H1, I1, by
    obtain ⟨rfl, f1⟩ := z
    cases u with
    | true => rw [if_pos rfl]; exact ⟨rfl, f1⟩
    | false => rw [if_neg Bool.false_ne_true]; exact hb rfl P σ H1 f1⟩⟩
theorem gwl_and1 (h : GTL X N T a ρ k) : GWL X N T (.BoolOp .And [a] pos) ρ k := fun P σ H f wh pins s I => Wp.mk <| (pw_and1 pt_tw).run wh pins s σ H _ I (h P σ H f)
theorem gwl_and {rest : List Expr} (ha : GTL X N T a ρ k) (hb : k = true -> GWL X N T (.BoolOp .And (b :: rest) pos) ρ k') : GWL X N T (.BoolOp .And (a :: b :: rest) pos) ρ (k && k') := fun P σ H f wh pins s I => Wp.mk <|
  (pw_and pt_tw pw_tw).run wh pins s σ H _ I fun pins' s' I' => ⟨thn (ha P σ H f pins' s' I').run fun u s1 ⟨H1, I1, z⟩ => ⟨H1, I1, by
    obtain ⟨rfl, f1⟩ := z
    cases u with
    | true => rw [if_pos rfl]; exact hb rfl P σ H1 f1
    | false => rw [if_neg Bool.false_ne_true]; exact ⟨rfl, f1⟩⟩⟩
theorem g1l_if (hc : GTL X N T c ρ k) (ht : k = true -> GSL X N T body ρ Φ) (hf : k = false -> GSL X N T orelse ρ Φ) : G1L X N T (.If c body orelse pos) ρ Φ := fun P σ H f pins s I => Wp.mk <|
  (ps_if pt_tw pss_tw pss_tw).run pins s σ H _ I fun pins' s' I' => ⟨thn (hc P σ H f pins' s' I').run fun u s1 ⟨H1, I1, z⟩ => ⟨H1, I1, by
    obtain ⟨rfl, f1⟩ := z
    cases u with
    | true => rw [if_pos rfl]; exact ht rfl P σ H1 f1
    | false => rw [if_neg Bool.false_ne_true]; exact hf rfl P σ H1 f1⟩⟩
theorem FrO.ext {G H G' H' P : Hp} {σ : L2.St} (f : FrO X.K N T P G σ H ρ) (e : Ext G H G' H') (hn : NoT N) : FrO X.K N T P G' σ H' ρ := f.extT hn (e.toT f.2.2.2.2)
theorem g1l_for {α : Type} (L : List α) (g : α -> PyData) {Tt : Tg} (hn : NoT N) (hi : GI X tg iter ρ (L.map g)) (ht : GTg X tg Tt) (I : Nat -> Rho -> Prop) (h0 : I 0 ρ)
    (hs : forall (i : Nat) (x : α) (ρ1 : Rho), L[i]? = some x -> I i ρ1 -> ∃ ρ2, Tt.put (g x) ρ1 = some ρ2 ∧ GSL X N T body ρ2 { Φ with nx := I (i + 1), ct := I (i + 1), bk := Φ.nx }) (hd : forall ρ1, I L.length ρ1 -> Φ.nx ρ1)
    (hp : PassesOwn (model X.prog X.w) X.A X.env X.xe) (hc : X.calm = true := by rfl) (hfs : forall x, foldedSetIterable iter X.env x = pure x := by intro _; rfl) : G1L X N T (.For tg iter body [] pos) ρ Φ := fun P σ H f pins s J0 => Wp.mk <| by
  obtain ⟨wi, hpi, hw⟩ := hi
  refine (ps_for hp hc hpi ht pss_tw hfs).run pins s σ H _ J0 ?_
  obtain ⟨G, fo⟩ := f.down hn
  refine hw σ G H _ fo.2.2.1 fun J G' H' e1 wk => ?_
  have fo1 : FrO X.K N T P G' σ H' ρ := fo.ext e1 hn
  have sp' : Same P G' := fo1.2.1
  have off' : OffT T G' := fun p hp => by
    obtain ⟨_, _, z, _⟩ := fo1.2.2.2.2 p hp
    exact z
  have f0 : FrO X.K N T G' G' σ H' ρ := ⟨fo1.1, Same.refl _, fo1.2.2⟩
  refine ⟨fun i m σ H => m = L.length - i ∧ i ≤ L.length ∧ ∃ ρ1, FrL X.K N T G' σ H ρ1 ∧ I i ρ1, ⟨_, rfl, Nat.zero_le _, ρ, f0.up hn, h0⟩, fun i m σ1 H1 hW => ?_⟩
  have toP : forall {σ2 : L2.St} {H2 : Hp} {ρ2 : Rho}, FrL X.K N T G' σ2 H2 ρ2 -> FrL X.K N T P σ2 H2 ρ2 := fun ⟨Gp, a, b, _, c⟩ => ⟨Gp, a, sp'.trans b, fun p hp => sp'.free (off' p hp), c⟩
  obtain ⟨rfl, hle, ρ1, f1, hI⟩ := hW
  obtain ⟨G1, fo2⟩ := f1.down hn
  obtain ⟨wgo, wstop⟩ := wk G1 H1 fo2.2.1 fo2.2.2.1.gh
  by_cases hlt : i < L.length
  · have hx : L[i]? = some L[i] := List.getElem?_eq_getElem hlt
    obtain ⟨go, yl⟩ := wgo i (g L[i]) (by rw [List.getElem?_map, hx]; rfl)
    obtain ⟨ρ2, hput, hbody⟩ := hs i L[i] ρ1 hx hI
    refine .inr ⟨go, fun σ' H' => ∃ ρ3, FrL X.K N T G' σ' H' ρ3 ∧ I (i + 1) ρ3, fun σ' H' hN => ?_, fun x H3 hy => ?_⟩
    · obtain ⟨ρ3, f3, i3⟩ := hN
      exact ⟨L.length - (i + 1), by omega, rfl, hlt, ρ3, f3, i3⟩
    · obtain ⟨G3, e3, dv⟩ := yl x H3 hy
      have fo3 := fo2.ext e3 hn
      refine Tg.rd_ok hput fo3.2.2.1 dv fun σ' s' hj => ?_
      have f2 : FrO X.K N T G' G3 σ' H3 ρ2 := ⟨fo3.1, fo3.2.1, s', fun j xs q r1 r2 => by
        obtain ⟨n1, n2⟩ := Tg.put_own hput r1
        rw [hj j n1] at r2
        exact fo3.2.2.2.1 j xs q n2 r2, fo3.2.2.2.2⟩
      refine tws_mono ?_ (hbody G' σ' H3 (f2.up hn))
      exact ⟨fun _ _ q => q, fun _ _ ⟨d, ⟨Gp, a1, a2, a3, a4⟩, q⟩ => ⟨d, ⟨Gp, a1, sp'.trans a2, fun p hp => sp'.free (off' p hp), a4⟩, q⟩, fun _ _ ⟨ρ4, f4, q⟩ => ⟨ρ4, toP f4, q⟩, fun _ _ q => q⟩
  · have ei : i = L.length := by omega
    exact .inl ⟨wstop i (by rw [List.length_map]; omega), ρ1, toP f1, hd ρ1 (by rw [← ei]; exact hI)⟩
end
end Gd

namespace Gd
open PySem PySem.Spec L2
/-! ### entries with cells of any kind -/
theorem fr_start {K : PySem.W.Frag} {G H : Hp} {Nm : List Str} {vs : List V} {cs : List Cell} (gh : Same G H) (hl : cs.length = vs.length) (hN : vs.length ≤ Nm.length) (ho : forall (i : Nat) (x : Own), cs[i]? ≠ some (Cell.owx x)) (hc : forall (i : Nat) (c : Cell) (v : V), cs[i]? = some c -> vs[i]? = some v -> CellOk K G H (some v) c) :
    Gd.Fr K ⟨G, H, fun _ => none⟩ G (L2.start Nm vs) H (cs ++ List.replicate (Nm.length - cs.length) .any) := by
  have no : forall (i : Nat) (x : Own), (cs ++ List.replicate (Nm.length - cs.length) Cell.any)[i]? ≠ some (.owx x) := fun i x h => by
    by_cases hi : i < cs.length
    · rw [List.getElem?_append_left hi] at h
      exact ho i x h
    · rw [List.getElem?_append_right (by omega), List.getElem?_replicate] at h
      split at h <;> cases h
  refine ⟨G, ⟨.refl gh, fun _ _ z => nomatch z⟩, Same.refl _, ⟨gh, ?_, fun i c h => ?_, fun i j p x y h1 => absurd h1 (no i x)⟩, fun i x p h1 => absurd h1 (no i x)⟩
  · unfold L2.start
    simp only [List.length_append, List.length_map, List.length_replicate]
    omega
  · unfold L2.start
    by_cases hi : i < cs.length
    · rw [List.getElem?_append_left hi] at h
      have hv : i < vs.length := by omega
      rw [List.getElem?_append_left (by rw [List.length_map]; exact hv), List.getElem?_map, List.getElem?_eq_getElem hv]
      exact ⟨_, rfl, hc i c _ h (List.getElem?_eq_getElem hv)⟩
    · have hlen := (List.getElem?_eq_some_iff.mp h).1
      rw [List.getElem?_append_right (by omega), List.getElem?_replicate] at h
      split at h
      · cases h
        refine ⟨none, ?_, trivial⟩
        rw [List.getElem?_append_right (by rw [List.length_map]; omega), List.length_map, List.getElem?_replicate, if_pos]
        simp only [List.length_append, List.length_replicate] at hlen
        omega
      · cases h
theorem okC_of {P : Program} {w : World} {K : PySem.W.Frag} {mg : Str -> Option Value} {base : Heap} {x : Str} {st : Stmt} {f : Addr} {fd : FuncData} {Nm ps : List Str} {k : Nat} {sp : Sp} (F : FnP K x st f fd) (S : FnScope Nm ps (defScope st)) (hlen : forall vs H Q E, sp vs H Q E -> vs.length = ps.length)
    (body : forall cdv A outer s H vs Q E, Room k (cxD P w K mg base Nm x st f cdv A outer s H E).A -> sp vs H Q E -> ∃ (G : Hp) (cs : List Cell) (d : PyData), Same G H ∧ cs.length = vs.length ∧ (forall (i : Nat) (x : Own), cs[i]? ≠ some (Cell.owx x)) ∧ (forall (i : Nat) (c : Cell) (v : V), cs[i]? = some c -> vs[i]? = some v -> CellOk K G H (some v) c) ∧ (forall v G' H', Ext G H G' H' -> Dq K G' v d -> Q v H') ∧
      GS (cxD P w K mg base Nm x st f cdv A outer s H E) ⟨G, H, fun _ => none⟩ (defBody st) (cs ++ List.replicate (Nm.length - cs.length) .any) (post (.ret d))) :
    FnOk P w K mg base (L2.CX P w) (k + 1) f fd ps sp := by
  refine F.ok S hlen fun cdv A outer s H vs Q E hr hsp => ⟨tws _ _, pss_tw, ?_⟩
  obtain ⟨G, cs, d, gh, hl, ho, hc, hq, hG⟩ := body cdv A outer s H vs Q E hr hsp
  have hpl : ps.length ≤ Nm.length := by
    have := congrArg List.length S.pre
    rw [List.length_take] at this
    omega
  refine tws_mono ⟨fun σ H' hn => ?_, fun v H' hn => ?_, fun _ _ z => ?_, fun _ _ z => ?_⟩ (hG G _ H (fr_start gh hl (by rw [hlen _ _ _ _ hsp]; exact hpl) ho hc))
  · obtain ⟨ρ, ⟨G', e1, _⟩, hn⟩ := hn
    cases (show Out.ret d = .ret .none from hn)
    exact hq _ G' H' e1.toExt .non
  · obtain ⟨d', ⟨G', e1, _, dq, _⟩, hn⟩ := hn
    cases (show Out.ret d = .ret d' from hn)
    exact hq v G' H' e1.toExt dq
  · obtain ⟨_, _, z⟩ := z; exact z
  · obtain ⟨_, _, z⟩ := z; exact z
/-- the module's name x holds a def that keeps sp -/
structure CanS (P : Program) (w : World) (K : PySem.W.Frag) (mg : Str -> Option Value) (base : Heap) (k : Nat) (x : Str) (sp : Sp) : Prop where
  ex : ∃ f fd ps, mg x = some (.ref f) ∧ PySem.W.keepIn K (.ref f) = true ∧ Binds K fd ps [] ∧ FnOk P w K mg base (L2.CX P w) k f fd ps sp
theorem canS_of {P : Program} {w : World} {K : PySem.W.Frag} {mg : Str -> Option Value} {base : Heap} {x : Str} {st : Stmt} {f : Addr} {fd : FuncData} {Nm ps : List Str} {k : Nat} {sp : Sp} (F : FnP K x st f fd) (hm : mg x = some (.ref f)) (S : FnScope Nm ps (defScope st))
    (hb : forall (kV doc pm : Value) (an : Option Addr) (cdv ct : Value) (us : List Value), us.length = ps.length -> bindArgs (PySem.W.fnOf x x (defArgs st) (defBody st) (defScope st) .none kV doc pm an cdv ct) ⟨us, []⟩ = pure (ps.zip us)) (hlen : forall vs H Q E, sp vs H Q E -> vs.length = ps.length)
    (body : forall cdv A outer s H vs Q E, Room k (cxD P w K mg base Nm x st f cdv A outer s H E).A -> sp vs H Q E -> ∃ (G : Hp) (cs : List Cell) (d : PyData), Same G H ∧ cs.length = vs.length ∧ (forall (i : Nat) (x : Own), cs[i]? ≠ some (Cell.owx x)) ∧ (forall (i : Nat) (c : Cell) (v : V), cs[i]? = some c -> vs[i]? = some v -> CellOk K G H (some v) c) ∧ (forall v G' H', Ext G H G' H' -> Dq K G' v d -> Q v H') ∧
      GS (cxD P w K mg base Nm x st f cdv A outer s H E) ⟨G, H, fun _ => none⟩ (defBody st) (cs ++ List.replicate (Nm.length - cs.length) .any) (post (.ret d))) : CanS P w K mg base (k + 1) x sp :=
  ⟨f, fd, ps, hm, F.kp, F.bindsN hb, okC_of F S hlen body⟩
/-! ### a def that gets the caught error -/
/-- what it promises: the text z for an error of the class at D -/
structure FnE (P : Program) (w : World) (K : PySem.W.Frag) (mg : Str -> Option Value) (base : Heap) (k : Nat) (x : Str) (D : Addr) (z : Str) : Prop where
  ex : ∃ f fd y, mg x = some (.ref f) ∧ PySem.W.keepIn K (.ref f) = true ∧ Binds K fd [y] [] ∧ forall (A : Around) (outer : List Env) (s : Shared) (H : Hp) (a : Addr) (oe : Obj) (Q : VK), L2H.RoomH k A -> L2H.PinOk outer H s (a, oe) -> Zc (.ref D) none oe -> (∃ vs, oe.data = .fields vs) -> Env0 P w K mg base A outer s H ->
    BindsTo s fd ⟨[.ref a], []⟩ [(y, .ref a)] -> (forall H', Same H H' -> Q (.str z) H') -> codeAny (model P w) A (.call (.ref f) ⟨[.ref a], []⟩) (CR (L2.CX P w) outer P w H s Q fun _ _ _ => False) s
abbrev cxE (P : Program) (w : World) (K : PySem.W.Frag) (mg : Str -> Option Value) (base : Heap) (Nm : List Str) (x : Str) (st : Stmt) (f : Addr) (cdv : Value) (A : Around) (outer : List Env) (s : Shared) (H : Hp) (a : Addr) (oe : Obj) : Cx := L2H.cxH (L2.CX P w) P w K mg base Nm x (defScope st) f cdv A outer s H (fun _ _ _ => False) (a, oe)
theorem fnE_of {P : Program} {w : World} {K : PySem.W.Frag} {mg : Str -> Option Value} {base : Heap} {x y : Str} {st : Stmt} {f D : Addr} {fd : FuncData} {Nm : List Str} {k : Nat} {z : Str} (F : FnP K x st f fd) (hm : mg x = some (.ref f)) (S : FnScope Nm [y] (defScope st))
    (hb : forall (kV doc pm : Value) (an : Option Addr) (cdv ct : Value) (us : List Value), us.length = [y].length -> bindArgs (PySem.W.fnOf x x (defArgs st) (defBody st) (defScope st) .none kV doc pm an cdv ct) ⟨us, []⟩ = pure ([y].zip us))
    (body : forall cdv A outer s H a oe (N : En), L2H.RoomH k (cxE P w K mg base Nm x st f cdv A outer s H a oe).A -> Zc (.ref D) none oe -> (∃ vs, oe.data = .fields vs) -> GS (cxE P w K mg base Nm x st f cdv A outer s H a oe) N (defBody st) (.raw (.ref a) :: List.replicate (Nm.length - 1) .any) (post (.ret (.str z)))) :
    FnE P w K mg base (k + 1) x D z := by
  refine ⟨f, fd, y, hm, F.kp, F.bindsN hb, fun A outer s H a oe Q hr hpin hz hf e0 hbt hq => ?_⟩
  obtain ⟨oc, od, dV, kV, doc, pm, an, cdv, ct, osl, rfl, lk, hcd, _, _⟩ := F.ex
  have inK : K.In s.heap := e0.mod.kin.keeps fun b o e => (e0.bs b o e).1
  have nol : s.heap.NoLimit := e0.mod.nolimit.keeps fun b o e => (e0.bs b o e).1
  refine codeAny_call_function hr.depth (inK _ _ lk) rfl S.co S.gen rfl (PySem.W.codeRec_of inK hcd) (hbt _ _ _ _ ?_)
  refine wpAny_newFunctionEnv_cells S.kind (fun ⟨n, v⟩ hy => ?_) fun env he s1 x1 => ?_
  · rcases S.par n (List.of_mem_zip (show (n, v) ∈ [y].zip [Value.ref a] from hy)).1 with q | q
    · exact .inl q
    · exact .inr ⟨q, PySem.W.cellsFrom_some _ _ _ (.inl q)⟩
  subst he
  refine ⟨nol.keeps x1.toInCall.keep, codeAny_func ?_⟩
  have J : Inv (cxE P w K mg base Nm x st f cdv A outer s H a oe) [] (L2.start Nm [.ref a]) H s1 := L2H.inv_startH S hpin e0 rfl (.cons rfl .nil) x1
  have hpl : 1 ≤ Nm.length := by
    have := congrArg List.length S.pre
    rw [List.length_take] at this
    have h1 : ([y] : List Str).length = 1 := rfl
    omega
  have f0 := fr_start (K := K) (G := H) (H := H) (Nm := Nm) (vs := [.ref a]) (cs := [.raw (.ref a)]) (Same.refl H) rfl hpl (fun i x h => by
    match i with
    | 0 => cases h
    | i + 1 => cases h) (fun i c v h1 h2 => by
    match i with
    | 0 =>
      cases h1
      cases h2
      rfl
    | i + 1 => cases h1)
  refine wpAny_mono (body cdv A outer s H a oe _ (hr.deeper _) hz hf H _ H f0 [] s1 J).run (fun fl s' hs => ?_) fun e s' hs => hs
  cases fl with
  | ret u =>
    obtain ⟨v, σ', H', J', rv, d', ⟨G', e1, _, dq, _⟩, hn⟩ := hs
    cases (show Out.ret (.str z) = .ret d' from hn)
    cases dq
    exact ⟨.str z, H', J'.os, J'.bare, J'.base, J'.hok, rv, hq H' e1.h⟩
  | next =>
    obtain ⟨_, _, _, _, _, hn⟩ := hs
    cases (show Out.ret (.str z) = .ret .none from hn)
  | brk =>
    obtain ⟨_, _, _, _, _, hn⟩ := hs
    exact hn.elim
  | cont =>
    obtain ⟨_, _, _, _, _, hn⟩ := hs
    exact hn.elim
section
variable {X : Cx} {N : En} {ρ : Rho} {k k' i : Nat} {x n y : Str} {p pe pos py : Pos} {a D Cy : Addr} {oe : Obj} {pn : List (Addr × Obj)} {z : Str} {b : Bool}
/-- x(e), e the caught error -/
theorem ge_fnE (F : FnE X.prog X.w X.K X.mg X.base k x D z) (hr : Room k' X.A) (hz : Zc (.ref D) none oe) (hf : ∃ vs, oe.data = .fields vs) (hk : k ≤ k' := by decide) (hρ : ρ[i]? = some (.raw (.ref a)) := by rfl) (hN : X.N[i]? = some n := by rfl) (hv : Vis X.env.scope n := by first | exact Or.inl rfl | exact Or.inr (Or.inl rfl) | exact Or.inr (Or.inr rfl)) (hg : Gl X x := by rfl)
    (hd : (n == ("__debug__" : Str)) = false := by decide) (hcd : (n == ("__classdict__" : Str)) = false := by decide) (hdx : (x == ("__debug__" : Str)) = false := by decide)
    (hs1 : starEach [.Name n pe] X.env = (false, eval (.Name n pe) X.env) :: starEach [] X.env := by rfl) (hpl : (backTo pos (starEach [] X.env)).any (·.1) = false := by rfl) :
    GE (X.suite a ((a, oe) :: pn)) (.Call (.Name x p) [.Name n pe] [] pos) ρ (.str z) := fun σ G H Q sta q pins s I => by
  refine Wp.mk ?_
  obtain ⟨f, fd, y, hm, kp, hb, F⟩ := F.ex
  obtain ⟨ov, h1, h2⟩ := sta.at_ i _ hρ
  have h2' : ov = some (.ref a) := h2
  subst h2'
  refine wpAny_Call_Name_kw (ld_glob (X := X.suite a ((a, oe) :: pn)) I hg hm ?_ hdx)
  refine PySem.W.callWith_K (h₀ := X.base) I.ok.mod.kin kp (thn ((pa_cons (pe_var (X := X.suite a ((a, oe) :: pn)) hN hv hd hcd) pa_nil hs1).run pos pins s σ H (fun vs H1 => vs = [.ref a] ∧ H1 = H) I ⟨.ref a, h1, rfl, rfl⟩) fun us s1 ⟨vs, H1, I1, r, q1⟩ => ⟨I1.kIn, ?_⟩) hs1 hpl
  obtain ⟨rfl, rfl⟩ := q1
  cases r with
  | cons r1 rr =>
    cases rr
    cases r1
    have hp := I1.pin (a, oe) (List.mem_append_left _ List.mem_cons_self)
    have hpin : L2H.PinOk (X.suite a ((a, oe) :: pn)).stack H1 s1 (a, oe) := ⟨hp.1, hp.2.1, fun hm => (List.mem_cons.mp (I1.stkSub a hm)).elim hp.2.2.1 hp.2.2.2.1, hp.2.2.2.2⟩
    have hrm : L2H.RoomH k (X.suite a ((a, oe) :: pn)).A := ⟨(hr.mono hk).dp, (hr.mono hk).un⟩
    refine wpAny_call (codeAny_mono (F _ _ s1 H1 a oe Q hrm hpin hz hf I1.env0 (hb s1 [.ref a] I1.kIn rfl) fun H' sm => q _ G H' ⟨Same.refl G, sm, sta.gh.trans sm, fun _ _ => rfl⟩ (.str z)) fun r' s' hq => ?_)
    cases r' with
    | error e' =>
      obtain ⟨_, _, _, _, _, _, _, _, _, _, _, _, w⟩ := hq
      exact w.elim
    | ok fl =>
      cases fl with
      | ret u => exact I1.after hq
      | next => exact False.elim hq
      | brk => exact False.elim hq
      | cont => exact False.elim hq
/-- isinstance(e, c), e an error that the context bears -/
theorem call_isP (hp : (a, oe) ∈ X.pn) (C : ExcC X.K D) (hz : Zc (.ref D) none oe) (hf : ∃ vs, oe.data = .fields vs) : CallR X (.builtin "isinstance") (rIsE X.K D a) := fun pins s σ H xs us Q I r h => by
  obtain ⟨c, cv, b, rfl, hcv, e, q⟩ := h
  cases r with
  | cons rx rr =>
    cases rr with
    | cons rt r0 =>
      cases r0
      cases rx
      obtain rfl := hcv _ rt
      have hget := (I.pin (a, oe) (List.mem_append_left _ hp)).1
      obtain ⟨vs, hv⟩ := hf
      have J : PySem.W.InstAt s.heap a oe D none := by
        obtain ⟨c1, d1, t1, l1⟩ := oe
        obtain ⟨z1, z2⟩ := hz
        dsimp only at z1 z2 hv
        subst z1 z2 hv
        exact ⟨hget, rfl, rfl, trivial⟩
      exact PySem.W.kia_one (PySem.W.handS_kitx_exc C.hg C.hk C.hs C.hd C.ha C.hn C.ht C.hm) I.kIn J e (fun z => nomatch z) fun tk => ⟨.bl b, H, I.kept (t' := tk) fun _ _ z => z, rfl, q⟩
theorem ge_isP (hm : X.mg "isinstance" = none) (hp : (a, oe) ∈ X.pn) (hC : ExcC X.K D) (hz : Zc (.ref D) none oe) (hf : ∃ vs, oe.data = .fields vs) (hy : X.mg y = some (.ref Cy)) (hk : PySem.W.kitOne X.K (.ref D) (.ref Cy) = some b)
    (hr : ρ[i]? = some (.raw (.ref a)) := by rfl) (hN : X.N[i]? = some n := by rfl) (hv : Vis X.env.scope n := by first | exact Or.inl rfl | exact Or.inr (Or.inl rfl) | exact Or.inr (Or.inr rfl)) (hg : Gl X "isinstance" := by rfl) (hgy : Gl X y := by rfl) (hd : (n == ("__debug__" : Str)) = false := by decide) (hcd : (n == ("__classdict__" : Str)) = false := by decide) (hdy : (y == ("__debug__" : Str)) = false := by decide)
    (hs1 : starEach [.Name n pe, .Name y py] X.env = (false, eval (.Name n pe) X.env) :: starEach [.Name y py] X.env := by rfl) (hs2 : starEach [.Name y py] X.env = (false, eval (.Name y py) X.env) :: starEach [] X.env := by rfl) (hpl : (backTo pos (starEach [.Name y py] X.env)).any (·.1) = false := by rfl) :
    GE X (.Call (.Name "isinstance" p) [.Name n pe, .Name y py] [] pos) ρ (.bool b) :=
  ge_of (pe_callB (call_isP hp hC hz hf) hg hm (by decide +kernel) (pa_cons (pe_var hN hv hd hcd) (pa_cons (pe_glob (v := .ref Cy) hgy hy rfl hdy) pa_nil hs2) hs1) (by decide) (by decide) hs1 hpl) fun σ G H Q s q => by
    obtain ⟨ov, h1, h2⟩ := s.at_ i _ hr
    have h2' : ov = some (.ref a) := h2
    subst h2'
    exact ⟨.ref a, h1, .ref Cy, .ref Cy, b, rfl, fun u r => r, hk, q _ G H (.refl s.gh) (.bl b)⟩
/-- isinstance(e, T), T a class of the built-ins -/
theorem ge_isPT {U : String} (hm : X.mg "isinstance" = none) (hp : (a, oe) ∈ X.pn) (hC : ExcC X.K D) (hz : Zc (.ref D) none oe) (hf : ∃ vs, oe.data = .fields vs) (hy : X.mg y = none) (hbt : bootBuiltins y = some (.type U)) (hk : PySem.W.kitOne X.K (.ref D) (.type U) = some b)
    (hr : ρ[i]? = some (.raw (.ref a)) := by rfl) (hN : X.N[i]? = some n := by rfl) (hv : Vis X.env.scope n := by first | exact Or.inl rfl | exact Or.inr (Or.inl rfl) | exact Or.inr (Or.inr rfl)) (hg : Gl X "isinstance" := by rfl) (hgy : Gl X y := by rfl) (hd : (n == ("__debug__" : Str)) = false := by decide) (hcd : (n == ("__classdict__" : Str)) = false := by decide) (hdy : (y == ("__debug__" : Str)) = false := by decide) (hny : y ≠ "__name__" := by decide)
    (hs1 : starEach [.Name n pe, .Name y py] X.env = (false, eval (.Name n pe) X.env) :: starEach [.Name y py] X.env := by rfl) (hs2 : starEach [.Name y py] X.env = (false, eval (.Name y py) X.env) :: starEach [] X.env := by rfl) (hpl : (backTo pos (starEach [.Name y py] X.env)).any (·.1) = false := by rfl) :
    GE X (.Call (.Name "isinstance" p) [.Name n pe, .Name y py] [] pos) ρ (.bool b) :=
  ge_of (pe_callB (call_isP hp hC hz hf) hg hm (by decide +kernel) (pa_cons (pe_var hN hv hd hcd) (pa_cons (pe_bltn (v := .ty U) hgy hy hbt rfl hny hdy) pa_nil hs2) hs1) (by decide) (by decide) hs1 hpl) fun σ G H Q s q => by
    obtain ⟨ov, h1, h2⟩ := s.at_ i _ hr
    have h2' : ov = some (.ref a) := h2
    subst h2'
    exact ⟨.ref a, h1, .ty U, .type U, b, rfl, fun u r => r, hk, q _ G H (.refl s.gh) (.bl b)⟩
end
end Gd

namespace Gd
open PySem PySem.Spec L2
/-! ### a def that gets a list of functions that raise, and a text -/
def spAll (P : Program) (w : World) (K : PySem.W.Frag) (mg : Str -> Option Value) (base : Heap) (k : Nat) (nm : Addr -> Str -> Prop) : Sp := fun vs H Q _ => ∃ (G : Hp) (l : Addr) (fs : List Addr) (z : Str) (C : Addr), vs = [.ref l, .str z] ∧ Same G H ∧ (forall b ps, G b ≠ some (.tbl ps)) ∧ G l = some (.lst (fs.map V.ref)) ∧ (forall f, f ∈ fs -> Th P w K mg base k G f C) ∧ nm C z ∧ fs.length ≤ 1000 ∧ forall H', Same H H' -> Q (.bl true) H'
def noT (G : Hp) : Hp := fun b => match G b with | some (.tbl _) => none | o => o
theorem noT_some {G : Hp} {b : Addr} {u : HO} (h : noT G b = some u) : G b = some u ∧ forall ps, u ≠ .tbl ps := by
  unfold noT at h
  cases e : G b with
  | none => rw [e] at h; cases h
  | some o =>
    rw [e] at h
    cases o with
    | tbl ps => cases h
    | _ => cases h; exact ⟨rfl, fun ps z => nomatch z⟩
theorem noT_of {G : Hp} {b : Addr} {u : HO} (h : G b = some u) (n : forall ps, u ≠ .tbl ps) : noT G b = some u := by
  unfold noT
  rw [h]
  cases u with
  | tbl ps => exact absurd rfl (n ps)
  | _ => rfl
/-- the values in the slots js -/
theorem slots_of {K : PySem.W.Frag} {G H : Hp} {σ : L2.St} {ρ : Rho} (s : Sta K G H σ ρ) : forall {js : List Nat} {ds : List PyData}, js.map (fun j => ρ[j]?) = ds.map (fun d => some (Cell.dat d)) -> ∃ vs : List V, DqAll K G vs ds ∧ forall (i j : Nat) (v : V), js[i]? = some j -> vs[i]? = some v -> σ[j]? = some (some v)
  | [], [], _ => ⟨[], .nil, fun i j v h => by simp at h⟩
  | [], _ :: _, h => by simp at h
  | _ :: _, [], h => by simp at h
  | j :: js, d :: ds, h => by
    rw [List.map_cons, List.map_cons] at h
    injection h with h1 h2
    obtain ⟨vs, a, b⟩ := slots_of s h2
    obtain ⟨v, c1, c2⟩ := s.dat h1
    refine ⟨v :: vs, .cons c2 a, fun i j' v' e1 e2 => ?_⟩
    cases i with
    | zero =>
      cases e1
      cases e2
      exact c1
    | succ i => exact b i j' v' (by simpa using e1) (by simpa using e2)
section
variable {X : Cx} {N : En} {T : List (Addr × Str)} {ρ : Rho} {k k' kt j : Nat} {x z : Str} {nm : Addr -> Str -> Prop} {params : Arguments} {body : Expr} {scope : Scope} {p lp p2 p3 pos : Pos} {c P C : Addr} {fr : List Str} {js : List Nat} {ds : List PyData}
/-- what must be known of a lambda that the running body makes -/
structure LamK (X : Cx) (T : List (Addr × Str)) (params : Arguments) (scope : Scope) (fr : List Str) (js : List Nat) (c P : Addr) : Prop where
  TB : LamX.TabB X.base X.mg c P
  code : X.env.code = .ref c
  mem : (P, X.env.qual ++ "<lambda>") ∈ T
  one : forall p, p ∈ T -> p.1 = P -> p.2 = X.env.qual ++ "<lambda>"
  L : LamX.LamS X.env.scope scope
  dflt : defaultsOf params X.env = ([], [])
  S : NdefX.NScope fr [] fr scope
  js : js.map (fun j => X.N[j]?) = fr.map some
  fn : forall y, X.fn y = true
/-- the lambda's promise, where the running frame's cells are tracked -/
theorem lam_now {pins : List (Addr × Obj)} {σ : L2.St} {G1 G2 H H2 : Hp} {s : Shared} {D : Dm} {f c' : Addr} {pm ctv : Value} {vs : List V} (LK : LamK X T params scope fr js c P) (ok : X.Ok) (cd : CellsD X σ H2 D) (hG : forall c o, D c = some o -> G2 c = some (dR c o)) (hf : G2 f = some (dR f (PySem.W.kla_obj "<lambda>" (X.env.qual ++ "<lambda>") params body scope (cloFrom X.env.cells scope.names []) pm c' ctv))) (hc : G2 c' = some (LamX.CodeO c' (X.env.qual ++ "<lambda>")))
    (hvs : DqAll X.K G2 vs ds) (hσ : forall (i j : Nat) (v : V), js[i]? = some j -> vs[i]? = some v -> σ[j]? = some (some v))
    (hbind : forall (q : Str) (cl : List (Str × Addr)) (pm cv ctv : Value), bindArgs (PySem.W.kla_fn "<lambda>" q params body scope cl pm cv ctv) ⟨[], []⟩ = pure [])
    (hbody : forall (q : Str) (cl : List (Str × Addr)) (c' f : Addr) (A : Around) (outer : List Env) (s : Shared) (H : Hp) (E : XK) (N' : En), Room kt (lcx X.prog X.w X.K X.mg X.base fr q params scope cl c' f A outer s H E).A -> Xok (lcx X.prog X.w X.K X.mg X.base fr q params scope cl c' f A outer s H E) N' (fun _ => True) C ->
      GX (lcx X.prog X.w X.K X.mg X.base fr q params scope cl c' f A outer s H E) N' body (ds.map Cell.dat)) (hlen : ds.length = fr.length) : Th X.prog X.w X.K X.mg X.base (kt + 1) G2 f C := by
  have hfr : forall y, y ∈ fr -> (y, NameKind.free) ∈ scope.names := fun y hy => PySem.mem_of_lookup (LK.S.frk y hy)
  have caps := NdefX.Caps.made (X := X) (scope := scope) (fr := fr) (js := js) ok LK.L.free hfr LK.js
  have hfree := LK.L.has ok
  refine lam_th hf hc LK.S ⟨fun x y a e1 e2 => cd.inj x y a (caps.sub x a e1) (caps.sub y a e2), fun y a hm => ?_, vs, hvs, hlen, fun i y v e1 e2 => ?_⟩ (hbind _ _ _ _ _) fun A outer s H E N' hr hx => hbody _ _ _ _ A outer s H E N' hr hx
  · rcases cloFrom_mem hm with h | ⟨h1, h2⟩
    · cases h
    · obtain ⟨a1, ha⟩ := hfree _ h1 rfl
      have ha : X.env.cells.lookup y = some a1 := ha
      have ea : a = a1 := by
        rw [h2, ha] <;> rfl
      subst ea
      obtain ⟨o, v, d1, d2⟩ := cd.all y a ha
      exact ⟨o, v, hG _ _ d1, d2⟩
  · have e3 : (js.map fun j => X.N[j]?)[i]? = some (some y) := by
      rw [LK.js, List.getElem?_map, e1] <;> rfl
    rw [List.getElem?_map] at e3
    cases ej : js[i]? with
    | none => rw [ej] at e3; cases e3
    | some j =>
      rw [ej] at e3
      have hj : X.N[j]? = some y := Option.some.inj e3
      obtain ⟨a, o, u, a1, a2, a3, a4⟩ := cd.val j y v hj (hσ i j v ej e2) (caps.kin y (List.mem_of_getElem? e1))
      exact ⟨a, o, u, caps.sup y (List.mem_of_getElem? e1) a a1, hG _ _ a2, a3, a4⟩
/-- x([lambda: body], "z") -/
theorem gbl_lam1 (hn : NoT N) (F : CanS X.prog X.w X.K X.mg X.base k x (spAll X.prog X.w X.K X.mg X.base (kt + 1) nm)) (hr : Room k' X.A) (LK : LamK X T params scope fr js c P) (hds : js.map (fun j => ρ[j]?) = ds.map (fun d => some (Cell.dat d)))
    (hbind : forall (q : Str) (cl : List (Str × Addr)) (pm cv ctv : Value), bindArgs (PySem.W.kla_fn "<lambda>" q params body scope cl pm cv ctv) ⟨[], []⟩ = pure [])
    (hbody : forall (q : Str) (cl : List (Str × Addr)) (c' f : Addr) (A : Around) (outer : List Env) (s : Shared) (H : Hp) (E : XK) (N' : En), Room kt (lcx X.prog X.w X.K X.mg X.base fr q params scope cl c' f A outer s H E).A -> Xok (lcx X.prog X.w X.K X.mg X.base fr q params scope cl c' f A outer s H E) N' (fun _ => True) C ->
      GX (lcx X.prog X.w X.K X.mg X.base fr q params scope cl c' f A outer s H E) N' body (ds.map Cell.dat)) (hnm : nm C z) (hk : k ≤ k' := by decide) (hlen : ds.length = fr.length := by rfl) (hg : Gl X x := by rfl) (hdb : (x == ("__debug__" : Str)) = false := by decide)
    (he : starEach (.List [.Lambda params body scope lp] p2 :: [.Constant (.str z) j p3]) X.env = (false, eval (.List [.Lambda params body scope lp] p2) X.env) :: starEach [.Constant (.str z) j p3] X.env := by rfl) (he1 : starEach [.Lambda params body scope lp] X.env = (false, eval (.Lambda params body scope lp) X.env) :: starEach [] X.env := by rfl)
    (he2 : starEach [.Constant (.str z) j p3] X.env = (false, eval (.Constant (.str z) j p3) X.env) :: starEach [] X.env := by rfl) (hpl : (backTo pos (starEach [.Constant (.str z) j p3] X.env)).any (·.1) = false := by rfl) :
    GBL X N T (.Call (.Name x p) (.List [.Lambda params body scope lp] p2 :: [.Constant (.str z) j p3]) [] pos) ρ true := fun P0 σ H f pins s I => Wp.mk <| by
  obtain ⟨G, fo⟩ := f.down hn
  obtain ⟨fa, fd, ps, hm, kp, hb, Fo⟩ := F.ex
  refine (pe_callC Fo hr hk hg hm kp hb LK.fn (pa_cons (pe_lst (pa_cons (pe_lamT LK.TB LK.code LK.mem LK.one LK.L LK.dflt) pa_nil he1)) (pa_cons pe_str pa_nil he2) he) hdb he hpl).run pins s σ H _ I ?_
  refine ⟨G, fo.2.2.1.gh, fo.2.2.2.2, fun f c' pm ctv G1 H1 ex htb nf hf hc => ⟨by show 1 ≤ sizeLine; decide, fun l hl => ?_⟩⟩
  show forall D, CellsD X σ (upd H1 l (.lst [.ref f])) D -> spAll X.prog X.w X.K X.mg X.base (kt + 1) nm [.ref l, .str z] (addH (upd H1 l (.lst [.ref f])) D) _ _
  intro D cd
  have gl : G1 l = none := ex.gh.free hl
  have hDl : D l = none := by
    cases e : D l with
    | none => rfl
    | some o =>
      have := cd.free l o e
      rw [upd_same] at this
      cases this
  have hDn : forall b u, G1 b = some u -> D b = none ∧ b ≠ l := fun b u e => by
    have nb : b ≠ l := ne_of_none e gl
    refine ⟨?_, nb⟩
    cases eD : D b with
    | none => rfl
    | some o =>
      have := cd.free b o eD
      rw [upd_ne nb, ex.gh _ _ e] at this
      cases this
  have toG : forall b u, G1 b = some u -> (forall ps, u ≠ .tbl ps) -> upd (addH (noT G1) D) l (.lst [.ref f]) b = some u := fun b u e n => by
    obtain ⟨h1, h2⟩ := hDn b u e
    rw [upd_ne h2, addH_out h1]
    exact noT_of e n
  have inD : forall c o, D c = some o -> upd (addH (noT G1) D) l (.lst [.ref f]) c = some (dR c o) := fun c o e => by
    have nb : c ≠ l := fun z => by rw [z, hDl] at e; cases e
    rw [upd_ne nb, addH_in e]
  obtain ⟨vs, dvs, hσ⟩ := slots_of fo.2.2.1 hds
  have ls : Less G1 (upd (addH (noT G1) D) l (.lst [.ref f])) := fun b u e => by
    by_cases ht : ∃ ps, u = .tbl ps
    · exact .inr (.inr ht)
    · exact .inl (toG b u e fun ps y => ht ⟨ps, y⟩)
  have th : Th X.prog X.w X.K X.mg X.base (kt + 1) (upd (addH (noT G1) D) l (.lst [.ref f])) f C := lam_now (pins := pins) (G1 := G1) (H := H) (s := s) LK I.ok cd inD (toG _ _ hf fun ps => tbl_ne ps) (toG _ _ hc fun ps => LamX.codeO_ne ps) ((dvs.mono ex.g).less ls) hσ hbind hbody hlen
  refine ⟨upd (addH (noT G1) D) l (.lst [.ref f]), l, [f], z, C, rfl, fun b u e => ?_, fun b ps e => ?_, upd_same, fun g hg => ?_, hnm, by show 1 ≤ 1000; decide, fun H' sm => ?_⟩
  · by_cases hb : b = l
    · subst hb
      rw [upd_same] at e
      rw [addH_out hDl, upd_same]
      exact e
    · rw [upd_ne hb] at e
      cases eD : D b with
      | some o =>
        rw [addH_in eD] at e ⊢
        exact e
      | none =>
        rw [addH_out eD] at e ⊢
        rw [upd_ne hb]
        exact ex.gh _ _ (noT_some e).1
  · by_cases hb : b = l
    · subst hb
      rw [upd_same] at e
      cases e
    · rw [upd_ne hb] at e
      cases eD : D b with
      | some o =>
        rw [addH_in eD] at e
        exact tbl_ne ps (Option.some.inj e)
      | none =>
        rw [addH_out eD] at e
        exact (noT_some e).2 ps rfl
  · rw [List.mem_singleton.mp hg]
    exact th
  · refine ⟨fun c o e => sm _ _ (addH_in e), rfl, ?_⟩
    have S1 : Same H1 (delH H' D) := fun b u e => by
      have nb : b ≠ l := ne_of_none e hl
      have hD : D b = none := by
        cases eD : D b with
        | none => rfl
        | some o =>
          have := cd.free b o eD
          rw [upd_ne nb, e] at this
          cases this
      rw [delH_out hD]
      exact sm _ _ (by rw [addH_out hD, upd_ne nb]; exact e)
    have ex2 : ExtT T G H G1 (delH H' D) := ⟨ex.g, ex.h.trans (LamX.ExtN.of S1), ex.gh.trans S1, ex.old, fun p hp => by
      obtain ⟨ps, a1, a2, a3, a4⟩ := ex.tab p hp
      exact ⟨ps, S1 _ _ a1, a2, a3, a4⟩⟩
    exact (fo.extT hn ex2).up hn
end
/-! ### the law: its entry, the top's facts with tables -/
def spL (K : PySem.W.Frag) (T : List (Addr × Str)) : Sp := fun vs H Q _ => ∃ (a : Addr) (ns : List Int), vs = [.ref a] ∧ ns.length ≤ 63 ∧ SqL K H a (ns.map V.int) ∧ (forall p, p ∈ T -> H p.1 = some (.tbl #[])) ∧ forall H', Q (.bl true) H'
theorem okL_of {P : Program} {w : World} {K : PySem.W.Frag} {mg : Str -> Option Value} {base : Heap} {x y : Str} {st : Stmt} {fd : FuncData} {Nm : List Str} {k : Nat} {T : List (Addr × Str)} (F : FnP K x st (He.ga K x) fd) (S : FnScope Nm [y] (defScope st))
    (body : forall A outer s H E (N : En) (ns : List Int), Room k (cxD P w K mg base Nm x st (He.ga K x) (.ref (He.codeOf K (x, none))) A outer s H E).A -> NoT N -> ns.length ≤ 63 -> GSL (cxD P w K mg base Nm x st (He.ga K x) (.ref (He.codeOf K (x, none))) A outer s H E) N T (defBody st) (startR Nm.length [scrD ns]) (post (.ret (.bool true)))) :
    FnOk P w K mg base (L2.CX P w) (k + 1) (He.ga K x) fd [y] (spL K T) := by
  obtain ⟨oc, od, dV, kV, doc, pm, an, cdv, ct, osl, rfl, lk, hcd, _, _⟩ := F.ex
  obtain ⟨c, rfl⟩ := He.codeIn_ref hcd
  have ec : He.codeOf K (x, none) = c := He.codeOf_eq (p := (x, none)) lk rfl
  subst ec
  refine fn_of lk hcd S (fun vs H Q E ⟨a, ns, e, _⟩ => by rw [e]; rfl) fun A outer s H vs Q E hr hsp => ⟨tws _ _, pss_tw, ?_⟩
  obtain ⟨a, ns, rfl, hl, hS, hT, hQ⟩ := hsp
  have hs : Same (noT H) H := fun b u e => (noT_some e).1
  have hsq : SqL K (noT H) a (ns.map V.int) := by
    rcases hS with (h | ⟨o, h⟩) | h
    · exact .inl (.inl (noT_of h fun ps z => nomatch z))
    · exact .inl (.inr ⟨o, noT_of h fun ps z => nomatch z⟩)
    · exact .inr h
  have sta := sta_start (Nm := Nm) hs (DqAll.cons (Dq.scr (K := K) (G := noT H) hsq rfl) .nil)
  have hn : NoT (⟨noT H, noT H, fun _ => none⟩ : En) := ⟨Same.refl _, fun b ps e => (noT_some e).2 ps rfl, fun _ _ z => nomatch z⟩
  have nofr : forall (i : Nat) (xo : Own) (p : Addr), (startR Nm.length [scrD ns])[i]? = some (.owx xo) -> (L2.start Nm [V.ref a])[i]? = some (some (.ref p)) -> noT H p = none := fun i xo p h1 => by
    exfalso
    unfold startR at h1
    by_cases hi : i < [scrD ns].length
    · rw [List.getElem?_append_left (by simpa using hi), List.getElem?_map] at h1
      cases hd : ([scrD ns])[i]? with
      | none => rw [hd] at h1; cases h1
      | some d => rw [hd] at h1; cases h1
    · rw [List.getElem?_append_right (by rw [List.length_map]; omega), List.getElem?_replicate] at h1
      split at h1 <;> cases h1
  have tab0 : TabG T (noT H) H := fun p hp => ⟨#[], hT p hp, by unfold noT; rw [hT p hp], True.intro, fun pos cv hc => by
    have z : codeAmong pos [] = some cv := hc
    simp [codeAmong] at z⟩
  have f0 : FrO K (⟨noT H, noT H, fun _ => none⟩ : En) T (fun _ => none) (noT H) (L2.start Nm [.ref a]) H (startR Nm.length [scrD ns]) := ⟨⟨⟨Same.refl _, hs, hs, fun _ _ => rfl⟩, fun _ _ z => nomatch z⟩, (fun _ _ z => nomatch z), sta, nofr, tab0⟩
  refine tws_mono ⟨fun σ H' hz => ?_, fun v H' hz => ?_, fun _ _ z => ?_, fun _ _ z => ?_⟩ (body A outer s H E _ ns hr hn hl _ _ H (f0.up hn))
  · obtain ⟨ρ, _, hz⟩ := hz
    cases (show Out.ret (.bool true) = .ret .none from hz)
  · obtain ⟨d, ⟨Gp, ⟨G', _, _, dq, _⟩, _⟩, hz⟩ := hz
    cases (show Out.ret (.bool true) = .ret d from hz)
    cases dq
    exact hQ H'
  · obtain ⟨_, _, z⟩ := z; exact z
  · obtain ⟨_, _, z⟩ := z; exact z
/-! ### the Hook with tables -/
theorem obT_eq {n : Nat} {chk : PySem.W.Frag -> Bool} {fn : List He.DefD} {tf : List He.Defn} (s : PySem.W.SharedT) : obT n chk fn tf s = (hookT n chk fn tf).obs s.abs := by
  have e : HandSHeadRun.getT s = s.abs.heap.get? := funext (HandSHeadRun.getT_eq s)
  unfold obT
  rw [e]
  rfl
/-- the tables as the bodies know them -/
def tabsN (K : PySem.W.Frag) (tf : List He.Defn) : List (Addr × Str) := tf.map fun p => ((He.cT K p).2, p.1 ++ ".<locals>." ++ "<lambda>")
theorem val_kit {xs : List Str} {K : PySem.W.Frag} (h : valChk xs K = true) {x : Str} (hx : x ∈ xs) : PySem.W.kitOne K (.ref (He.ga K x)) (.type "ValueError") = some true := of_decide_eq_true (List.all_eq_true.mp h x hx)
end Gd

namespace Gd
open PySem PySem.Spec L2
section
variable {X : Cx} {N : En} {a b e : Expr} {es : List Expr} {ρ : Rho} {d d2 : PyData} {ds : List PyData} {pos : Pos} {Φ : Post}
/-! ### list.count(True) -/
theorem eqU_bl {u : Value} {c : Bool} (r : RelV (.bl c) u) : eqU (.bl true) u = c := by
  rw [eqU_of r rfl]
  cases c <;> rfl
theorem count_bl : forall {bs : List Bool} {us : List Value}, Vals (bs.map V.bl) us -> us.countP (eqU (.bl true)) = bs.count true
  | [], _, .nil => rfl
  | c :: bs, _, .cons r t => by
    rw [List.countP_cons, eqU_bl r, count_bl t, List.count_cons]
    cases c <;> rfl
theorem mt_countB : MtR X "list.count" (fun x xs H Q => ∃ (p : Addr) (bs : List Bool), x = .ref p ∧ xs = [.bl true] ∧ SqL X.K H p (bs.map V.bl) ∧ Q (.int (bs.count true : Nat)) H) := fun pins s σ H x xs v us Q I rx rxs h => by
  obtain ⟨p, bs, rfl, rfl, hs, q⟩ := h
  cases rx
  obtain ⟨u, rfl, ru⟩ := rxs.one
  obtain ⟨its, rv, ⟨⟨cls, dd, dat, sl⟩, n, ho, hc, hdn, hd⟩, hlen⟩ := I.list hs
  simp only at hc hd
  subst hc hd
  have fl : (bs.map V.bl).all flatV = true := by
    rw [List.all_map, List.all_eq_true]
    intro _ _
    rfl
  refine call_meets PySem.F.slot_list_count ⟨_, ho, rfl⟩ PySem.F.entry_list_count (PySem.F.args_list_count_2 _ _)
    (SeqAt.list_countAt p its.toArray n dd sl u (eqU (.bl true))) ⟨ho, fun y hy => mem_eqAt ru rfl rv fl y (by simpa using hy), ?_⟩
  refine ⟨.int (bs.count true : Nat), H, I.tok _, ⟨s.toks, ?_⟩, q⟩
  show Value.int ((its.toArray.toList.countP (eqU (.bl true)) : Nat) : Int) s.toks = _
  rw [show its.toArray.toList = its by simp, count_bl rv]
theorem ge_countB {bs : List Bool} {apos : Pos} (ha : GE X a ρ (.list (bs.map PyData.bool))) (hb : GE X b ρ (.bool true))
    (hbase : attributeBase a "count" X.env (eval a X.env) = eval a X.env := by rfl)
    (hfew : ((backTo pos (starEach (b :: []) X.env)).all (fun x => !x.1) && (backToKw pos (keywordEach [] X.env)).all (fun x => x.1.isSome) && decide ((b :: []).length + ([] : List Keyword).length + (if ([] : List Keyword).isEmpty then 0 else 1) < 30)) = true := by rfl)
    (hline : (apos.endLine == pos.line) = true := by rfl) (hs1 : starEach (b :: []) X.env = (false, eval b X.env) :: starEach [] X.env := by rfl) (hplain : (backTo pos (starEach [] X.env)).any (·.1) = false := by rfl) : GE X (.Call (.Attribute a "count" apos) [b] [] pos) ρ (.int (bs.count true : Nat)) :=
  ge_of (pe_bm PySem.F.plainAttrs_list PySem.F.slot_list_count PySem.F.type_list_count mt_countB pe_tw (pa_cons pe_tw pa_nil hs1) hbase hfew hline hs1 hplain) fun σ G H Q s q => ha σ G H _ s fun v G1 H1 e1 dv => by
    cases dv with
    | lst s1 a1 =>
      rw [a1.bools] at s1
      refine ⟨.inl ⟨rfl, _, .inl (.inl (e1.gh _ _ s1))⟩, hb σ G1 H1 _ (s.ext e1) fun v2 G2 H2 e2 d2 => ?_⟩
      cases d2
      exact ⟨_, bs, rfl, rfl, .inl (.inl (e2.h _ _ (e1.gh _ _ s1))), q _ G2 H2 (e1.trans e2) (.int _)⟩
/-- what is new beside a part is new beside the whole -/
theorem Ext.widen {G0 G H G' H' : Hp} (e : Ext G0 H G' H') (s : Same G0 G) (gh : Same G H) : ∃ G2, Ext G H G2 H' ∧ Same G' G2 := by
  refine ⟨fun b => match H b with | some _ => G b | none => G' b, ⟨fun b o h => ?_, e.h, fun b o h => ?_, fun a ha => ?_⟩, fun b o h => ?_⟩
  · show (match H b with | some _ => G b | none => G' b) = some o
    rw [gh b o h]
    exact h
  · have h : (match H b with | some _ => G b | none => G' b) = some o := h
    cases hb : H b with
    | some u => rw [hb] at h; exact e.h b o (gh b o h)
    | none => rw [hb] at h; exact e.gh b o h
  · show (match H a with | some _ => G a | none => G' a) = G a
    cases hb : H a with
    | some u => rfl
    | none => exact absurd hb ha
  · show (match H b with | some _ => G b | none => G' b) = some o
    cases hb : H b with
    | some u =>
      rw [e.old b (by rw [hb]; exact fun z => nomatch z)] at h
      exact s b o h
    | none => exact h
theorem adr_inv {K : PySem.W.Frag} {G : Hp} {v : V} {f : Addr} (h : Dq K G v (adrD f)) : v = .ref f := by
  unfold adrD at h
  cases h with
  | scr _ e => exact (scr_adr e.symm).elim
  | adr e =>
    injection e with e _
    injection e with _ e
    injection e with e
    have : f = _ := Int.ofNat.inj e
    rw [this]
theorem dqAll_adr {K : PySem.W.Frag} {G : Hp} : forall fs : List Addr, DqAll K G (fs.map V.ref) (fs.map adrD)
  | [] => .nil
  | f :: fs => .cons (.adr rfl) (dqAll_adr fs)
end
end Gd

namespace Gd
open PySem PySem.Spec L2
/-! ### statements by hand, the data's judgements among them -/
section
variable {X : Cx} {st : Stmt} {rest body orelse : List Stmt} {c e : Expr} {D D' : Ends} {σ : L2.St} {G H : Hp} {ρ : Rho} {pos : Pos} {t : TS} {d : PyData} {k : Bool}
theorem tws_cons (h : twp X st { D with nx := fun σ' H' => tws X rest D σ' H' } σ H) : tws X (st :: rest) D σ H := fun pins s I => ⟨(pss_cons ps_tw pss_tw).run pins s σ H D I h⟩
theorem tws_nil (h : D.nx σ H) : tws X [] D σ H := fun pins s I => ⟨pss_nil.run pins s σ H D I h⟩
theorem twp_of (h : PS X st t) (hr : t D σ H) : twp X st D σ H := fun pins s I => ⟨h.run pins s σ H D I hr⟩
theorem twp_if (h : twT X c σ H fun b H' => if b = true then tws X body D σ H' else tws X orelse D σ H') : twp X (.If c body orelse pos) D σ H := fun pins s I => ⟨(ps_if pt_tw pss_tw pss_tw).run pins s σ H D I h⟩
theorem twp_ret (h : tw X e σ H D.rt) : twp X (.Return (some e) pos) D σ H := fun pins s I => ⟨(ps_ret pe_tw).run pins s σ H D I h⟩
/-- no cell is the frame's own -/
def NoOwn (ρ : Rho) : Prop := forall (i : Nat) (x : Own), ρ[i]? ≠ some (.owx x)
theorem fr_of (hs : Sta X.K G H σ ρ) (no : NoOwn ρ) : Gd.Fr X.K ⟨G, H, fun _ => none⟩ G σ H ρ := ⟨G, ⟨.refl hs.gh, fun _ _ z => nomatch z⟩, Same.refl _, hs, fun i x p h => absurd h (no i x)⟩
/-- a statement of the data's -/
theorem twp_data {Φ : Post} (h : G1 X ⟨G, H, fun _ => none⟩ st ρ Φ) (hs : Sta X.K G H σ ρ) (no : NoOwn ρ) (hn : forall σ' H' ρ' G', Ext G H G' H' -> Sta X.K G' H' σ' ρ' -> Φ.nx ρ' -> D.nx σ' H') (hr : forall v H' G' d, Ext G H G' H' -> Dq X.K G' v d -> Φ.rt d -> D.rt v H') (hb : forall ρ, ¬ Φ.bk ρ) (hc : forall ρ, ¬ Φ.ct ρ) : twp X st D σ H :=
  twp_mono (D := ends X.K ⟨G, H, fun _ => none⟩ G Φ) ⟨fun σ' H' ⟨ρ', ⟨G', e1, _, s', _⟩, q⟩ => hn σ' H' ρ' G' e1.toExt s' q, fun v H' ⟨d, ⟨G', e1, _, dq, _⟩, q⟩ => hr v H' G' d e1.toExt dq q, fun σ' H' ⟨ρ', _, q⟩ => absurd q (hb ρ'), fun σ' H' ⟨ρ', _, q⟩ => absurd q (hc ρ')⟩ (h G σ H (fr_of hs no))
/-- what a body may let out, where all that was tracked is kept -/
theorem xok_keep {N : En} {A : Rho -> Prop} {C : Addr} {W : WX} (tk : Takes X W) (h : forall σ' H', Same N.h H' -> W (.ref C) none σ' H') : Xok X N A C := ⟨W, tk, fun P σ' H' ρ' _ ⟨G', e1, _⟩ => h σ' H' e1.h⟩
/-- x.f, x in slot i, whose cell says what it is -/
theorem ge_fldP (i : Nat) {x f : Str} {p1 : Pos} {p : Addr} {φ : Hp -> Prop} (h : forall G0, φ G0 -> ∃ C dx fs v, G0 p = some (.ins C dx fs) ∧ Cls X.K C ∧ NoAttr X.K C f ∧ fs.lookup f = some v ∧ Dq X.K G0 v d) (hc : ρ[i]? = some (.pin (.ref p) φ) := by rfl) (hN : X.N[i]? = some x := by rfl) (hv : Vis X.env.scope x := by first | exact Or.inl rfl | exact Or.inr (Or.inl rfl) | exact Or.inr (Or.inr rfl)) (hd : (x == ("__debug__" : Str)) = false := by decide)
    (hcd : (x == ("__classdict__" : Str)) = false := by decide) (hb : attributeBase (.Name x p1) f X.env (eval (.Name x p1) X.env) = eval (.Name x p1) X.env := by rfl) : GE X (.Attribute (.Name x p1) f pos) ρ d :=
  ge_of (pe_fld (pe_var hN hv hd hcd) hb) fun σ G H Q hs q => by
    obtain ⟨ov, h1, h2, G0, h3, h4, h5⟩ := hs.at_ i _ hc
    subst h2
    obtain ⟨C, dx, fs, v, a1, a2, a3, a4, a5⟩ := h G0 h5
    exact ⟨.ref p, h1, p, C, dx, fs, v, rfl, hs.gh _ _ (h3 _ _ a1), a2, a3, a4, q v G H (.refl hs.gh) (a5.mono h3)⟩
end
end Gd

namespace Gd
open PySem PySem.Spec L2
/-! ### lists of lambdas, by hand -/
/-- a lambda that the body of X has made -/
structure LamF (X : Cx) (params : Arguments) (body : Expr) (scope : Scope) (G : Hp) (f : Addr) : Prop where
  ex : ∃ (c' : Addr) (pm ctv : Value), G f = some (dR f (PySem.W.kla_obj "<lambda>" (X.env.qual ++ "<lambda>") params body scope (cloFrom X.env.cells scope.names []) pm c' ctv)) ∧ G c' = some (LamX.CodeO c' (X.env.qual ++ "<lambda>"))
theorem LamF.mono {X : Cx} {params : Arguments} {body : Expr} {scope : Scope} {G G' : Hp} {f : Addr} (l : LamF X params body scope G f) (s : Same G G') : LamF X params body scope G' f := by
  obtain ⟨c', pm, ctv, h1, h2⟩ := l.ex
  exact ⟨c', pm, ctv, s _ _ h1, s _ _ h2⟩
/-- the names and the promise of a lambda: it raises an error of the class at C, where cs say of the captured names what they hold -/
structure LamOk (X : Cx) (kt : Nat) (C : Addr) (params : Arguments) (body : Expr) (scope : Scope) (fr : List Str) (js : List Nat) (cs : List Cell) : Prop where
  L : LamX.LamS X.env.scope scope
  dflt : defaultsOf params X.env = ([], [])
  S : NdefX.NScope fr [] fr scope
  js : js.map (fun j => X.N[j]?) = fr.map some
  len : cs.length = fr.length
  no : forall (i : Nat) (x : Own), cs[i]? ≠ some (Cell.owx x)
  bind : forall (q : Str) (cl : List (Str × Addr)) (pm cv ctv : Value), bindArgs (PySem.W.kla_fn "<lambda>" q params body scope cl pm cv ctv) ⟨[], []⟩ = pure []
  body : forall (q : Str) (cl : List (Str × Addr)) (c' f : Addr) (A : Around) (outer : List Env) (s : Shared) (H : Hp) (E : XK) (N' : En), Room kt (lcx X.prog X.w X.K X.mg X.base fr q params scope cl c' f A outer s H E).A -> Xok (lcx X.prog X.w X.K X.mg X.base fr q params scope cl c' f A outer s H E) N' (fun _ => True) C ->
    GX (lcx X.prog X.w X.K X.mg X.base fr q params scope cl c' f A outer s H E) N' body cs
/-- what the body's tables must be -/
structure TabK (X : Cx) (T : List (Addr × Str)) (c P : Addr) : Prop where
  TB : LamX.TabB X.base X.mg c P
  code : X.env.code = .ref c
  mem : (P, X.env.qual ++ "<lambda>") ∈ T
  one : forall p, p ∈ T -> p.1 = P -> p.2 = X.env.qual ++ "<lambda>"
/-- cells that lean neither on an own list nor on the frame's cells -/
theorem cell_del {K : PySem.W.Frag} {G H : Hp} {D : Dm} {v : V} {c : Cell} (hn : forall c o, D c = some o -> forall u, G c = some u -> u = dR c o) (no : forall x, c ≠ .owx x) (hf : forall hs kvs, c ≠ .fdc hs kvs) (hp : forall v φ, c = .pin v φ -> forall G0, Same G0 G -> φ G0 -> φ (delH G0 D)) (h : CellOk K G H (some v) c) : CellOk K (delH G D) (delH H D) (some v) c := by
  cases c with
  | any => trivial
  | raw v => exact h
  | dat d =>
    obtain ⟨w, h1, h2⟩ := h
    exact ⟨w, h1, h2.less (less_del hn)⟩
  | owx x => exact absurd rfl (no x)
  | fdc hs kvs => exact absurd rfl (hf hs kvs)
  | pin w φ =>
    obtain ⟨h1, G0, h2, h3, h4⟩ := h
    refine ⟨h1, delH G0 D, fun b u e => ?_, fun b ps e => h3 b ps (delH_some e).2, hp w φ rfl G0 h2 h4⟩
    obtain ⟨z, e⟩ := delH_some e
    rw [delH_out z]
    exact h2 _ _ e
section
variable {P : Program} {w : World} {K : PySem.W.Frag} {mg : Str -> Option Value} {base : Heap} {k : Nat} {G0 : Hp} {f c' C : Addr} {q : Str} {params : Arguments} {body : Expr} {scope : Scope} {cl : List (Str × Addr)} {pm ctv : Value} {fr : List Str} {cs : List Cell}
/-- what a lambda has captured, by cells -/
structure ClC (K : PySem.W.Frag) (G : Hp) (cl : List (Str × Addr)) (fr : List Str) (cs : List Cell) : Prop where
  inj : forall x y c, cl.lookup x = some c -> cl.lookup y = some c -> x = y
  all : forall y c, (y, c) ∈ cl -> ∃ (o : Obj) (v : Option Value), G c = some (dR c o) ∧ o.data = .cell v
  has : ∃ vs : List V, vs.length = cs.length ∧ cs.length = fr.length ∧ (forall (i : Nat) (c : Cell) (v : V), cs[i]? = some c -> vs[i]? = some v -> forall H (D : Dm), Same G H -> (forall c o, D c = some o -> G c = some (dR c o) ∧ ∃ v, o.data = .cell v) -> CellOk K (delH G D) (delH H D) (some v) c) ∧ forall (i : Nat) (y : Str) (v : V), fr[i]? = some y -> vs[i]? = some v -> ∃ (c : Addr) (o : Obj) (u : Value), cl.lookup y = some c ∧ G c = some (dR c o) ∧ o.data = .cell (some u) ∧ RelV v u
theorem lam_thC (hf : G0 f = some (dR f (PySem.W.kla_obj "<lambda>" q params body scope cl pm c' ctv))) (hc : G0 c' = some (LamX.CodeO c' q)) (S : NdefX.NScope fr [] fr scope) (hcl : ClC K G0 cl fr cs) (no : forall (i : Nat) (x : Own), cs[i]? ≠ some (Cell.owx x))
    (hbind : bindArgs (PySem.W.kla_fn "<lambda>" q params body scope cl pm (.ref c') ctv) ⟨[], []⟩ = pure [])
    (hbody : forall (A : Around) (outer : List Env) (s : Shared) (H : Hp) (E : XK) (N : En), Room k (lcx P w K mg base fr q params scope cl c' f A outer s H E).A -> Xok (lcx P w K mg base fr q params scope cl c' f A outer s H E) N (fun _ => True) C ->
      GX (lcx P w K mg base fr q params scope cl c' f A outer s H E) N body cs) : Th P w K mg base (k + 1) G0 f C := by
  refine ⟨⟨_, hf, fun h e => ⟨_, _, _, _, e⟩⟩, fun A outer s H E hr e0 sg hE => ?_⟩
  generalize hD : (fun c => if c ∈ cl.map (·.2) then s.heap.get? c else none : Dm) = D
  have hDc : forall c o, D c = some o -> (∃ y, (y, c) ∈ cl) ∧ s.heap.get? c = some o := fun c o e => by
    rw [← hD] at e
    have e : (if c ∈ cl.map (·.2) then s.heap.get? c else none) = some o := e
    by_cases hm : c ∈ cl.map (·.2)
    · rw [if_pos hm] at e
      obtain ⟨p, hp, rfl⟩ := List.mem_map.mp hm
      exact ⟨⟨p.1, hp⟩, e⟩
    · rw [if_neg hm] at e
      cases e
  have hDi : forall y c o, (y, c) ∈ cl -> s.heap.get? c = some o -> D c = some o := fun y c o hm e => by
    rw [← hD]
    show (if c ∈ cl.map (·.2) then s.heap.get? c else none) = some o
    rw [if_pos (List.mem_map.mpr ⟨(y, c), hm, rfl⟩)]
    exact e
  have hG : forall c o, D c = some o -> G0 c = some (dR c o) ∧ ∃ v, o.data = .cell v := fun c o e => by
    obtain ⟨⟨y, hm⟩, hg⟩ := hDc c o e
    obtain ⟨o', v, h1, h2⟩ := hcl.all y c hm
    have := dR_is e0.hok (sg _ _ h1)
    rw [hg] at this
    cases this
    exact ⟨h1, v, h2⟩
  have hn : forall c o, D c = some o -> H c = some (dR c o) := fun c o e => sg _ _ (hG c o e).1
  have hadd : AddOk D (delH H D) s.heap (frs outer) := fun c o e => ⟨delH_in e, (hDc c o e).2, fun z => by
    have := e0.frf c z
    rw [hn c o e] at this
    cases this⟩
  have hof := dR_is e0.hok (sg _ _ hf)
  obtain ⟨⟨oc, vs, t, hoc, hdc, hvc⟩, _, _⟩ := e0.hok c' _ (sg _ _ hc)
  have lim : s.heap.NoLimit := e0.mod.nolimit.keeps fun b o e => (e0.bs b o e).1
  obtain ⟨ws, hwl, hlen, hcells, hcv⟩ := hcl.has
  have key : codeAny (model P w) A (.call (.ref f) ⟨[], []⟩) (CR (L2.CX P w) outer P w (delH H D) s (fun _ _ => False) fun cls d H' => E cls d (addH H' D)) s := by
    refine PySem.W.kla_callFunE hr.depth hof rfl S.co S.gen rfl ⟨c', oc, vs, t, rfl, hoc, hdc, hvc⟩ ?_
    rw [hbind]
    refine wpAny_pure (wpAny_newFunctionEnv S.nocell (fun y hy => absurd hy (by simp)) (fun h₁ hns hsb => ⟨lim.fresh _ hsb, ?_⟩) S.kind)
    show codeAny _ _ (.expr body (lcx P w K mg base fr q params scope cl c' f A outer s (delH H D) fun cls d H' => E cls d (addH H' D)).env) _ _
    have kp : forall b o, s.heap.get? b = some o -> h₁.get? b = some o := fun b o e => hsb.extBut b o (Nat.ne_of_lt (Heap.lt_size e)) (Heap.get?_push_of_some _ e)
    have inC : forall y c, cl.lookup y = some c -> (y, c) ∈ cl := fun y c e => PySem.mem_of_lookup e
    have CA : NdefX.CellsAt cl fr (ws.map some) s.heap (delH H D) := by
      refine ⟨by rw [List.length_map, hwl, hlen], fun y c e => ?_, hcl.inj, fun i y e => ?_⟩
      · obtain ⟨o, v, h1, h2⟩ := hcl.all y c (inC y c e)
        have hg := dR_is e0.hok (sg _ _ h1)
        exact ⟨delH_in (hDi y c o (inC y c e) hg), v, o, hg, h2⟩
      · have hi : i < ws.length := by rw [hwl, hlen]; exact (List.getElem?_eq_some_iff.mp e).1
        obtain ⟨c, o, u, h1, h2, h3, h4⟩ := hcv i y ws[i] e (List.getElem?_eq_getElem hi)
        refine ⟨c, h1, fun v hv => ⟨u, ?_, o, dR_is e0.hok (sg _ _ h2), h3⟩⟩
        rw [List.getElem?_map, List.getElem?_eq_getElem hi] at hv
        cases hv
        exact h4
    have J := NdefX.inv_startN (CX := L2.CX P w) (F := ⟨"<lambda>", q, params, [], scope, cl, c'⟩) (f := f) (E := fun cls d H' => E cls d (addH H' D)) (us := []) (vs := []) (h₁ := h₁) (tk := s.toks + ([] : List (Str × Value)).length) S hr.hd (env0_del e0 hn) rfl .nil CA hns kp
    have g2 : Same (delH G0 D) (delH H D) := fun b u e => by
      obtain ⟨z, e⟩ := delH_some e
      rw [delH_out z]
      exact sg _ _ e
    have es : NdefX.startF fr [] (ws.map some) = ws.map some := by
      unfold NdefX.startF
      have : fr.length - ([] : List V).length - (ws.map some).length = 0 := by rw [List.length_map, hwl, hlen]; simp
      rw [this]
      simp
    have sta : Sta K (delH G0 D) (delH H D) (NdefX.startF fr [] (ws.map some)) cs := by
      rw [es]
      refine ⟨g2, by rw [List.length_map, hwl], fun i c hc => ?_, fun i j p x y h1 => absurd h1 (no i x)⟩
      have hi : i < ws.length := by rw [hwl]; exact (List.getElem?_eq_some_iff.mp hc).1
      refine ⟨some ws[i], by rw [List.getElem?_map, List.getElem?_eq_getElem hi]; rfl, hcells i c ws[i] hc (List.getElem?_eq_getElem hi) H D sg hG⟩
    have fr0 : Gd.Fr K ⟨delH G0 D, delH H D, fun _ => none⟩ (delH G0 D) (NdefX.startF fr [] (ws.map some)) (delH H D) cs := ⟨delH G0 D, ⟨.refl g2, fun _ _ z => nomatch z⟩, Same.refl _, sta, fun i x p h1 => absurd h1 (no i x)⟩
    refine PySem.W.kla_codeExpr (wpAny_mono (hbody A outer s (delH H D) (fun cls d H' => E cls d (addH H' D)) ⟨delH G0 D, delH H D, fun _ => none⟩ (hr.deeper _) ⟨fun cls d _ H' => E cls d (addH H' D), takes_of rfl rfl rfl rfl, fun P1 σ1 H1 ρ1 _ f1 => ?_⟩ _ _ _ fr0 [] _ J).run (fun v s' hq => ?_) fun e s' hq => hq)
    · obtain ⟨G1, e1, _⟩ := f1
      refine hE _ fun b u e => ?_
      cases z : D b with
      | none =>
        rw [addH_out z]
        exact e1.h b u (by show delH H D b = some u; rw [delH_out z]; exact e)
      | some o =>
        rw [addH_in z]
        rw [hn b o z] at e
        exact e
    · obtain ⟨_, _, _, _, z⟩ := hq
      exact z.elim
  have hC := codeAny_mono key fun r s' h => cr_add (Q' := fun _ _ => False) (E' := E) hadd (fun v H' _ z => z) (fun cls d H' _ z => z) h
  rw [add_del hn] at hC
  exact hC
end
section
variable {X : Cx} {T : List (Addr × Str)} {params : Arguments} {body : Expr} {scope : Scope} {c P : Addr} {D : Ends} {σ : L2.St} {G H : Hp} {pos pos' lp p1 p2 p3 : Pos} {x : Str} {i : Nat}
/-- x = [lambda: body] -/
theorem raw_lam1 (TK : TabK X T c P) (L : LamX.LamS X.env.scope scope) (hdef : defaultsOf params X.env = ([], [])) (hN : X.N.Nodup) (gh : Same G H) (tab : TabG T G H)
    (h : forall f q G1 H1, ExtT T G H G1 H1 -> (forall p ps, H p = some (.tbl ps) -> ∃ qs, H1 p = some (.tbl qs)) -> LamF X params body scope G1 f -> H1 q = none -> H q = none -> D.nx (σ.set i (some (.ref q))) (upd H1 q (.lst [.ref f])))
    (hi : X.N[i]? = some x := by rfl) (hx : Loc X.env.scope x := by first | exact Or.inl rfl | exact Or.inr rfl) (he1 : starEach [.Lambda params body scope lp] X.env = (false, eval (.Lambda params body scope lp) X.env) :: starEach [] X.env := by rfl) (hs : swapsWith (.List [.Lambda params body scope lp] p2) (some (.Name x pos')) pos.line X.env = pure false := by rfl)
    (hf : X.fn x = true ∨ X.env.scope.names.lookup x = some .local := by first | exact .inl rfl | exact .inr rfl | assumption) : twp X (.Assign [.Name x pos'] (.List [.Lambda params body scope lp] p2) pos) D σ H := by
  refine twp_of (ps_set hN hi hx (pe_lst (pa_cons (pe_lamT TK.TB TK.code TK.mem TK.one L hdef) pa_nil he1)) hs hf) ?_
  refine ⟨G, gh, tab, fun f c' pm ctv G1 H1 ex ht nf hf hc => ⟨by show 1 ≤ sizeLine; decide, fun q hq => h f q G1 H1 ex ht ⟨c', pm, ctv, hf, hc⟩ hq ?_⟩⟩
  cases e : H q with
  | none => rfl
  | some u =>
    by_cases hu : ∃ ps, u = .tbl ps
    · obtain ⟨ps, rfl⟩ := hu
      obtain ⟨qs, e2⟩ := ht q ps e
      rw [hq] at e2
      cases e2
    · have := ex.h q u e fun ps z => hu ⟨ps, z⟩
      rw [hq] at this
      cases this
/-- x.append(lambda: body) -/
theorem raw_lamA {q : Addr} {xs : List V} (TK : TabK X T c P) (L : LamX.LamS X.env.scope scope) (hdef : defaultsOf params X.env = ([], [])) (gh : Same G H) (tab : TabG T G H) (hσ : σ[i]? = some (some (.ref q))) (hq : H q = some (.lst xs)) (hz : xs.length < 1000)
    (h : forall f G1 H1, ExtT T G H G1 H1 -> (forall p ps, H p = some (.tbl ps) -> ∃ qs, H1 p = some (.tbl qs)) -> LamF X params body scope G1 f -> H1 q = some (.lst xs) -> D.nx σ (upd H1 q (.lst (xs ++ [.ref f]))))
    (hi : X.N[i]? = some x := by rfl) (hv : Vis X.env.scope x := by first | exact Or.inl rfl | exact Or.inr (Or.inl rfl) | exact Or.inr (Or.inr rfl)) (hd : (x == ("__debug__" : Str)) = false := by decide) (hcd : (x == ("__classdict__" : Str)) = false := by decide)
    (hbase : attributeBase (.Name x p1) "append" X.env (eval (.Name x p1) X.env) = eval (.Name x p1) X.env := by rfl)
    (hfew : ((backTo p3 (starEach (.Lambda params body scope lp :: []) X.env)).all (fun x => !x.1) && (backToKw p3 (keywordEach [] X.env)).all (fun x => x.1.isSome) && decide ((Expr.Lambda params body scope lp :: []).length + ([] : List Keyword).length + (if ([] : List Keyword).isEmpty then 0 else 1) < 30)) = true := by rfl)
    (hline : (p2.endLine == p3.line) = true := by rfl) (hs1 : starEach (.Lambda params body scope lp :: []) X.env = (false, eval (.Lambda params body scope lp) X.env) :: starEach [] X.env := by rfl) (hplain : (backTo p3 (starEach [] X.env)).any (·.1) = false := by rfl)
    (hs : swapsWith (.Call (.Attribute (.Name x p1) "append" p2) [.Lambda params body scope lp] [] p3) none pos.line X.env = pure false := by rfl) : twp X (.Expr (.Call (.Attribute (.Name x p1) "append" p2) [.Lambda params body scope lp] [] p3) pos) D σ H := by
  refine twp_of (ps_expr (pe_bm PySem.F.plainAttrs_list PySem.F.slot_list_append PySem.F.type_list_append mt_append (pe_var hi hv hd hcd) (pa_cons (pe_lamT TK.TB TK.code TK.mem TK.one L hdef) pa_nil hs1) hbase hfew hline hs1 hplain) hs) ?_
  refine ⟨.ref q, hσ, .inl ⟨rfl, _, .inl (.inl hq)⟩, G, gh, tab, fun f c' pm ctv G1 H1 ex ht nf hf hc => ?_⟩
  have h1 : H1 q = some (.lst xs) := ex.h _ _ hq fun ps z => nomatch z
  exact ⟨q, xs, .ref f, rfl, rfl, h1, Nat.lt_trans hz (by decide), h f G1 H1 ex ht ⟨c', pm, ctv, hf, hc⟩ h1⟩
end
end Gd

namespace Gd
open PySem PySem.Spec L2
section
variable {X : Cx} {T : List (Addr × Str)} {params : Arguments} {body : Expr} {scope : Scope} {σ : L2.St} {G H : Hp} {kt k k' : Nat} {C : Addr} {fr : List Str} {js : List Nat} {cs : List Cell} {f : Addr}
/-- a cell of the lambda, whatever of the frame's cells is untracked -/
def CellAll (K : PySem.W.Frag) (G : Hp) (v : V) (c : Cell) : Prop := forall H (D : Dm), Same G H -> (forall c o, D c = some o -> G c = some (dR c o) ∧ ∃ v, o.data = .cell v) -> CellOk K (delH G D) (delH H D) (some v) c
theorem cellAll_dat {K : PySem.W.Frag} {v : V} {d : PyData} (h : Dq K G v d) : CellAll K G v (.dat d) := fun H D gh hD => ⟨v, rfl, h.less (less_del fun c o e u eu => by
  rw [(hD c o e).1] at eu
  exact (Option.some.inj eu).symm)⟩
theorem lamC_now {H2 : Hp} {D : Dm} (LF : LamF X params body scope G f) (LO : LamOk X kt C params body scope fr js cs) (ok : X.Ok) (cd : CellsD X σ H2 D) (hG : forall c o, D c = some o -> G c = some (dR c o))
    (hc : forall (i j : Nat) (c : Cell), js[i]? = some j -> cs[i]? = some c -> ∃ v, σ[j]? = some (some v) ∧ CellAll X.K G v c) : Th X.prog X.w X.K X.mg X.base (kt + 1) G f C := by
  obtain ⟨c', pm, ctv, hf, hco⟩ := LF.ex
  have hfr : forall y, y ∈ fr -> (y, NameKind.free) ∈ scope.names := fun y hy => PySem.mem_of_lookup (LO.S.frk y hy)
  have caps := NdefX.Caps.made (X := X) (scope := scope) (fr := fr) (js := js) ok LO.L.free hfr LO.js
  have hfree := LO.L.has ok
  have hjl : js.length = fr.length := by
    have := congrArg List.length LO.js
    rwa [List.length_map, List.length_map] at this
  have hat : forall i, i < fr.length -> ∃ j v, js[i]? = some j ∧ σ[j]? = some (some v) ∧ forall c, cs[i]? = some c -> CellAll X.K G v c := fun i hi => by
    have hj : i < js.length := by omega
    have hcl : i < cs.length := by rw [LO.len]; exact hi
    have h1 : js[i]? = some js[i] := List.getElem?_eq_getElem hj
    have h2 : cs[i]? = some cs[i] := List.getElem?_eq_getElem hcl
    obtain ⟨v, a, b⟩ := hc i _ _ h1 h2
    exact ⟨_, v, h1, a, fun c e => by rw [h2] at e; cases e; exact b⟩
  let vs : List V := js.map fun j => ((σ[j]?).getD none).getD .non
  have hvs : forall (i j : Nat) (v : V), js[i]? = some j -> σ[j]? = some (some v) -> vs[i]? = some v := fun i j v h1 h2 => by
    show (js.map fun j => ((σ[j]?).getD none).getD .non)[i]? = some v
    rw [List.getElem?_map, h1]
    show some (((σ[j]?).getD none).getD .non) = some v
    rw [h2]
    rfl
  refine lam_thC hf hco LO.S ⟨fun x y a e1 e2 => cd.inj x y a (caps.sub x a e1) (caps.sub y a e2), fun y a hm => ?_, vs, by rw [LO.len, ← hjl]; exact List.length_map .., LO.len, fun i c v e1 e2 => ?_, fun i y v e1 e2 => ?_⟩ LO.no (LO.bind _ _ _ _ _) fun A outer s H E N' hr hx => LO.body _ _ _ _ A outer s H E N' hr hx
  · rcases cloFrom_mem hm with h | ⟨h1, h2⟩
    · cases h
    · obtain ⟨a1, ha⟩ := hfree _ h1 rfl
      have ha : X.env.cells.lookup y = some a1 := ha
      have ea : a = a1 := by
        rw [h2, ha] <;> rfl
      subst ea
      obtain ⟨o, v, d1, d2⟩ := cd.all y a ha
      exact ⟨o, v, hG _ _ d1, d2⟩
  · obtain ⟨j, v', a1, a2, a3⟩ := hat i (by rw [← LO.len]; exact (List.getElem?_eq_some_iff.mp e1).1)
    rw [hvs i j v' a1 a2] at e2
    cases e2
    exact a3 c e1
  · obtain ⟨j, v', a1, a2, a3⟩ := hat i (List.getElem?_eq_some_iff.mp e1).1
    rw [hvs i j v' a1 a2] at e2
    cases e2
    have e3 : (js.map fun j => X.N[j]?)[i]? = some (some y) := by
      rw [LO.js, List.getElem?_map, e1] <;> rfl
    rw [List.getElem?_map, a1] at e3
    obtain ⟨a, o, u, b1, b2, b3, b4⟩ := cd.val j y v (Option.some.inj e3) a2 (caps.kin y (List.mem_of_getElem? e1))
    exact ⟨a, o, u, caps.sup y (List.mem_of_getElem? e1) a b1, hG _ _ b2, b3, b4⟩
/-- x(y, "z"), y a list of functions that raise -/
theorem raw_all {Gp : Hp} {Q : VK} {q : Addr} {fs : List Addr} {z x y : Str} {nm : Addr -> Str -> Prop} {i j : Nat} {p py p3 pos : Pos} (F : CanS X.prog X.w X.K X.mg X.base k x (spAll X.prog X.w X.K X.mg X.base (kt + 1) nm)) (hr : Room k' X.A) (hk : k ≤ k') (hfn : forall y, X.fn y = true) (hσ : σ[i]? = some (some (.ref q))) (gh : Same Gp H) (nt : forall b ps, Gp b ≠ some (.tbl ps)) (hq : Gp q = some (.lst (fs.map V.ref))) (hl : fs.length ≤ 1000)
    (hth : forall D, CellsD X σ H D -> X.Ok -> forall f, f ∈ fs -> Th X.prog X.w X.K X.mg X.base (kt + 1) (addH Gp D) f C) (hnm : nm C z) (hQ : forall H', Same H H' -> Q (.bl true) H')
    (hN : X.N[i]? = some y := by rfl) (hv : Vis X.env.scope y := by first | exact Or.inl rfl | exact Or.inr (Or.inl rfl) | exact Or.inr (Or.inr rfl)) (hg : Gl X x := by rfl) (hd : (y == ("__debug__" : Str)) = false := by decide) (hcd : (y == ("__classdict__" : Str)) = false := by decide) (hdb : (x == ("__debug__" : Str)) = false := by decide)
    (he : starEach (.Name y py :: [.Constant (.str z) j p3]) X.env = (false, eval (.Name y py) X.env) :: starEach [.Constant (.str z) j p3] X.env := by rfl) (he2 : starEach [.Constant (.str z) j p3] X.env = (false, eval (.Constant (.str z) j p3) X.env) :: starEach [] X.env := by rfl) (hpl : (backTo pos (starEach [.Constant (.str z) j p3] X.env)).any (·.1) = false := by rfl) :
    tw X (.Call (.Name x p) (.Name y py :: [.Constant (.str z) j p3]) [] pos) σ H Q := fun pins s I => Wp.mk <| by
  obtain ⟨fa, fd, ps, hm, kp, hb, Fo⟩ := F.ex
  refine (pe_callC Fo hr hk hg hm kp hb hfn (pa_cons (pe_var hN hv hd hcd) (pa_cons pe_str pa_nil he2) he) hdb he hpl).run pins s σ H _ I ?_
  refine ⟨.ref q, hσ, ?_⟩
  show forall D, CellsD X σ H D -> spAll X.prog X.w X.K X.mg X.base (kt + 1) nm [.ref q, .str z] (addH H D) _ _
  intro D cd
  have hDn : forall b u, Gp b = some u -> D b = none := fun b u e => by
    cases eD : D b with
    | none => rfl
    | some o =>
      have := cd.free b o eD
      rw [gh _ _ e] at this
      cases this
  refine ⟨addH Gp D, q, fs, z, C, rfl, fun b u e => ?_, fun b ps e => ?_, by rw [addH_out (hDn _ _ hq)]; exact hq, hth D cd I.ok, hnm, hl, fun H' sm => ⟨fun c o e => sm _ _ (addH_in e), hQ _ fun b u e => ?_⟩⟩
  · cases eD : D b with
    | some o => rw [addH_in eD] at e ⊢; exact e
    | none => rw [addH_out eD] at e ⊢; exact gh _ _ e
  · cases eD : D b with
    | some o => rw [addH_in eD] at e; exact tbl_ne ps (Option.some.inj e)
    | none => rw [addH_out eD] at e; exact nt b ps e
  · have eD : D b = none := by
      cases eD : D b with
      | none => rfl
      | some o =>
        have := cd.free b o eD
        rw [e] at this
        cases this
    rw [delH_out eD]
    exact sm _ _ (by rw [addH_out eD]; exact e)
end
/-! ### a def that leaves its cells behind -/
/-- the block ends by a return; R is told of the slots, too -/
def twsP (X : Cx) (ss : List Stmt) (R : V -> L2.St -> Hp -> Prop) : L2.St -> Hp -> Prop := fun σ H => forall pins s, Inv X pins σ H s -> Wp X (execs ss X.env) (fun fl s' => match fl with
  | .ret u => ∃ v σ' H', Inv X pins σ' H' s' ∧ RelV v u ∧ R v σ' H'
  | _ => False) s
section
variable {X : Cx} {st : Stmt} {rest : List Stmt} {R : V -> L2.St -> Hp -> Prop} {σ : L2.St} {H : Hp} {e : Expr} {pos : Pos}
theorem twsP_cons (h : twp X st { nx := fun σ' H' => twsP X rest R σ' H', rt := fun _ _ => False, bk := fun _ _ => False, ct := fun _ _ => False } σ H) : twsP X (st :: rest) R σ H := fun pins s I => ⟨wpAny_execs_cons (thn (h pins s I).run fun fl s1 q => by
  cases fl with
  | next =>
    obtain ⟨σ', H', I', q⟩ := q
    exact (q pins s1 I').run
  | ret v =>
    obtain ⟨_, _, _, _, _, z⟩ := q
    exact z.elim
  | brk =>
    obtain ⟨_, _, _, z⟩ := q
    exact z.elim
  | cont =>
    obtain ⟨_, _, _, z⟩ := q
    exact z.elim)⟩
theorem twsP_ret (h : tw X e σ H fun v H' => R v σ H') : twsP X (.Return (some e) pos :: rest) R σ H := fun pins s I => ⟨wpAny_execs_cons (wpAny_Return_some (thn (h pins s I).run fun u s1 ⟨v, H1, I1, r1, q1⟩ => ⟨v, σ, H1, I1, r1, q1⟩))⟩
theorem fn_pub {P : Program} {w : World} {K : PySem.W.Frag} {mg : Str -> Option Value} {base : Heap} {x : Str} {st : Stmt} {f : Addr} {fd : FuncData} {Nm ps : List Str} {k : Nat} {sp : Sp} (F : FnP K x st f fd) (S : FnScope Nm ps (defScope st)) (hf : f = He.fAd K (x, none)) (hlen : forall vs H Q E, sp vs H Q E -> vs.length = ps.length)
    (body : forall A outer s H vs Q E, Room k (cxD P w K mg base Nm x st f (.ref (He.codeOf K (x, none))) A outer s H E).A -> sp vs H Q E -> ∃ R : V -> L2.St -> Hp -> Prop, twsP (cxD P w K mg base Nm x st f (.ref (He.codeOf K (x, none))) A outer s H E) (defBody st) R (L2.start Nm vs) H ∧
      forall v σ' H' D, R v σ' H' -> CellsD (cxD P w K mg base Nm x st f (.ref (He.codeOf K (x, none))) A outer s H E) σ' H' D -> (cxD P w K mg base Nm x st f (.ref (He.codeOf K (x, none))) A outer s H E).Ok -> (forall c o, D c = some o -> H c = none) -> Q v (addH H' D)) : FnOk P w K mg base (L2.CX P w) (k + 1) f fd ps sp := by
  obtain ⟨oc, od, dV, kV, doc, pm, an, cdv, ct, osl, rfl, lk, hcd, _, _⟩ := F.ex
  obtain ⟨c, rfl⟩ := He.codeIn_ref hcd
  have ec : He.codeOf K (x, none) = c := He.codeOf_eq (p := (x, none)) (by rw [← hf]; exact lk) rfl
  subst ec
  refine ⟨hlen, fun A outer s H args us vs Q E hr e0 hb r hsp => ?_⟩
  have hl := hlen _ _ _ _ hsp
  have inK : K.In s.heap := e0.mod.kin.keeps fun b o e => (e0.bs b o e).1
  have nol : s.heap.NoLimit := e0.mod.nolimit.keeps fun b o e => (e0.bs b o e).1
  refine codeAny_call_function hr.depth (inK _ _ lk) rfl S.co S.gen rfl (PySem.W.codeRec_of inK hcd) (hb _ _ _ _ ?_)
  refine wpAny_newFunctionEnv_cells S.kind (fun ⟨n, v⟩ hy => ?_) fun env he s1 x1 => ?_
  · rcases S.par n (List.of_mem_zip hy).1 with q | q
    · exact .inl q
    · exact .inr ⟨q, PySem.W.cellsFrom_some _ _ _ (.inl q)⟩
  subst he
  refine ⟨nol.keeps x1.toInCall.keep, codeAny_func ?_⟩
  have J : Inv (cxD P w K mg base Nm x st f (.ref (He.codeOf K (x, none))) A outer s H E) [] (L2.start Nm vs) H s1 := inv_start S hr.hd e0 hl r x1
  obtain ⟨R, hR, hQ⟩ := body A outer s H vs Q E (hr.deeper _) hsp
  refine wpAny_mono (hR [] s1 J).run (fun fl s' hs => ?_) fun e s' hs => hs
  cases fl with
  | ret u =>
    obtain ⟨v, σ', H', J', rv, q⟩ := hs
    obtain ⟨D, cd, ao, _, hbig⟩ := cellsD_of J' (fun _ => rfl)
    have hbig : forall c o, D c = some o -> s.heap.objs.size ≤ c := hbig
    have hsm : forall b o, s.heap.get? b = some o -> D b = none := fun b o e => by
      cases eD : D b with
      | none => rfl
      | some o2 => exact absurd (Nat.lt_of_lt_of_le (Heap.lt_size e) (hbig b o2 eD)) (Nat.lt_irrefl _)
    have hsH : forall b u, H b = some u -> D b = none := fun b u e => by
      cases eD : D b with
      | none => rfl
      | some o2 =>
        rw [e0.hok.fresh (hbig b o2 eD)] at e
        cases e
    have un := J'.base
    refine ⟨v, addH H' D, J'.os, J'.bare, ⟨un.keep, un.slot, fun b o e n hx => ?_, un.there, fun b xs e => ?_, fun b o xs e => ?_, fun b ps e => ?_⟩, hok_add J'.hok (fun c o e => (ao c o e).1) fun c o e => (ao c o e).2.1, rv, hQ v σ' H' D q cd J'.ok fun c o e => e0.hok.fresh (hbig c o e)⟩
    · rw [addH_out (hsm b o e)]; exact un.free b o e n hx
    · rw [addH_out (hsH b _ e)]; exact un.tups b xs e
    · rw [addH_out (hsH b _ e)]; exact un.frzs b o xs e
    · rw [addH_out (hsH b _ e)]; exact un.tbls b ps e
  | next => exact hs.elim
  | brk => exact hs.elim
  | cont => exact hs.elim
end
end Gd

namespace Gd
open PySem PySem.Spec L2
/-! ### the making of a list of lambdas at q: since the entry (Gs, Hs) -/
structure FnSt (T : List (Addr × Str)) (Gs Hs G H : Hp) (q : Addr) (xs : List V) : Prop where
  e : ExtT T Gs Hs G H
  tb : forall p ps, Hs p = some (.tbl ps) -> ∃ qs, H p = some (.tbl qs)
  hs : Hs q = none
  gq : G q = none
  hq : H q = some (.lst xs)
section
variable {T : List (Addr × Str)} {Gs Hs G H G1 H1 : Hp} {q : Addr} {xs ys : List V}
theorem tabG_upd {o : HO} (t : TabG T G H) (n : forall ps, H q ≠ some (.tbl ps)) : TabG T G (upd H q o) := fun p hp => by
  obtain ⟨ps, a1, a2, a3, a4⟩ := t p hp
  exact ⟨ps, by rw [upd_ne (fun z => n ps (by rw [← z]; exact a1))]; exact a1, a2, a3, a4⟩
theorem FnSt.start (e : ExtT T G H G1 H1) (ht : forall p ps, H p = some (.tbl ps) -> ∃ qs, H1 p = some (.tbl qs)) (hq1 : H1 q = none) (hq : H q = none) : FnSt T G H G1 (upd H1 q (.lst xs)) q xs := by
  have gq : G1 q = none := e.gh.free hq1
  refine ⟨⟨e.g, fun b u h n => ?_, fun b u h => ?_, e.old, tabG_upd e.tab fun ps z => by rw [hq1] at z; cases z⟩, fun p ps h => ?_, hq, gq, upd_same⟩
  · rw [upd_ne (ne_of_none h hq)]; exact e.h b u h n
  · rw [upd_ne (ne_of_none h gq)]; exact e.gh b u h
  · obtain ⟨qs, z⟩ := ht p ps h
    exact ⟨qs, by rw [upd_ne (ne_of_none z hq1)]; exact z⟩
theorem FnSt.up (s : FnSt T Gs Hs G H q xs) : forall x, Hs x ≠ none -> H x ≠ none := fun x hx hz => by
  cases e : Hs x with
  | none => exact hx e
  | some u =>
    by_cases hu : ∃ ps, u = .tbl ps
    · obtain ⟨ps, rfl⟩ := hu
      obtain ⟨qs, z⟩ := s.tb x ps e
      rw [hz] at z
      cases z
    · have := s.e.h x u e fun ps z => hu ⟨ps, z⟩
      rw [hz] at this
      cases this
theorem FnSt.step (s : FnSt T Gs Hs G H q xs) (e : ExtT T G H G1 H1) (ht : forall p ps, H p = some (.tbl ps) -> ∃ qs, H1 p = some (.tbl qs)) : FnSt T Gs Hs G1 (upd H1 q (.lst ys)) q ys := by
  have h1q : H1 q = some (.lst xs) := e.h _ _ s.hq fun ps z => nomatch z
  have gq : G1 q = none := by rw [e.old q (by rw [s.hq]; exact fun z => nomatch z)]; exact s.gq
  refine ⟨⟨s.e.g.trans e.g, fun b u h n => ?_, fun b u h => ?_, fun a ha => ?_, tabG_upd e.tab fun ps z => by rw [h1q] at z; cases z⟩, fun p ps h => ?_, s.hs, gq, upd_same⟩
  · rw [upd_ne (ne_of_none h s.hs)]; exact e.h b u (s.e.h b u h n) n
  · rw [upd_ne (ne_of_none h gq)]; exact e.gh b u h
  · rw [e.old a (s.up a ha), s.e.old a ha]
  · obtain ⟨qs, z⟩ := s.tb p ps h
    obtain ⟨rs, z2⟩ := ht p qs z
    have npq : p ≠ q := fun y => by rw [y, s.hs] at h; cases h
    exact ⟨rs, by rw [upd_ne npq]; exact z2⟩
end
/-! ### the promise of a def that gives such a list -/
def NoTb (G : Hp) : Prop := forall b ps, G b ≠ some (.tbl ps)
/-- a list of functions at l, all of which raise errors of the class at C -/
structure Thl (P : Program) (w : World) (K : PySem.W.Frag) (mg : Str -> Option Value) (base : Heap) (k : Nat) (C : Addr) (G : Hp) (l : Addr) (fs : List Addr) : Prop where
  at_ : G l = some (.lst (fs.map V.ref))
  th : forall f, f ∈ fs -> Th P w K mg base k G f C
  nt : NoTb G
  len : fs.length ≤ 1000
def spFns (P : Program) (w : World) (K : PySem.W.Frag) (mg : Str -> Option Value) (base : Heap) (T : List (Addr × Str)) (k : Nat) (C : Addr) (R : List PyData -> Prop) : Sp := fun vs H Q _ => ∃ (G : Hp) (ds : List PyData), Same G H ∧ DqAll K G vs ds ∧ R ds ∧ TabG T G H ∧
  forall l fs G0 G' H', ExtT T G H G' H' -> (forall p ps, H p = some (.tbl ps) -> ∃ qs, H' p = some (.tbl qs)) -> Same G0 G' -> Thl P w K mg base k C G0 l fs -> Q (.ref l) H'
/-- the end of such a def: its cells are left behind -/
theorem pub_end {X : Cx} {T : List (Addr × Str)} {Gs Hs G H : Hp} {q : Addr} {fs : List Addr} {σ : L2.St} {D : Dm} {kt : Nat} {C : Addr} {Q : VK} (s : FnSt T Gs Hs G H q (fs.map V.ref)) (cd : CellsD X σ H D) (hD : forall c o, D c = some o -> Hs c = none) (hl : fs.length ≤ 1000)
    (hth : forall G0, (forall c o, D c = some o -> G0 c = some (dR c o)) -> Less G G0 -> (forall b u, G b = some u -> (forall ps, u ≠ .tbl ps) -> G0 b = some u) -> forall f, f ∈ fs -> Th X.prog X.w X.K X.mg X.base kt G0 f C)
    (hq : forall l fs G0 G' H', ExtT T Gs Hs G' H' -> (forall p ps, Hs p = some (.tbl ps) -> ∃ qs, H' p = some (.tbl qs)) -> Same G0 G' -> Thl X.prog X.w X.K X.mg X.base kt C G0 l fs -> Q (.ref l) H') : Q (.ref q) (addH H D) := by
  have hDH : forall b u, H b = some u -> D b = none := fun b u e => by
    cases eD : D b with
    | none => rfl
    | some o =>
      have := cd.free b o eD
      rw [e] at this
      cases this
  have hDq := hDH q _ s.hq
  have hDG : forall b u, G b = some u -> D b = none ∧ b ≠ q := fun b u e => ⟨hDH b u (s.e.gh _ _ e), ne_of_none e s.gq⟩
  have big : forall b u, G b = some u -> addH (upd G q (.lst (fs.map V.ref))) D b = some u := fun b u e => by
    obtain ⟨h1, h2⟩ := hDG b u e
    rw [addH_out h1, upd_ne h2]
    exact e
  have small : forall b u, G b = some u -> (forall ps, u ≠ .tbl ps) -> addH (upd (noT G) q (.lst (fs.map V.ref))) D b = some u := fun b u e n => by
    obtain ⟨h1, h2⟩ := hDG b u e
    rw [addH_out h1, upd_ne h2]
    exact noT_of e n
  refine hq q fs (addH (upd (noT G) q (.lst (fs.map V.ref))) D) (addH (upd G q (.lst (fs.map V.ref))) D) (addH H D) ⟨fun b u e => big b u (s.e.g _ _ e), fun b u e n => ?_, fun b u e => ?_, fun a ha => ?_, fun p hp => ?_⟩ (fun p ps e => ?_) (fun b u e => ?_) ⟨?_, hth _ (fun c o e => addH_in e) (fun b u e => ?_) small, fun b ps e => ?_, hl⟩
  · have := s.e.h b u e n
    rw [addH_out (hDH b u this)]; exact this
  · cases eD : D b with
    | some o => rw [addH_in eD] at e ⊢; exact e
    | none =>
      rw [addH_out eD] at e ⊢
      by_cases hb : b = q
      · rw [hb, upd_same] at e
        rw [hb, s.hq]
        exact e
      · rw [upd_ne hb] at e
        exact s.e.gh _ _ e
  · have n1 : D a = none := by
      cases eD : D a with
      | none => rfl
      | some o => exact absurd (hD a o eD) ha
    have n2 : a ≠ q := fun z => ha (by rw [z]; exact s.hs)
    rw [addH_out n1, upd_ne n2]
    exact s.e.old a ha
  · obtain ⟨ps, a1, a2, a3, a4⟩ := s.e.tab p hp
    have n1 := hDH _ _ a1
    have n2 : p.1 ≠ q := fun z => by rw [z, s.hq] at a1; cases a1
    refine ⟨ps, by rw [addH_out n1]; exact a1, by rw [addH_out n1, upd_ne n2]; exact a2, a3, fun pos cv hc => ?_⟩
    obtain ⟨c, b1, b2⟩ := a4 pos cv hc
    exact ⟨c, b1, big _ _ b2⟩
  · obtain ⟨qs, z⟩ := s.tb p ps e
    exact ⟨qs, by rw [addH_out (hDH _ _ z)]; exact z⟩
  · cases eD : D b with
    | some o => rw [addH_in eD] at e ⊢; exact e
    | none =>
      rw [addH_out eD] at e ⊢
      by_cases hb : b = q
      · rw [hb, upd_same] at e ⊢; exact e
      · rw [upd_ne hb] at e ⊢; exact (noT_some e).1
  · rw [addH_out hDq, upd_same]
  · by_cases hu : ∃ ps, u = .tbl ps
    · exact .inr (.inr hu)
    · exact .inl (small b u e fun ps z => hu ⟨ps, z⟩)
  · cases eD : D b with
    | some o => rw [addH_in eD] at e; exact tbl_ne ps (Option.some.inj e)
    | none =>
      rw [addH_out eD] at e
      by_cases hb : b = q
      · rw [hb, upd_same] at e; cases e
      · rw [upd_ne hb] at e; exact (noT_some e).2 ps rfl
/-! ### raising by a method, by a class -/
section
variable {X : Cx} {N : En} {ρ : Rho} {k k' i : Nat} {f C : Addr} {A : Rho -> Prop} {fd : FuncData} {ps : List Str} {sp : Sp} {x m : Str} {p1 apos pos : Pos} {es : List Expr} {p Cl : Addr} {φ : Hp -> Prop}
/-- x.m(..), x in slot i an instance, as its cell says -/
theorem gx_meth (i : Nat) {pl : Sem Bool} {ds : List PyData} (c : Cls X.K Cl) (hm : Meth X.K Cl m f) (F : FnOk X.prog X.w X.K X.mg X.base (L2.CX X.prog X.w) k f fd ps sp) (hr : Room k' X.A) (hb : Binds X.K fd ps []) (hx : Xok X N A C) (hA : A ρ) (ha : GA X es ρ ds) (hk : k ≤ k')
    (hφ : forall G0, φ G0 -> ∃ dx fs, G0 p = some (.ins Cl dx fs) ∧ fs.lookup m = none) (hsp : forall (G0 G H : Hp) (vs : List V) (E : XK), φ G0 -> Same G0 G -> Same G H -> DqAll X.K G vs ds -> (forall H', Same H H' -> E (.ref C) none H') -> sp (.ref p :: vs) H (fun _ _ => False) E)
    (hc : ρ[i]? = some (.pin (.ref p) φ) := by rfl) (hN : X.N[i]? = some x := by rfl) (hv : Vis X.env.scope x := by first | exact Or.inl rfl | exact Or.inr (Or.inl rfl) | exact Or.inr (Or.inr rfl)) (hd : (x == ("__debug__" : Str)) = false := by decide) (hcd : (x == ("__classdict__" : Str)) = false := by decide)
    (hst : (es = [] ∧ ds = []) ∨ ∃ e r, es = e :: r ∧ starEach (e :: r) X.env = (false, eval e X.env) :: starEach r X.env ∧ (backTo pos (starEach r X.env)).any (·.1) = false := by first | exact Or.inl ⟨rfl, rfl⟩ | exact Or.inr ⟨_, _, rfl, rfl, rfl⟩)
    (ht : eval (.Call (.Attribute (.Name x p1) m apos) es [] pos) X.env = (do
      let ov ← eval (.Name x p1) X.env
      standAt apos.atName
      let (f, first) ← holding [ov] (getMethod ov m pl)
      callWith pos f first (backTo pos (starEach es X.env)) (backToKw pos (keywordEach [] X.env))) := by rfl) : GX X N (.Call (.Attribute (.Name x p1) m apos) es [] pos) ρ := fun P σ H fr pins s I => by
  refine Wp.mk ?_
  obtain ⟨W, tk, hW⟩ := hx
  obtain ⟨G, e0, sp0, sta, fs0⟩ := fr
  obtain ⟨ov, h1, h2, G0, h3, h4, h5⟩ := sta.at_ i _ hc
  subst h2
  obtain ⟨dx, fs, hp, hno⟩ := hφ G0 h5
  refine PySem.W.methodCall_KW (pl := pl) (thn ((pe_var (pos := p1) hN hv hd hcd).run pins s σ H (fun v H1 => v = .ref p ∧ H1 = H) I ⟨.ref p, h1, rfl, rfl⟩) fun u s1 ⟨v, H1, I1, r1, q1⟩ => ?_) ht
  obtain ⟨rfl, rfl⟩ := q1
  cases r1
  refine getmeth_ok I1 (sta.gh _ _ (h3 _ _ hp)) c hm hno ?_
  have fin : forall {us : List Value} {vs : List V} {s2 : Shared} {G2 H2 : Hp}, Inv X pins σ H2 s2 -> Ext G H1 G2 H2 -> DqAll X.K G2 vs ds -> Vals vs us -> wpAny (model X.prog X.w) X.A (call (.ref f) (.ref p :: us)) (EP X pins σ fun _ _ => False) X.xe s2 := fun I2 e2 dv r => by
    refine run_fnS (E := WE W) (vs := .ref p :: _) F (hr.mono hk) hb (passAt tk σ) I2 (.cons rfl r) (hsp G0 _ _ _ _ h5 (h3.trans e2.g) e2.gh dv fun H' sm => ?_)
    have e3 : Ext G H1 _ H' := e2.trans ⟨Same.refl _, sm, e2.gh.trans sm, fun _ _ => rfl⟩
    exact hW P σ H' ρ hA ⟨_, e0.trans e3, sp0.trans e3.g, sta.ext e3, fs0⟩
  rcases hst with ⟨rfl, rfl⟩ | ⟨e, r, rfl, hs1, hpl⟩
  · refine PySem.W.callWith_K0 (first := [.ref p]) I1.kIn hm.kp ?_
    exact fin (us := []) I1 (.refl sta.gh) .nil .nil
  · refine PySem.W.callWith_K (first := [.ref p]) (h₀ := X.base) I.ok.mod.kin hm.kp (thn (ha σ G H1 (fun vs H2 => ∃ G2, Ext G H1 G2 H2 ∧ DqAll X.K G2 vs ds) sta (fun vs G2 H2 e2 dv => ⟨G2, e2, dv⟩) pos pins s1 I1).run fun us s2 ⟨vs, H2, I2, r2, G2, e2, dv⟩ => ⟨I2.kIn, ?_⟩) hs1 hpl
    exact fin I2 e2 dv r2
end
end Gd

namespace Gd
open PySem PySem.Spec L2
/-! ### lists of lambdas, step by step -/
structure LamT where
  ps : Arguments
  bd : Expr
  sc : Scope
/-- a lambda's promise, with what Φ says of the captured names -/
def GoodC (X : Cx) (kt : Nat) (C : Addr) (Φ : List Nat -> List Cell -> Prop) (L : LamT) : Prop := ∃ (fr : List Str) (js : List Nat) (cs : List Cell), LamOk X kt C L.ps L.bd L.sc fr js cs ∧ Φ js cs
structure MkL (X : Cx) (T : List (Addr × Str)) (Good : LamT -> Prop) (Gs Hs G H : Hp) (q : Addr) (fs : List Addr) : Prop where
  st : FnSt T Gs Hs G H q (fs.map V.ref)
  all : forall f, f ∈ fs -> ∃ L, Good L ∧ LamF X L.ps L.bd L.sc G f
/-- the captured names hold data -/
def PhiD (gl : List (Nat × PyData)) : List Nat -> List Cell -> Prop := fun js cs => ∃ ds : List PyData, cs = ds.map Cell.dat ∧ js.map (fun j => gl.lookup j) = ds.map some
theorem good_dat {X : Cx} {kt : Nat} {C : Addr} {gl : List (Nat × PyData)} {params : Arguments} {body : Expr} {scope : Scope} (fr : List Str) (js : List Nat) (ds : List PyData) (L : LamX.LamS X.env.scope scope) (hdef : defaultsOf params X.env = ([], [])) (S : NdefX.NScope fr [] fr scope) (hjs : js.map (fun j => X.N[j]?) = fr.map some) (hl : ds.length = fr.length)
    (hbind : forall (q : Str) (cl : List (Str × Addr)) (pm cv ctv : Value), bindArgs (PySem.W.kla_fn "<lambda>" q params body scope cl pm cv ctv) ⟨[], []⟩ = pure []) (hlk : js.map (fun j => gl.lookup j) = ds.map some)
    (hbody : forall (q : Str) (cl : List (Str × Addr)) (c' f : Addr) (A : Around) (outer : List Env) (s : Shared) (H : Hp) (E : XK) (N' : En), Room kt (lcx X.prog X.w X.K X.mg X.base fr q params scope cl c' f A outer s H E).A -> Xok (lcx X.prog X.w X.K X.mg X.base fr q params scope cl c' f A outer s H E) N' (fun _ => True) C ->
      GX (lcx X.prog X.w X.K X.mg X.base fr q params scope cl c' f A outer s H E) N' body (ds.map Cell.dat)) : GoodC X kt C (PhiD gl) ⟨params, body, scope⟩ :=
  ⟨fr, js, ds.map Cell.dat, ⟨L, hdef, S, hjs, by rw [List.length_map]; exact hl, (fun i x h => by
    rw [List.getElem?_map] at h
    cases e : ds[i]? with
    | none => rw [e] at h; cases h
    | some d => rw [e] at h; cases h), hbind, hbody⟩, ds, rfl, hlk⟩
/-- the promises of the lambdas of a list, where the running frame's cells are tracked -/
theorem th_of {X : Cx} {kt : Nat} {C : Addr} {Φ : List Nat -> List Cell -> Prop} {L : LamT} {σ : L2.St} {G0 H2 : Hp} {D : Dm} {f : Addr} (g : GoodC X kt C Φ L) (lf : LamF X L.ps L.bd L.sc G0 f) (ok : X.Ok) (cd : CellsD X σ H2 D) (hG : forall c o, D c = some o -> G0 c = some (dR c o))
    (hΦ : forall js cs, Φ js cs -> forall (i j : Nat) (c : Cell), js[i]? = some j -> cs[i]? = some c -> ∃ v, σ[j]? = some (some v) ∧ CellAll X.K G0 v c) : Th X.prog X.w X.K X.mg X.base (kt + 1) G0 f C := by
  obtain ⟨fr, js, cs, LO, hp⟩ := g
  exact lamC_now lf LO ok cd hG (hΦ js cs hp)
theorem lookup_mem {gl : List (Nat × PyData)} {j : Nat} {d : PyData} (h : gl.lookup j = some d) : (j, d) ∈ gl := by
  induction gl with
  | nil => cases h
  | cons p gl ih =>
    obtain ⟨a, b⟩ := p
    rw [List.lookup_cons] at h
    by_cases e : j = a
    · rw [beq_iff_eq.mpr e] at h
      cases h
      rw [e]
      exact List.mem_cons_self ..
    · rw [beq_eq_false_iff_ne.mpr e] at h
      exact List.mem_cons_of_mem _ (ih h)
/-- .. data -/
theorem phiD_of {K : PySem.W.Frag} {G0 : Hp} {σ : L2.St} {gl : List (Nat × PyData)} (h : forall p, p ∈ gl -> ∃ v, σ[p.1]? = some (some v) ∧ Dq K G0 v p.2) : forall js cs, PhiD gl js cs -> forall (i j : Nat) (c : Cell), js[i]? = some j -> cs[i]? = some c -> ∃ v, σ[j]? = some (some v) ∧ CellAll K G0 v c := by
  rintro js cs ⟨ds, rfl, hl⟩ i j c e1 e2
  rw [List.getElem?_map] at e2
  cases hd : ds[i]? with
  | none => rw [hd] at e2; cases e2
  | some d =>
    rw [hd] at e2
    cases e2
    have e3 : (js.map fun j => gl.lookup j)[i]? = some (some d) := by
      rw [hl, List.getElem?_map, hd] <;> rfl
    rw [List.getElem?_map, e1] at e3
    obtain ⟨v, h1, h2⟩ := h _ (lookup_mem (Option.some.inj e3))
    exact ⟨v, h1, cellAll_dat h2⟩
section
variable {X : Cx} {T : List (Addr × Str)} {params : Arguments} {body : Expr} {scope : Scope} {c P : Addr} {D : Ends} {σ : L2.St} {Gs Hs G H : Hp} {pos pos' lp p1 p2 p3 : Pos} {x : Str} {i : Nat} {q : Addr} {fs : List Addr} {kt : Nat} {C : Addr} {Φ : List Nat -> List Cell -> Prop}
theorem mk_first (TK : TabK X T c P) (g : GoodC X kt C Φ ⟨params, body, scope⟩) (hN : X.N.Nodup) (gh : Same G H) (tab : TabG T G H)
    (h : forall f q G1 H1, MkL X T (GoodC X kt C Φ) G H G1 H1 q [f] -> D.nx (σ.set i (some (.ref q))) H1)
    (hi : X.N[i]? = some x := by rfl) (hx : Loc X.env.scope x := by first | exact Or.inl rfl | exact Or.inr rfl) (he1 : starEach [.Lambda params body scope lp] X.env = (false, eval (.Lambda params body scope lp) X.env) :: starEach [] X.env := by rfl) (hs : swapsWith (.List [.Lambda params body scope lp] p2) (some (.Name x pos')) pos.line X.env = pure false := by rfl)
    (hf : X.fn x = true ∨ X.env.scope.names.lookup x = some .local := by first | exact .inl rfl | exact .inr rfl | assumption) : twp X (.Assign [.Name x pos'] (.List [.Lambda params body scope lp] p2) pos) D σ H :=
  raw_lam1 TK (let ⟨_, _, _, z, _⟩ := g; z.L) (let ⟨_, _, _, z, _⟩ := g; z.dflt) hN gh tab (fun f q G1 H1 e ht lf h1 h0 => h f q G1 _ ⟨FnSt.start e ht h1 h0, fun f' hf' => ⟨_, g, by rw [List.mem_singleton.mp hf']; exact lf⟩⟩) hi hx he1 hs hf
theorem mk_next (m : MkL X T (GoodC X kt C Φ) Gs Hs G H q fs) (TK : TabK X T c P) (g : GoodC X kt C Φ ⟨params, body, scope⟩) (hσ : σ[i]? = some (some (.ref q))) (hz : fs.length < 1000)
    (h : forall f G1 H1, MkL X T (GoodC X kt C Φ) Gs Hs G1 H1 q (fs ++ [f]) -> D.nx σ H1)
    (hi : X.N[i]? = some x := by rfl) (hv : Vis X.env.scope x := by first | exact Or.inl rfl | exact Or.inr (Or.inl rfl) | exact Or.inr (Or.inr rfl)) (hd : (x == ("__debug__" : Str)) = false := by decide) (hcd : (x == ("__classdict__" : Str)) = false := by decide)
    (hbase : attributeBase (.Name x p1) "append" X.env (eval (.Name x p1) X.env) = eval (.Name x p1) X.env := by rfl)
    (hfew : ((backTo p3 (starEach (.Lambda params body scope lp :: []) X.env)).all (fun x => !x.1) && (backToKw p3 (keywordEach [] X.env)).all (fun x => x.1.isSome) && decide ((Expr.Lambda params body scope lp :: []).length + ([] : List Keyword).length + (if ([] : List Keyword).isEmpty then 0 else 1) < 30)) = true := by rfl)
    (hline : (p2.endLine == p3.line) = true := by rfl) (hs1 : starEach (.Lambda params body scope lp :: []) X.env = (false, eval (.Lambda params body scope lp) X.env) :: starEach [] X.env := by rfl) (hplain : (backTo p3 (starEach [] X.env)).any (·.1) = false := by rfl)
    (hs : swapsWith (.Call (.Attribute (.Name x p1) "append" p2) [.Lambda params body scope lp] [] p3) none pos.line X.env = pure false := by rfl) : twp X (.Expr (.Call (.Attribute (.Name x p1) "append" p2) [.Lambda params body scope lp] [] p3) pos) D σ H :=
  raw_lamA (xs := fs.map V.ref) TK (let ⟨_, _, _, z, _⟩ := g; z.L) (let ⟨_, _, _, z, _⟩ := g; z.dflt) m.st.e.gh m.st.e.tab hσ m.st.hq (by rw [List.length_map]; exact hz) (fun f G1 H1 e ht lf h1 => h f G1 _ ⟨by
    have := m.st.step (ys := (fs ++ [f]).map V.ref) e ht
    rw [List.map_append] at this ⊢
    exact this, fun f' hf' => by
    rcases List.mem_append.mp hf' with z | z
    · obtain ⟨L', h1, h2⟩ := m.all f' z
      exact ⟨L', h1, h2.mono e.g⟩
    · exact ⟨_, g, by rw [List.mem_singleton.mp z]; exact lf⟩⟩) hi hv hd hcd hbase hfew hline hs1 hplain hs
/-- a made list as a cell: what is true of the heap -/
def phL (X : Cx) (q : Addr) (Good : LamT -> Prop) (fs : List Addr) : Hp -> Prop := fun G0 => G0 q = some (.lst (fs.map V.ref)) ∧ forall f, f ∈ fs -> ∃ L, Good L ∧ LamF X L.ps L.bd L.sc G0 f
theorem lamF_noT {f : Addr} (l : LamF X params body scope G f) : LamF X params body scope (noT G) f := by
  obtain ⟨c', pm, ctv, h1, h2⟩ := l.ex
  exact ⟨c', pm, ctv, noT_of h1 fun ps => tbl_ne ps, noT_of h2 fun ps => LamX.codeO_ne ps⟩
theorem less_noT : Less G (noT G) := fun b u e => by
  by_cases ht : ∃ ps, u = .tbl ps
  · exact .inr (.inr ht)
  · exact .inl (noT_of e fun ps y => ht ⟨ps, y⟩)
/-- a list is done: it stands with the data -/
theorem mk_done {N : En} {P0 : Hp} {σ0 : L2.St} {ρ : Rho} {Good : LamT -> Prop} (hn : NoT N) (f : FrO X.K N T P0 Gs σ0 Hs ρ) (m : MkL X T Good Gs Hs G H q fs) (hi : i < ρ.length) (no : NoOwn ρ) : FrL X.K N T P0 (σ0.set i (some (.ref q))) H (ρ.set i (.pin (.ref q) (phL X q Good fs))) := by
  obtain ⟨e1, sp, sta, fr, tab⟩ := f.extT hn m.st.e
  have gq := m.st.gq
  have sG : Same G (upd G q (.lst (fs.map V.ref))) := fun b u e => by rw [upd_ne (ne_of_none e gq)]; exact e
  have sH : Same (upd G q (.lst (fs.map V.ref))) H := fun b u e => by
    by_cases hb : b = q
    · rw [hb, upd_same] at e
      rw [hb, m.st.hq]
      exact e
    · rw [upd_ne hb] at e
      exact sta.gh _ _ e
  have hNq : N.h q = none := by
    cases z : N.h q with
    | none => rfl
    | some u =>
      have := f.1.h q u z
      rw [m.st.hs] at this
      cases this
  have no' : forall (j : Nat) (x : Own), (ρ.set i (.pin (.ref q) (phL X q Good fs)))[j]? ≠ some (.owx x) := fun j x h => by
    rw [List.getElem?_set] at h
    by_cases hij : i = j
    · rw [if_pos hij] at h
      split at h <;> cases h
    · rw [if_neg hij] at h
      exact no j x h
  refine FrO.up (G := upd G q (.lst (fs.map V.ref))) ⟨⟨⟨e1.g.trans sG, e1.h, sH, fun a ha => ?_⟩, e1.pin.trans sG⟩, sp.trans sG, ⟨sH, by rw [List.length_set, List.length_set]; exact sta.len, fun j c' hc => ?_, fun j k p x y h1 => absurd h1 (no' j x)⟩, fun j x p h1 => absurd h1 (no' j x), fun p hp => ?_⟩ hn
  · rw [upd_ne (fun z => ha (by rw [z]; exact hNq))]
    exact e1.old a ha
  · rw [List.getElem?_set] at hc
    by_cases hij : i = j
    · subst hij
      rw [if_pos rfl, if_pos hi] at hc
      cases hc
      have hi2 : i < σ0.length := by rw [← sta.len] at hi; exact hi
      refine ⟨some (.ref q), by rw [List.getElem?_set, if_pos rfl, if_pos hi2], rfl, noT (upd G q (.lst (fs.map V.ref))), fun b u e => (noT_some e).1, fun b ps e => (noT_some e).2 ps rfl, noT_of upd_same (fun ps z => nomatch z), fun f' hf' => ?_⟩
      obtain ⟨L', h1, h2⟩ := m.all f' hf'
      exact ⟨L', h1, lamF_noT (h2.mono sG)⟩
    · rw [if_neg hij] at hc
      obtain ⟨ov, o1, o2⟩ := sta.at_ j c' hc
      refine ⟨ov, by rw [List.getElem?_set, if_neg hij]; exact o1, ?_⟩
      cases c' with
      | any => trivial
      | raw v => exact o2
      | dat d =>
        obtain ⟨v, r1, r2⟩ := o2
        exact ⟨v, r1, r2.mono sG⟩
      | owx x => exact absurd hc (no j x)
      | fdc hs kvs =>
        obtain ⟨q', o, r1, r2, r3⟩ := o2
        exact ⟨q', o, r1, sG _ _ r2, r3.mono sG⟩
      | pin v φ =>
        obtain ⟨r1, G0, r2, r3⟩ := o2
        exact ⟨r1, G0, r2.trans sG, r3⟩
  · obtain ⟨ps, a1, a2, a3, a4⟩ := tab p hp
    have n2 : p.1 ≠ q := fun z => by rw [z, m.st.hq] at a1; cases a1
    refine ⟨ps, a1, by rw [upd_ne n2]; exact a2, a3, fun pos cv hc => ?_⟩
    obtain ⟨c0, b1, b2⟩ := a4 pos cv hc
    exact ⟨c0, b1, sG _ _ b2⟩
/-- x(y, "z"), y in slot i a list of lambdas that raise -/
theorem gbl_all {N : En} {ρ : Rho} {k k' : Nat} {gl : List (Nat × PyData)} {z y : Str} {nm : Addr -> Str -> Prop} {j : Nat} {p py p3 pos : Pos} (i : Nat) (hn : NoT N) (F : CanS X.prog X.w X.K X.mg X.base k x (spAll X.prog X.w X.K X.mg X.base (kt + 1) nm)) (hr : Room k' X.A) (hfn : forall y, X.fn y = true) (hl : fs.length ≤ 1000)
    (hgl : forall p, p ∈ gl -> ρ[p.1]? = some (Cell.dat p.2)) (hnm : nm C z) (hk : k ≤ k' := by decide) (hρ : ρ[i]? = some (.pin (.ref q) (phL X q (GoodC X kt C (PhiD gl)) fs)) := by rfl)
    (hN : X.N[i]? = some y := by rfl) (hv : Vis X.env.scope y := by first | exact Or.inl rfl | exact Or.inr (Or.inl rfl) | exact Or.inr (Or.inr rfl)) (hg : Gl X x := by rfl) (hd : (y == ("__debug__" : Str)) = false := by decide) (hcd : (y == ("__classdict__" : Str)) = false := by decide) (hdb : (x == ("__debug__" : Str)) = false := by decide)
    (he : starEach (.Name y py :: [.Constant (.str z) j p3]) X.env = (false, eval (.Name y py) X.env) :: starEach [.Constant (.str z) j p3] X.env := by rfl) (he2 : starEach [.Constant (.str z) j p3] X.env = (false, eval (.Constant (.str z) j p3) X.env) :: starEach [] X.env := by rfl) (hpl : (backTo pos (starEach [.Constant (.str z) j p3] X.env)).any (·.1) = false := by rfl) :
    GBL X N T (.Call (.Name x p) (.Name y py :: [.Constant (.str z) j p3]) [] pos) ρ true := fun P0 σ H f => by
  obtain ⟨G, fo⟩ := f.down hn
  have sta := fo.2.2.1
  obtain ⟨ov, h1, h2, G0, h3, h4, h5, h6⟩ := sta.at_ i _ hρ
  subst h2
  refine raw_all (Gp := noT G) F hr hk hfn h1 (fun b u e => sta.gh _ _ (noT_some e).1) (fun b ps e => (noT_some e).2 ps rfl) (noT_of (h3 _ _ h5) fun ps z => nomatch z) hl (fun D cd ok f' hf' => ?_) hnm (fun H' sm => ⟨rfl, ?_⟩) hN hv hg hd hcd hdb he he2 hpl
  · obtain ⟨L, hL, lf⟩ := h6 f' hf'
    have hDn : forall b u, noT G b = some u -> D b = none := fun b u e => by
      cases eD : D b with
      | none => rfl
      | some o =>
        have := cd.free b o eD
        rw [sta.gh _ _ (noT_some e).1] at this
        cases this
    have sN : Same (noT G) (addH (noT G) D) := fun b u e => by rw [addH_out (hDn b u e)]; exact e
    refine th_of hL ((lamF_noT (lf.mono h3)).mono sN) ok cd (fun c o e => addH_in e) (phiD_of fun p hp => ?_)
    obtain ⟨v, a1, a2⟩ := sta.dat (hgl p hp)
    exact ⟨v, a1, (a2.less less_noT).mono sN⟩
  · have e2 : Ext G H G H' := ⟨Same.refl G, sm, sta.gh.trans sm, fun _ _ => rfl⟩
    exact (fo.ext e2 hn).up hn
end
section
variable {X : Cx} {N : En} {T : List (Addr × Str)} {ρ : Rho} {k k2 k' kt j : Nat} {f C Cl : Addr} {A : Rho -> Prop} {fd : FuncData} {ps : List Str} {sp : Sp} {x y z : Str} {p py p2 p3 pos : Pos} {e : Expr} {es : List Expr} {ds : List PyData} {R : List PyData -> Prop} {nm : Addr -> Str -> Prop}
/-- x(..), x a class whose __init__ raises -/
theorem gx_mk (M : L2.Mk X.K Cl f) (F : FnOk X.prog X.w X.K X.mg X.base (L2.CX X.prog X.w) k f fd ps sp) (hr : Room k' X.A) (hk : k + 1 ≤ k') (hg : Gl X x) (hm : X.mg x = some (.ref Cl)) (hb : Binds X.K fd ps []) (ha : GA X (e :: es) ρ ds) (hx : Xok X N A C) (hA : A ρ)
    (hsp : forall (G H : Hp) (vs : List V) (p dx : Addr) (E : XK), Same G H -> DqAll X.K G vs ds -> H p = none -> H dx = none -> dx ≠ p -> (forall H', Same H H' -> E (.ref C) none H') -> sp (.ref p :: vs) (upd (upd H dx (.own p)) p (.ins Cl dx [])) (fun _ _ => False) E)
    (hdb : (x == ("__debug__" : Str)) = false := by decide) (he : starEach (e :: es) X.env = (false, eval e X.env) :: starEach es X.env := by rfl) (hpl : (backTo pos (starEach es X.env)).any (·.1) = false := by rfl) : GX X N (.Call (.Name x p) (e :: es) [] pos) ρ := fun P σ H fr pins s I => by
  refine Wp.mk ?_
  obtain ⟨W, tk, hW⟩ := hx
  obtain ⟨G, e0, sp0, sta, fs0⟩ := fr
  refine wpAny_Call_Name_kw (ld_glob I hg hm ?_ hdb)
  refine PySem.W.callWith_K (h₀ := X.base) I.ok.mod.kin M.kp (thn (ha σ G H (fun vs H2 => ∃ G2, Ext G H G2 H2 ∧ DqAll X.K G2 vs ds) sta (fun vs G2 H2 e2 dv => ⟨G2, e2, dv⟩) pos pins s I).run fun us t ⟨vs, H1, J, r, G1, e1, dv⟩ => ⟨J.kIn, ?_⟩) he hpl
  generalize hn : t.heap.objs.size = n
  have want := hsp G1 H1 vs (n + 1) n (WE W σ) e1.gh dv (J.hok.fresh (by rw [hn]; exact Nat.le_succ _)) (J.hok.fresh (by rw [hn]; exact Nat.le_refl _)) (Nat.ne_of_lt (Nat.lt_succ_self _)) fun H' sm => by
    have e3 : Ext G H G1 H' := e1.trans ⟨Same.refl _, sm, e1.gh.trans sm, fun _ _ => rfl⟩
    exact hW P σ H' ρ hA ⟨G1, e0.trans e3, sp0.trans e3.g, sta.ext e3, fs0⟩
  have J2 := Inv.made (C := Cl) J
  rw [hn] at J2
  have rr : Vals (V.ref (n + 1) :: vs) (Value.ref (n + 1) :: us) := .cons rfl r
  have hl : (Value.ref (n + 1) :: us).length = ps.length := by rw [← rr.length]; exact F.len _ _ _ _ want
  have bt := hb _ (Value.ref (n + 1) :: us) J2.kIn (by rw [List.append_nil]; exact hl)
  rw [List.append_nil] at bt
  refine wpAny_call (make_map (f := f) J.kIn M.makes M.init (beq_iff_eq.mp M.fn) ?_)
  rw [hn]
  refine codeAny_mono (F.run _ X.stack _ _ _ _ _ _ _ ((hr.mono hk).make Cl us []) (J2.env0.make Cl us []) bt rr want) fun b s' hq => ?_
  match b with
  | .error v => exact passAt tk σ pins _ _ v s' J2 hq
  | .ok (.ret u) =>
    obtain ⟨_, _, _, _, z⟩ := J2.after hq
    exact z.elim
  | .ok .next => exact False.elim hq
  | .ok .brk => exact False.elim hq
  | .ok .cont => exact False.elim hq
/-! ### calls of defs that let tables grow -/
/-- a def that says True; tables may grow -/
def spTrue (K : PySem.W.Frag) (T : List (Addr × Str)) (R : List PyData -> Prop) : Sp := fun vs H Q _ => ∃ (G : Hp) (ds : List PyData), Same G H ∧ DqAll K G vs ds ∧ R ds ∧ TabG T G H ∧ forall G' H', ExtT T G H G' H' -> (forall p ps, H p = some (.tbl ps) -> ∃ qs, H' p = some (.tbl qs)) -> Q (.bl true) H'
/-- y(..) -/
theorem gbl_true (hn : NoT N) (F : CanS X.prog X.w X.K X.mg X.base k y (spTrue X.K T R)) (hr : Room k' X.A) (ha : GA X (e :: es) ρ ds) (hR : R ds) (hk : k ≤ k' := by decide) (hg : Gl X y := by rfl) (hdb : (y == ("__debug__" : Str)) = false := by decide)
    (he : starEach (e :: es) X.env = (false, eval e X.env) :: starEach es X.env := by rfl) (hpl : (backTo pos (starEach es X.env)).any (·.1) = false := by rfl) : GBL X N T (.Call (.Name y p) (e :: es) [] pos) ρ true := fun P0 σ H f pins s I => Wp.mk <| by
  obtain ⟨G, fo⟩ := f.down hn
  obtain ⟨fa, fd, ps, hm, kp, hb, Fo⟩ := F.ex
  refine (pe_call Fo (hr.mono hk) hg hm kp hb .nil passL pa_tw hdb he hpl).run pins s σ H _ I (ha σ G H _ fo.2.2.1 fun vs G1 H1 e1 dv => ?_)
  have fo1 := fo.ext e1 hn
  show spTrue X.K T R (vs ++ []) H1 _ _
  rw [List.append_nil]
  exact ⟨G1, ds, e1.gh, dv, hR, fo1.2.2.2.2, fun G' H' ex _ => ⟨rfl, (fo1.extT hn ex).up hn⟩⟩
/-- x(y(..), "z") -/
theorem gbl_fns (hn : NoT N) (F : CanS X.prog X.w X.K X.mg X.base k x (spAll X.prog X.w X.K X.mg X.base kt nm)) (Fy : CanS X.prog X.w X.K X.mg X.base k2 y (spFns X.prog X.w X.K X.mg X.base T kt C R)) (hr : Room k' X.A) (ha : GA X (e :: es) ρ ds) (hR : R ds) (hnm : nm C z) (hk : k ≤ k' := by decide) (hk2 : k2 ≤ k' := by decide) (hg : Gl X x := by rfl) (hgy : Gl X y := by rfl) (hdb : (x == ("__debug__" : Str)) = false := by decide) (hdy : (y == ("__debug__" : Str)) = false := by decide)
    (he : starEach (e :: es) X.env = (false, eval e X.env) :: starEach es X.env := by rfl) (hpl : (backTo p2 (starEach es X.env)).any (·.1) = false := by rfl)
    (he1 : starEach (.Call (.Name y py) (e :: es) [] p2 :: [.Constant (.str z) j p3]) X.env = (false, eval (.Call (.Name y py) (e :: es) [] p2) X.env) :: starEach [.Constant (.str z) j p3] X.env := by rfl) (he2 : starEach [.Constant (.str z) j p3] X.env = (false, eval (.Constant (.str z) j p3) X.env) :: starEach [] X.env := by rfl) (hpl2 : (backTo pos (starEach [.Constant (.str z) j p3] X.env)).any (·.1) = false := by rfl) :
    GBL X N T (.Call (.Name x p) (.Call (.Name y py) (e :: es) [] p2 :: [.Constant (.str z) j p3]) [] pos) ρ true := fun P0 σ H f pins s I => Wp.mk <| by
  obtain ⟨G, fo⟩ := f.down hn
  obtain ⟨fa, fd, ps, hm, kp, hb, Fo⟩ := F.ex
  obtain ⟨fb, fe, qs, hm2, kp2, hb2, Fo2⟩ := Fy.ex
  refine (pe_call Fo (hr.mono hk) hg hm kp hb .nil passL (pa_cons (pe_call Fo2 (hr.mono hk2) hgy hm2 kp2 hb2 .nil passL pa_tw hdy he hpl) (pa_cons pe_str pa_nil he2) he1) hdb he1 hpl2).run pins s σ H _ I (ha σ G H _ fo.2.2.1 fun vs G1 H1 e1 dv => ?_)
  have fo1 := fo.ext e1 hn
  show spFns X.prog X.w X.K X.mg X.base T kt C R (vs ++ []) H1 _ _
  rw [List.append_nil]
  refine ⟨G1, ds, e1.gh, dv, hR, fo1.2.2.2.2, fun l fs G0 G' H' ex _ s0 tl => ?_⟩
  have fo2 := fo1.extT hn ex
  refine ⟨G0, l, fs, z, C, rfl, s0.trans ex.gh, tl.nt, tl.at_, tl.th, hnm, tl.len, fun H2 sm => ⟨rfl, ?_⟩⟩
  exact (fo2.ext ⟨Same.refl G', sm, ex.gh.trans sm, fun _ _ => rfl⟩ hn).up hn
end
end Gd

namespace Gd
open PySem PySem.Spec L2
/-! ### len(x), x an instance with a __len__ of its own -/
section
variable {X : Cx} {k : Nat} {f C : Addr} {fd : FuncData} {sp : Sp}
def rLenI (sp : Sp) (C : Addr) : List V -> Hp -> VK -> Prop := fun xs H Q => ∃ (p dx : Addr) (fs : List (Str × V)) (n : Nat), xs = [.ref p] ∧ H p = some (.ins C dx fs) ∧ n ≤ 1000 ∧ sp [.ref p] H (fun v H' => v = .int (n : Nat) ∧ Q (.int (n : Nat)) H') E0
theorem call_lenI (hm : Meth X.K C "__len__" f) (F : FnOk X.prog X.w X.K X.mg X.base (L2.CX X.prog X.w) k f fd ["self"] sp) (hr : Room (k + 1) X.A) (hb : Binds X.K fd ["self"] []) : CallR X (.builtin "len") (rLenI sp C) := by
  intro pins s σ H xs us Q I r h
  obtain ⟨p, dx, fs, n, rfl, hp, hn, hs⟩ := h
  obtain ⟨u, rfl, rx⟩ := L2.vals1 r
  cases rx
  obtain ⟨mA, O, _⟩ := ins_get I.hok hp
  have ty : PySem.W.Looks (model X.prog X.w) s.heap (typeOf (.ref p)) (.ref C) := (PySem.W.Looks.ld O.obj).andThen .now
  refine Calls.call_function_entry kind_len plain_len entry_len (args_len1 _) ?_
  unfold Builtin.«len»
  refine wpAny_bind (m := oneArg "len" _) (wpAny_pure (wpAny_bind (m := callSpecial? (.ref p) (Str.ofString "__len__")) ?_))
  unfold callSpecial? specialOf
  refine wpAny_bind (wpAny_bind (ty.here ((PySem.W.looks_findIn I.kIn hm.at_).here (wpAny_holding (wpAny_bind ((PySem.W.bind_fn I.kIn _ (beq_iff_eq.mp hm.fn)).here ?_))))))
  have bt := hb s [.ref p] I.kIn rfl
  have key : wpAny (model X.prog X.w) X.A.in1 (call (.ref f) [.ref p]) (EP X pins σ fun v H' => v = .int (n : Nat) ∧ Q (.int (n : Nat)) H') X.xe s := by
    refine wpAny_call (codeAny_mono (F.run X.A.in1 X.stack s H ⟨[.ref p], []⟩ [.ref p] [.ref p] _ _ hr.in1 I.env0.in1 bt (.cons rfl .nil) hs) fun b t hq => ?_)
    match b with
    | .error v => exact passL pins σ H s v t I hq
    | .ok (.ret u) => exact I.after hq
    | .ok .next => exact False.elim hq
    | .ok .brk => exact False.elim hq
    | .ok .cont => exact False.elim hq
  refine wpAny_bind (thn key fun v s1 ⟨z, H1, I1, r1, e1, q1⟩ => wpAny_pure ?_)
  subst e1
  obtain ⟨t, rfl⟩ := r1
  refine wpAny_bind (wpAny_holding (wpAny_pure (wpAny_bind (wpAny_letGo ?_))))
  have a1 : ¬ ((n : Nat) : Int) < 0 := by omega
  have a2 : ¬ ((n : Nat) : Int) ≥ 2 ^ 63 := by omega
  show wpAny _ _ (if ((n : Nat) : Int) < 0 then _ else _) _ _ _
  rw [if_neg a1]
  show wpAny _ _ (if ((n : Nat) : Int) ≥ 2 ^ 63 then _ else _) _ _ _
  rw [if_neg a2]
  exact wpAny_bind (wpAny_mkInt (wpAny_pure ⟨_, rfl, .int _, H1, I1.tok _, ⟨_, rfl⟩, q1⟩))
end
/-! ### conditions by hand -/
section
variable {X : Cx} {a b e : Expr} {rest : List Expr} {σ : L2.St} {H : Hp} {K : Bool -> Hp -> Prop} {pos : Pos} {Q : VK}
/-- not e, e true -/
theorem twT_not (h : tw X e σ H fun v H' => v = .bl true ∧ K false H') (he : forall whole, isTrue e X.env whole = (do let v ← whole; standAt e.pos; holding [v] (truthy v)) := by intro _; rfl) : twT X (.UnaryOp .Not e pos) σ H K := fun pins s I => Wp.mk <|
  (pt_not (pt_val pe_tw he)).run pins s σ H _ I fun pins' s' I' => ⟨thn (h pins' s' I').run fun u s1 ⟨v, H1, I1, r1, z1, z2⟩ => ⟨v, H1, I1, r1, true, z1, z2⟩⟩
theorem twT_w (h : twW X e σ H K) : twT X e σ H K := fun pins s I => Wp.mk <| pw_tw.pt.run pins s σ H _ I h
theorem twW_or1 (h : twT X a σ H K) : twW X (.BoolOp .Or [a] pos) σ H K := fun wh pins s I => Wp.mk <| (pw_or1 pt_tw).run wh pins s σ H _ I h
theorem twW_or (h : twT X a σ H fun k H' => if k = true then K true H' else twW X (.BoolOp .Or (b :: rest) pos) σ H' K) : twW X (.BoolOp .Or (a :: b :: rest) pos) σ H K := fun wh pins s I => Wp.mk <|
  (pw_or pt_tw pw_tw).run wh pins s σ H _ I h
end
end Gd

namespace Gd
open PySem PySem.Spec L2
/-- a def by hand; its code object is known -/
theorem fn_raw {P : Program} {w : World} {K : PySem.W.Frag} {mg : Str -> Option Value} {base : Heap} {x : Str} {st : Stmt} {f : Addr} {fd : FuncData} {Nm ps : List Str} {k : Nat} {sp : Sp} (F : FnP K x st f fd) (S : FnScope Nm ps (defScope st)) (hf : f = He.fAd K (x, none)) (hlen : forall vs H Q E, sp vs H Q E -> vs.length = ps.length)
    (body : forall A outer s H vs Q E, Room k (cxD P w K mg base Nm x st f (.ref (He.codeOf K (x, none))) A outer s H E).A -> sp vs H Q E -> tws (cxD P w K mg base Nm x st f (.ref (He.codeOf K (x, none))) A outer s H E) (defBody st) { nx := fun _ H' => Q .non H', rt := Q } (L2.start Nm vs) H) : FnOk P w K mg base (L2.CX P w) (k + 1) f fd ps sp := by
  obtain ⟨oc, od, dV, kV, doc, pm, an, cdv, ct, osl, rfl, lk, hcd, _, _⟩ := F.ex
  obtain ⟨c, rfl⟩ := He.codeIn_ref hcd
  have ec : He.codeOf K (x, none) = c := He.codeOf_eq (p := (x, none)) (by rw [← hf]; exact lk) rfl
  subst ec
  exact fn_of lk hcd S hlen fun A outer s H vs Q E hr hsp => ⟨tws _ _, pss_tw, body A outer s H vs Q E hr hsp⟩
section
variable {X : Cx} {a b c e tg iter : Expr} {rest : List Expr} {body orelse : List Stmt} {σ : L2.St} {G H : Hp} {K : Bool -> Hp -> Prop} {pos : Pos} {D : Ends}
theorem twT_mono {K' : Bool -> Hp -> Prop} (h : twT X c σ H K) (hk : forall k H', K k H' -> K' k H') : twT X c σ H K' := fun pins s I => ⟨thn (h pins s I).run fun u s1 ⟨H1, I1, z⟩ => ⟨H1, I1, hk u H1 z⟩⟩
theorem twp_ifF (h : twT X c σ H fun k H' => k = false ∧ tws X orelse D σ H') : twp X (.If c body orelse pos) D σ H := twp_if (twT_mono h fun k H' ⟨h1, h2⟩ => by
  rw [h1, if_neg Bool.false_ne_true]
  exact h2)
theorem twW_orF (h : twT X a σ H fun k H' => k = false ∧ twW X (.BoolOp .Or (b :: rest) pos) σ H' K) : twW X (.BoolOp .Or (a :: b :: rest) pos) σ H K := twW_or (twT_mono h fun k H' ⟨h1, h2⟩ => by
  rw [h1, if_neg Bool.false_ne_true]
  exact h2)
theorem sta_any {Kf : PySem.W.Frag} {n : Nat} (gh : Same G H) (hl : σ.length = n) : Sta Kf G H σ (List.replicate n .any) := by
  refine ⟨gh, by rw [hl, List.length_replicate], fun i c hc => ?_, fun i j p x y h1 => ?_⟩
  · rw [List.getElem?_replicate] at hc
    split at hc
    · rename_i hi
      cases hc
      exact ⟨σ[i], List.getElem?_eq_getElem (by omega), True.intro⟩
    · cases hc
  · rw [List.getElem?_replicate] at h1
    split at h1 <;> cases h1
/-- a for by hand: what holds ahead of the i-th turn, of the slots, the data, the heap -/
theorem raw_for {α : Type} (L : List α) (g : α -> PyData) {j n : Nat} (hi : GI X tg iter (List.replicate n .any) (L.map g)) (ht : GTg X tg (.nm j)) (gh : Same G H) (hl : σ.length = n) (Iv : Nat -> L2.St -> Hp -> Hp -> Prop) (hlen : forall i σ G H, Iv i σ G H -> σ.length = n) (hgh : forall i σ G H, Iv i σ G H -> Same G H)
    (hext : forall i σ G H G' H', Ext G H G' H' -> Iv i σ G H -> Iv i σ G' H') (hput : forall i σ σ' G H, Iv i σ G H -> σ'.length = σ.length -> (forall m, m ≠ j -> σ'[m]? = σ[m]?) -> Iv i σ' G H) (h0 : Iv 0 σ G H)
    (hs : forall i σ1 G1 H1, i < L.length -> Iv i σ1 G1 H1 -> tws X body { nx := fun σ' H' => ∃ G2, Same G1 G2 ∧ Iv (i + 1) σ' G2 H', rt := D.rt, bk := D.nx, ct := fun σ' H' => ∃ G2, Same G1 G2 ∧ Iv (i + 1) σ' G2 H' } σ1 H1) (hd : forall σ1 G1 H1, Iv L.length σ1 G1 H1 -> D.nx σ1 H1)
    (hp : PassesOwn (model X.prog X.w) X.A X.env X.xe) (hc : X.calm = true := by rfl) (hfs : forall x, foldedSetIterable iter X.env x = pure x := by intro _; rfl) : twp X (.For tg iter body [] pos) D σ H := fun pins s J0 => Wp.mk <| by
  obtain ⟨wi, hpi, hw⟩ := hi
  refine (ps_for hp hc hpi ht pss_tw hfs).run pins s σ H _ J0 ?_
  refine hw σ G H _ (sta_any gh hl) fun J G' H' e1 wk => ?_
  refine ⟨fun i m σ H => m = L.length - i ∧ i ≤ L.length ∧ ∃ G1, Same G' G1 ∧ Iv i σ G1 H, ⟨_, rfl, Nat.zero_le _, G', Same.refl _, hext _ _ _ _ _ _ e1 h0⟩, fun i m σ1 H1 hW => ?_⟩
  obtain ⟨rfl, hle, G1, s1, hI⟩ := hW
  obtain ⟨wgo, wstop⟩ := wk G1 H1 s1 (hgh _ _ _ _ hI)
  by_cases hlt : i < L.length
  · have hx : L[i]? = some L[i] := List.getElem?_eq_getElem hlt
    obtain ⟨go, yl⟩ := wgo i (g L[i]) (by rw [List.getElem?_map, hx]; rfl)
    refine .inr ⟨go, fun σ' H' => ∃ G2, Same G' G2 ∧ Iv (i + 1) σ' G2 H', fun σ' H' ⟨G2, s2, i2⟩ => ⟨L.length - (i + 1), by omega, rfl, hlt, G2, s2, i2⟩, fun x H3 hy => ?_⟩
    obtain ⟨G3, e3, dv⟩ := yl x H3 hy
    have hI3 := hext _ _ _ _ _ _ e3 hI
    refine Tg.rd_ok (ρ := List.replicate n .any) rfl (sta_any (hgh _ _ _ _ hI3) (hlen _ _ _ _ hI3)) dv fun σ' s' hj => ?_
    have hl' : σ'.length = σ1.length := by
      have := s'.len
      rw [List.length_set, List.length_replicate] at this
      rw [hlen _ _ _ _ hI3]
      exact this
    refine tws_mono ?_ (hs i σ' G3 H3 hlt (hput _ _ _ _ _ hI3 hl' fun m hm => hj m (by simp [Tg.sl, hm])))
    exact ⟨fun σ2 H2 ⟨G2, a1, a2⟩ => ⟨G2, (s1.trans e3.g).trans a1, a2⟩, fun _ _ q => q, fun _ _ q => q, fun σ2 H2 ⟨G2, a1, a2⟩ => ⟨G2, (s1.trans e3.g).trans a1, a2⟩⟩
  · have ei : i = L.length := by omega
    exact .inl ⟨wstop i (by rw [List.length_map]; omega), hd σ1 G1 H1 (by rw [← ei]; exact hI)⟩
end
end Gd

namespace Gd
open PySem PySem.Spec L2
/-! ### blocks that make a list of lambdas -/
def owB : Cell -> Bool
  | .owx _ => true
  | _ => false
theorem noOwn_of {ρ : Rho} (h : ρ.all (fun c => !owB c) = true) : NoOwn ρ := fun i x e => by
  have := List.all_eq_true.mp h _ (List.mem_of_getElem? e)
  cases this
/-- in the midst of the making: n lambdas are made, their list stands in slot i -/
def GSM (X : Cx) (N : En) (T : List (Addr × Str)) (Good : LamT -> Prop) (i : Nat) (n : Nat) (ss : List Stmt) (ρ : Rho) (Φ : Post) : Prop := forall (P : Hp) (σ : L2.St) (Gs Hs G H : Hp) (q : Addr) (fs : List Addr), FrO X.K N T P Gs σ Hs ρ -> MkL X T Good Gs Hs G H q fs -> fs.length = n -> tws X ss (endsL X.K N T P Φ) (σ.set i (some (.ref q))) H
section
variable {X : Cx} {N : En} {T : List (Addr × Str)} {kt : Nat} {C : Addr} {Φc : List Nat -> List Cell -> Prop} {params : Arguments} {body : Expr} {scope : Scope} {c P : Addr} {rest : List Stmt} {ρ : Rho} {Φ : Post} {pos pos' lp p1 p2 p3 : Pos} {x : Str} {n : Nat} {Good : LamT -> Prop}
theorem gsl_mk (i : Nat) (hn : NoT N) (TK : TabK X T c P) (g : GoodC X kt C Φc ⟨params, body, scope⟩) (hN : X.N.Nodup) (h : GSM X N T (GoodC X kt C Φc) i 1 rest ρ Φ)
    (hi : X.N[i]? = some x := by rfl) (hx : Loc X.env.scope x := by first | exact Or.inl rfl | exact Or.inr rfl) (he1 : starEach [.Lambda params body scope lp] X.env = (false, eval (.Lambda params body scope lp) X.env) :: starEach [] X.env := by rfl) (hs : swapsWith (.List [.Lambda params body scope lp] p2) (some (.Name x pos')) pos.line X.env = pure false := by rfl)
    (hf : X.fn x = true ∨ X.env.scope.names.lookup x = some .local := by first | exact .inl rfl | exact .inr rfl | assumption) : GSL X N T (.Assign [.Name x pos'] (.List [.Lambda params body scope lp] p2) pos :: rest) ρ Φ := fun P0 σ H f => by
  obtain ⟨G, fo⟩ := f.down hn
  exact tws_cons (mk_first TK g hN fo.2.2.1.gh fo.2.2.2.2 (fun f q G1 H1 m => h P0 σ G H G1 H1 q [f] fo m rfl) hi hx he1 hs hf)
theorem gsm_next {i : Nat} (TK : TabK X T c P) (g : GoodC X kt C Φc ⟨params, body, scope⟩) (h : GSM X N T (GoodC X kt C Φc) i (n + 1) rest ρ Φ) (hz : n < 1000) (hiρ : i < ρ.length)
    (hi : X.N[i]? = some x := by rfl) (hv : Vis X.env.scope x := by first | exact Or.inl rfl | exact Or.inr (Or.inl rfl) | exact Or.inr (Or.inr rfl)) (hd : (x == ("__debug__" : Str)) = false := by decide) (hcd : (x == ("__classdict__" : Str)) = false := by decide)
    (hbase : attributeBase (.Name x p1) "append" X.env (eval (.Name x p1) X.env) = eval (.Name x p1) X.env := by rfl)
    (hfew : ((backTo p3 (starEach (.Lambda params body scope lp :: []) X.env)).all (fun x => !x.1) && (backToKw p3 (keywordEach [] X.env)).all (fun x => x.1.isSome) && decide ((Expr.Lambda params body scope lp :: []).length + ([] : List Keyword).length + (if ([] : List Keyword).isEmpty then 0 else 1) < 30)) = true := by rfl)
    (hline : (p2.endLine == p3.line) = true := by rfl) (hs1 : starEach (.Lambda params body scope lp :: []) X.env = (false, eval (.Lambda params body scope lp) X.env) :: starEach [] X.env := by rfl) (hplain : (backTo p3 (starEach [] X.env)).any (·.1) = false := by rfl)
    (hs : swapsWith (.Call (.Attribute (.Name x p1) "append" p2) [.Lambda params body scope lp] [] p3) none pos.line X.env = pure false := by rfl) : GSM X N T (GoodC X kt C Φc) i n (.Expr (.Call (.Attribute (.Name x p1) "append" p2) [.Lambda params body scope lp] [] p3) pos :: rest) ρ Φ := fun P0 σ Gs Hs G H q fs fo m hl => by
  have hσ : (σ.set i (some (.ref q)))[i]? = some (some (.ref q)) := by
    rw [List.getElem?_set_self]
    rw [fo.2.2.1.len]
    exact hiρ
  exact tws_cons (mk_next m TK g hσ (by rw [hl]; exact hz) (fun f G1 H1 m1 => h P0 σ Gs Hs G1 H1 q (fs ++ [f]) fo m1 (by rw [List.length_append, hl]; rfl)) hi hv hd hcd hbase hfew hline hs1 hplain hs)
theorem gsm_done {i : Nat} (hn : NoT N) (no : NoOwn ρ) (hiρ : i < ρ.length) (hz : n ≤ 1000) (h : forall q fs, fs.length ≤ 1000 -> GSL X N T rest (ρ.set i (.pin (.ref q) (phL X q Good fs))) Φ) : GSM X N T Good i n rest ρ Φ := fun P0 σ Gs Hs G H q fs fo m hl =>
  h q fs (by rw [hl]; exact hz) P0 _ H (mk_done hn fo m hiρ no)
end
end Gd

namespace Gd
open PySem PySem.Spec L2
/-! ### == and != by an own __eq__ that says either -/
structure EqC (K : PySem.W.Frag) (C : Addr) : Prop where
  ha : PySem.W.findIn K (.ref C) "__class__" = some (some (.builtin "object.__class__"))
  hn : PySem.W.specialIn K (.builtin "object.__class__") "__get__" = some (some (.builtin "getset_descriptor.__get__"))
  htk : PySem.W.takesIn K (.builtin "object.__class__") = some true
  hm : PySem.W.mroIn K C (.type "object") = some true
  st : PySem.W.kitOne K (.type "str") (.ref C) = some false
  ne : PySem.W.findIn K (.ref C) "__ne__" = some (some (.builtin "object.__ne__"))
theorem eqC_of {x : Str} {K : PySem.W.Frag} (h : eqChk x K = true) : EqC K (He.ga K x) := by
  obtain ⟨h1, h⟩ := He.ba h
  obtain ⟨h2, h⟩ := He.ba h
  obtain ⟨h3, h⟩ := He.ba h
  obtain ⟨h4, h⟩ := He.ba h
  obtain ⟨h5, h6⟩ := He.ba h
  exact ⟨He.eqO_ok h1, He.eqO_ok h2, of_decide_eq_true h3, of_decide_eq_true h4, of_decide_eq_true h5, He.eqO_ok h6⟩
theorem ali_of {x y : Str} {K : PySem.W.Frag} (h : aliChk x y K = true) : He.ga K x = He.ga K y := Nat.eq_of_beq_eq_true h
section
variable {prog : Program} {w : World} {A : Around} {E : Value → Shared → Prop} {s : Shared} {K : PySem.W.Frag} {x C f : Addr} {ox : Obj} {od : Option Obj} {b : Value}
theorem objNe_K (X : K.In s.heap) (I : PySem.W.InstAt s.heap x ox C od) (hs : PySem.W.findIn K (.ref C) "__eq__" = some (some (.ref f))) (hf : PySem.W.isFn K (.ref f) = true) (hu : A.units < cLine) {Q : Fin → Shared → Prop}
    (hcall : wpAny (model prog w) A (call (.ref f) [.ref x, b]) (fun v s' => ∃ k, v = .bool k ∧ Q (.done (.ret (.bool (!k)))) s') E s) : wpAny (model prog w) A (Builtin.«object.__ne__» ⟨[.ref x, b], []⟩) Q E s := by
  unfold Builtin.«object.__ne__»
  repeat (first
    | with_reducible refine wpAny_cRoomFor hu ?_
    | (refine wpAny_bind (m := callSpecialIfBound? (.ref x) (Str.ofString "__eq__") [b])
        (PySem.W.ifBound_K X I hs hf (wpAny_mono hcall (fun r s' hr => by
          obtain ⟨k, rfl, hq⟩ := hr
          repeat (first | exact hq | exact wpAny_pure hq | exact wpAny_truthy_bool hq | (refine wpAny_bind (m := truthy (.bool _)) (wpAny_truthy_bool ?_)) | wp_step)) fun _ _ e => e)))
    | wp_step)
theorem ifBound_objNe {M : Model} {args : List Value} {Q : Option Value → Shared → Prop} (X : K.In s.heap) (I : PySem.W.InstAt s.heap x ox C od) (hs : PySem.W.findIn K (.ref C) "__ne__" = some (some (.builtin "object.__ne__")))
    (h : wpAny M A (call (.builtin "object.__ne__") (.ref x :: args)) (fun v => Q (some v)) E s) : wpAny M A (callSpecialIfBound? (.ref x) "__ne__" args) Q E s := by
  simp only [callSpecialIfBound?, bindSpecialIfBound?]
  refine wpAny_holding (wpAny_bind (wpAny_bind (wpAny_bind (I.type.here ((PySem.W.looks_findIn X hs).here ?_)))))
  refine wpAny_bind (wpAny_askSetting (wpAny_ite ?_))
  have fin : wpAny M A (call (.builtin "object.__ne__") ([.ref x] ++ args) >>= fun v => pure (some v)) Q E s := wpAny_bind (wpAny_mono h (fun v s' h' => wpAny_pure h') fun _ _ h' => h')
  split
  · exact wpAny_bind (wpAny_of_eq (F.cmp_object.ne.bind _) (wpAny_pure (by exact fin)))
  · exact wpAny_tryCatch (wpAny_bind (wpAny_of_eq (F.cmp_object.ne.bind _) (wpAny_pure (by exact fin))))
theorem sub_str : PySem.W.subIn K (.type "str") (.ref C) = some false := by
  have e : fastBuiltinMro "str" = some [.type "str", .type "object"] := by decide +kernel
  show (fastBuiltinMro "str").map (·.contains (.ref C)) = some false
  rw [e]
  first
    | rfl
    | simp
theorem ne_str {z : Str} {t : Tok} {Q : Value → Shared → Prop} (hu : A.units + 1 < cLine) (X : K.In s.heap) (I : PySem.W.InstAt s.heap x ox C od) (ec : EqC K C) (hs : PySem.W.findIn K (.ref C) "__eq__" = some (some (.ref f))) (hf : PySem.W.isFn K (.ref f) = true)
    (hcall : wpAny (model prog w) A.in1 (call (.ref f) [.ref x, .str z t]) (fun v s' => ∃ k, v = .bool k ∧ Q (.bool (!k)) s') E s) : wpAny (model prog w) A (compareOp .NotEq (.ref x) (.str z t)) Q E s := by
  have one : wpAny (model prog w) A (tryCompare (.ref x) "__ne__" (.str z t)) (fun r s' => ∃ v, r = some v ∧ Q v s') E s := by
    unfold tryCompare
    refine wpAny_bind (ifBound_objNe X I ec.ne (wpAny_call (codeAny_call_builtin F.cmp_object.ne.plain F.cmpEntry_ne (PySem.W.check_slot F.cmpKind_ne F.cmpSplit_ne (I.type.andThen (PySem.W.looks_mroIn X ec.hm)) (F.cmpArgs_ne _ _) (objNe_K (A := A.in1) X I hs hf hu (wpAny_mono hcall (fun v s' hv => ?_) fun _ _ e => e))))))
    obtain ⟨k, rfl, hq⟩ := hv
    first | exact ⟨k, rfl, wpAny_pure ⟨_, rfl, hq⟩⟩ | exact ⟨k, rfl, wpAny_pure (wpAny_pure ⟨_, rfl, hq⟩)⟩ | exact ⟨k, rfl, _, rfl, hq⟩
  show wpAny (model prog w) A (richCompare .NotEq (.ref x) (.str z t)) Q E s
  simp only [richCompare, cmpInfo_NotEq, oneThing_ref]
  refine wpAny_holding (wpAny_bind (wpAny_cRoomFor (Nat.lt_of_succ_lt hu) ?_))
  refine wpAny_bind (I.type.here ?_)
  refine wpAny_bind (wpAny_typeOf (show s.TypeIs (.str z t) "str" from rfl) ?_)
  split
  · refine wpAny_bind ((PySem.W.looks_subIn X sub_str).here ?_)
    simp only [Bool.false_eq_true, if_false, Bool.not_false, if_true]
    refine wpAny_bind (m := tryCompare (.ref x) _ (.str z t)) (wpAny_mono one (fun r s1 z => ?_) fun _ _ e => e)
    obtain ⟨v, rfl, hq⟩ := z
    exact wpAny_pure hq
  · rename_i q
    exact absurd (by simp) q
end
section
variable {X : Cx} {n : Nat} {C f : Addr} {fd : FuncData} {ps : List Str} {sp : Sp}
def rEqO (C : Addr) (sp : Sp) : R2 := fun x y H Q => ∃ a b dx dy fs gs, x = .ref a ∧ y = .ref b ∧ H a = some (.ins C dx fs) ∧ H b = some (.ins C dy gs) ∧ sp [.ref a, .ref b] H (fun v H' => ∃ k, v = .bl k ∧ Q (.bl k) H') E0
theorem op_eqO (hm : Meth X.K C "__eq__" f) (F : FnOk X.prog X.w X.K X.mg X.base (L2.CX X.prog X.w) n f fd ps sp) (hr : Room n X.A) (hb : Binds X.K fd ps []) : OpR X (compareOp .Eq) (rEqO C sp) := by
  intro pins s σ H x y v u Q I rx ry h
  obtain ⟨a, b, dx, dy, fs, gs, rfl, rfl, ha, hb', hsp⟩ := h
  cases rx
  cases ry
  obtain ⟨mA, J, _⟩ := ins_get I.hok ha
  obtain ⟨mB, J', _⟩ := ins_get I.hok hb'
  obtain ⟨od, J, _⟩ := J.look
  obtain ⟨od', J', _⟩ := J'.look
  obtain ⟨m, hF⟩ := I.fr
  show wpAny (model X.prog X.w) X.A (richCompare .Eq (.ref a) (.ref b)) (EP X pins σ Q) X.xe s
  refine PySem.W.cmp_K (op := .Eq) (tb := .ref C) hr.units0 hF I.ok.mod.kin J J'.type (by simp [PySem.W.notFirst]) hm.at_ hm.fn ?_
  have hl := F.len _ _ _ _ hsp
  have r2 : Vals [V.ref a, V.ref b] [Value.ref a, Value.ref b] := .cons rfl (.cons rfl .nil)
  refine wpAny_call (codeAny_mono (F.run X.A X.stack s H ⟨[.ref a, .ref b], []⟩ [.ref a, .ref b] [.ref a, .ref b] _ E0 hr I.env0 (by
    have := hb s [.ref a, .ref b] I.kIn (by simpa using hl)
    simpa using this) r2 hsp) fun r s' hq => ?_)
  cases r with
  | error e => exact passL pins σ H s e s' I hq
  | ok fl =>
    cases fl with
    | ret w =>
      obtain ⟨z, H', I', rz, k, ez, q⟩ := I.after hq
      subst ez
      cases rz
      exact ⟨.bl k, H', I', rfl, q⟩
    | next => exact False.elim hq
    | brk => exact False.elim hq
    | cont => exact False.elim hq
def rNeO (C : Addr) (sp : Sp) : R2 := fun x y H Q => ∃ a z dx fs, x = .ref a ∧ y = .str z ∧ H a = some (.ins C dx fs) ∧ sp [.ref a, .str z] H (fun v H' => ∃ k, v = .bl k ∧ Q (.bl (!k)) H') E0
theorem op_neO (ec : EqC X.K C) (hm : Meth X.K C "__eq__" f) (F : FnOk X.prog X.w X.K X.mg X.base (L2.CX X.prog X.w) n f fd ps sp) (hr : Room (n + 1) X.A) (hb : Binds X.K fd ps []) : OpR X (compareOp .NotEq) (rNeO C sp) := by
  intro pins s σ H x y v u Q I rx ry h
  obtain ⟨a, z, dx, fs, rfl, rfl, ha, hsp⟩ := h
  cases rx
  obtain ⟨t, rfl⟩ := ry
  obtain ⟨mA, J, _⟩ := ins_get I.hok ha
  obtain ⟨od, J, _⟩ := J.look
  refine ne_str (by have := hr.un; omega) I.kIn J ec hm.at_ hm.fn ?_
  have hl := F.len _ _ _ _ hsp
  have r2 : Vals [V.ref a, V.str z] [Value.ref a, Value.str z t] := .cons rfl (.cons ⟨t, rfl⟩ .nil)
  refine wpAny_call (codeAny_mono (F.run X.A.in1 X.stack s H ⟨[.ref a, .str z t], []⟩ [.ref a, .str z t] [.ref a, .str z] _ E0 hr.in1 I.env0.in1 (by
    have := hb s [.ref a, .str z t] I.kIn (by simpa using hl)
    simpa using this) r2 hsp) fun r s' hq => ?_)
  cases r with
  | error e => exact passL pins σ H s e s' I hq
  | ok fl =>
    cases fl with
    | ret w =>
      obtain ⟨z, H', I', rz, k, ez, q⟩ := I.after hq
      subst ez
      cases rz
      exact ⟨k, rfl, .bl (!k), H', I', rfl, q⟩
    | next => exact False.elim hq
    | brk => exact False.elim hq
    | cont => exact False.elim hq
end
end Gd

namespace Lw
open PySem PySem.Spec L2 Gd

abbrev n_is_int : List Str := ["value", "least", "most"]
theorem sc_is_int : FnScope n_is_int ["value", "least", "most"] (defScope s_is_int) := ⟨rfl, rfl, rfl, by decide +kernel, rfl, by decide +kernel, by decide +kernel⟩
abbrev n_is_rules : List Str := ["candidate", "stint", "pause", "daily", "night", "split"]
theorem sc_is_rules : FnScope n_is_rules ["candidate"] (defScope s_is_rules) := ⟨rfl, rfl, rfl, by decide +kernel, rfl, by decide +kernel, by decide +kernel⟩
abbrev n_is_log : List Str := ["candidate", "sign"]
theorem sc_is_log : FnScope n_is_log ["candidate"] (defScope s_is_log) := ⟨rfl, rfl, rfl, by decide +kernel, rfl, by decide +kernel, by decide +kernel⟩
abbrev n_check_rules : List Str := ["value"]
theorem sc_check_rules : FnScope n_check_rules ["value"] (defScope s_check_rules) := ⟨rfl, rfl, rfl, by decide +kernel, rfl, by decide +kernel, by decide +kernel⟩
abbrev n_check_log : List Str := ["value"]
theorem sc_check_log : FnScope n_check_log ["value"] (defScope s_check_log) := ⟨rfl, rfl, rfl, by decide +kernel, rfl, by decide +kernel, by decide +kernel⟩
abbrev n_check_both : List Str := ["rules", "log"]
theorem sc_check_both : FnScope n_check_both ["rules", "log"] (defScope s_check_both) := ⟨rfl, rfl, rfl, by decide +kernel, rfl, by decide +kernel, by decide +kernel⟩
abbrev n_rest_once : List Str := ["rules", "state", "stint", "day", "mark", "run", "took"]
theorem sc_rest_once : FnScope n_rest_once ["rules", "state"] (defScope s_rest_once) := ⟨rfl, rfl, rfl, by decide +kernel, rfl, by decide +kernel, by decide +kernel⟩
abbrev n_end_run : List Str := ["rules", "state", "stint", "day", "mark", "run", "took", "part"]
theorem sc_end_run : FnScope n_end_run ["rules", "state"] (defScope s_end_run) := ⟨rfl, rfl, rfl, by decide +kernel, rfl, by decide +kernel, by decide +kernel⟩
abbrev n_step : List Str := ["rules", "state", "sign", "stint", "day", "mark", "run", "took"]
theorem sc_step : FnScope n_step ["rules", "state", "sign"] (defScope s_step) := ⟨rfl, rfl, rfl, by decide +kernel, rfl, by decide +kernel, by decide +kernel⟩
abbrev n_all_states : List Str := ["rules", "log", "found", "sign"]
theorem sc_all_states : FnScope n_all_states ["rules", "log"] (defScope s_all_states) := ⟨rfl, rfl, rfl, by decide +kernel, rfl, by decide +kernel, by decide +kernel⟩
abbrev n_counters : List Str := ["rules", "log"]
theorem sc_counters : FnScope n_counters ["rules", "log"] (defScope s_counters) := ⟨rfl, rfl, rfl, by decide +kernel, rfl, by decide +kernel, by decide +kernel⟩
abbrev n_is_over : List Str := ["rules", "state"]
theorem sc_is_over : FnScope n_is_over ["rules", "state"] (defScope s_is_over) := ⟨rfl, rfl, rfl, by decide +kernel, rfl, by decide +kernel, by decide +kernel⟩
abbrev n_find_faults : List Str := ["rules", "log", "known", "slot", "sign"]
theorem sc_find_faults : FnScope n_find_faults ["rules", "log"] (defScope s_find_faults) := ⟨rfl, rfl, rfl, by decide +kernel, rfl, by decide +kernel, by decide +kernel⟩
abbrev n_drive_left : List Str := ["rules", "log", "stint", "day"]
theorem sc_drive_left : FnScope n_drive_left ["rules", "log"] (defScope s_drive_left) := ⟨rfl, rfl, rfl, by decide +kernel, rfl, by decide +kernel, by decide +kernel⟩
abbrev n_law_count : List Str := ["form", "row", "stint", "pause", "daily", "night", "split", "one", "day", "mark", "at", "size", "used"]
theorem sc_law_count : FnScope n_law_count ["form", "row"] (defScope s_law_count) := ⟨rfl, rfl, rfl, by decide +kernel, rfl, by decide +kernel, by decide +kernel⟩
abbrev n_law_bad : List Str := ["form", "row", "found", "k", "one", "day", "mark"]
theorem sc_law_bad : FnScope n_law_bad ["form", "row"] (defScope s_law_bad) := ⟨rfl, rfl, rfl, by decide +kernel, rfl, by decide +kernel, by decide +kernel⟩
abbrev n_law_pick : List Str := ["script", "k", "many", "cell", "rest", "again", "drawn"]
theorem sc_law_pick : FnScope n_law_pick ["script", "k", "many"] (defScope s_law_pick) := ⟨rfl, rfl, rfl, by decide +kernel, rfl, by decide +kernel, by decide +kernel⟩
abbrev n_law_form : List Str := ["script", "at", "most", "stint", "pause", "daily", "night"]
theorem sc_law_form : FnScope n_law_form ["script", "at", "most"] (defScope s_law_form) := ⟨rfl, rfl, rfl, by decide +kernel, rfl, by decide +kernel, by decide +kernel⟩
abbrev n_law_class : List Str := ["error", "kinds", "words"]
theorem sc_law_class : FnScope n_law_class ["error"] (defScope s_law_class) := ⟨rfl, rfl, rfl, by decide +kernel, rfl, by decide +kernel, by decide +kernel⟩
abbrev n_law_result : List Str := ["call", "error"]
theorem sc_law_result : FnScope n_law_result ["call"] (defScope s_law_result) := ⟨rfl, rfl, rfl, by decide +kernel, rfl, by decide +kernel, by decide +kernel⟩
abbrev n_law_calls : List Str := ["some", "sign", "many", "calls"]
theorem sc_law_calls : FnScope n_law_calls ["some", "sign", "many"] (defScope s_law_calls) := ⟨rfl, rfl, rfl, by decide +kernel, rfl, by decide +kernel, by decide +kernel⟩
abbrev n_law_due : List Str := ["form", "row", "kind", "sign", "many", "more", "one", "day", "mark", "left"]
theorem sc_law_due : FnScope n_law_due ["form", "row", "kind", "sign", "many"] (defScope s_law_due) := ⟨rfl, rfl, rfl, by decide +kernel, rfl, by decide +kernel, by decide +kernel⟩
abbrev n_law : List Str := ["script", "form", "some", "states", "at", "i", "kind", "sign", "many", "due", "state", "to", "twin"]
theorem sc_law : FnScope n_law ["script"] (defScope s_law) := ⟨rfl, rfl, rfl, by decide +kernel, rfl, by decide +kernel, by decide +kernel⟩
abbrev n_Logbook_init : List Str := ["self", "rules"]
theorem sc_Logbook_init : FnScope n_Logbook_init ["self", "rules"] (defScope s_Logbook_init) := ⟨rfl, rfl, rfl, by decide +kernel, rfl, by decide +kernel, by decide +kernel⟩
abbrev n_Logbook_log : List Str := ["self"]
theorem sc_Logbook_log : FnScope n_Logbook_log ["self"] (defScope s_Logbook_log) := ⟨rfl, rfl, rfl, by decide +kernel, rfl, by decide +kernel, by decide +kernel⟩
abbrev n_Logbook_counters : List Str := ["self"]
theorem sc_Logbook_counters : FnScope n_Logbook_counters ["self"] (defScope s_Logbook_counters) := ⟨rfl, rfl, rfl, by decide +kernel, rfl, by decide +kernel, by decide +kernel⟩
abbrev n_Logbook_change : List Str := ["self", "more"]
theorem sc_Logbook_change : FnScope n_Logbook_change ["self", "more"] (defScope s_Logbook_change) := ⟨rfl, rfl, rfl, by decide +kernel, rfl, by decide +kernel, by decide +kernel⟩
abbrev n_Logbook_add : List Str := ["self", "sign"]
theorem sc_Logbook_add : FnScope n_Logbook_add ["self", "sign"] (defScope s_Logbook_add) := ⟨rfl, rfl, rfl, by decide +kernel, rfl, by decide +kernel, by decide +kernel⟩
abbrev n_Logbook_rest : List Str := ["self", "many"]
theorem sc_Logbook_rest : FnScope n_Logbook_rest ["self", "many"] (defScope s_Logbook_rest) := ⟨rfl, rfl, rfl, by decide +kernel, rfl, by decide +kernel, by decide +kernel⟩
abbrev n_Logbook_undo : List Str := ["self"]
theorem sc_Logbook_undo : FnScope n_Logbook_undo ["self"] (defScope s_Logbook_undo) := ⟨rfl, rfl, rfl, by decide +kernel, rfl, by decide +kernel, by decide +kernel⟩
abbrev n_Logbook_redo : List Str := ["self"]
theorem sc_Logbook_redo : FnScope n_Logbook_redo ["self"] (defScope s_Logbook_redo) := ⟨rfl, rfl, rfl, by decide +kernel, rfl, by decide +kernel, by decide +kernel⟩
abbrev n_Logbook_copy : List Str := ["self", "other"]
theorem sc_Logbook_copy : FnScope n_Logbook_copy ["self"] (defScope s_Logbook_copy) := ⟨rfl, rfl, rfl, by decide +kernel, rfl, by decide +kernel, by decide +kernel⟩
abbrev n_Logbook_eq : List Str := ["self", "other"]
theorem sc_Logbook_eq : FnScope n_Logbook_eq ["self", "other"] (defScope s_Logbook_eq) := ⟨rfl, rfl, rfl, by decide +kernel, rfl, by decide +kernel, by decide +kernel⟩
abbrev n_Logbook_len : List Str := ["self"]
theorem sc_Logbook_len : FnScope n_Logbook_len ["self"] (defScope s_Logbook_len) := ⟨rfl, rfl, rfl, by decide +kernel, rfl, by decide +kernel, by decide +kernel⟩

/-- what the top has left -/
structure Tp (K : PySem.W.Frag) (mg : Str -> Option Value) : Prop where
  c : seenG chkL fnL K = He.valD fnL
  hp : ∃ h : Heap, K.In h ∧ h.Ns mainGlobals mg
namespace Tp
variable {K : PySem.W.Frag} {mg : Str -> Option Value} (T : Tp K mg)
include T
theorem fa : allFa faL K = true := (He.ba (seenG_chk T.c)).1
theorem gl_is_int : mg "is_int" = some (.ref (He.ga K "is_int")) := by
  obtain ⟨h, X, G⟩ := T.hp
  exact He.glo_ok X G (allFa_at (f := .glo "is_int") T.fa 0)
theorem gl_is_rules : mg "is_rules" = some (.ref (He.ga K "is_rules")) := by
  obtain ⟨h, X, G⟩ := T.hp
  exact He.glo_ok X G (allFa_at (f := .glo "is_rules") T.fa 1)
theorem gl_is_log : mg "is_log" = some (.ref (He.ga K "is_log")) := by
  obtain ⟨h, X, G⟩ := T.hp
  exact He.glo_ok X G (allFa_at (f := .glo "is_log") T.fa 2)
theorem gl_check_rules : mg "check_rules" = some (.ref (He.ga K "check_rules")) := by
  obtain ⟨h, X, G⟩ := T.hp
  exact He.glo_ok X G (allFa_at (f := .glo "check_rules") T.fa 3)
theorem gl_check_log : mg "check_log" = some (.ref (He.ga K "check_log")) := by
  obtain ⟨h, X, G⟩ := T.hp
  exact He.glo_ok X G (allFa_at (f := .glo "check_log") T.fa 4)
theorem gl_check_both : mg "check_both" = some (.ref (He.ga K "check_both")) := by
  obtain ⟨h, X, G⟩ := T.hp
  exact He.glo_ok X G (allFa_at (f := .glo "check_both") T.fa 5)
theorem gl_rest_once : mg "rest_once" = some (.ref (He.ga K "rest_once")) := by
  obtain ⟨h, X, G⟩ := T.hp
  exact He.glo_ok X G (allFa_at (f := .glo "rest_once") T.fa 6)
theorem gl_end_run : mg "end_run" = some (.ref (He.ga K "end_run")) := by
  obtain ⟨h, X, G⟩ := T.hp
  exact He.glo_ok X G (allFa_at (f := .glo "end_run") T.fa 7)
theorem gl_step : mg "step" = some (.ref (He.ga K "step")) := by
  obtain ⟨h, X, G⟩ := T.hp
  exact He.glo_ok X G (allFa_at (f := .glo "step") T.fa 8)
theorem gl_all_states : mg "all_states" = some (.ref (He.ga K "all_states")) := by
  obtain ⟨h, X, G⟩ := T.hp
  exact He.glo_ok X G (allFa_at (f := .glo "all_states") T.fa 9)
theorem gl_counters : mg "counters" = some (.ref (He.ga K "counters")) := by
  obtain ⟨h, X, G⟩ := T.hp
  exact He.glo_ok X G (allFa_at (f := .glo "counters") T.fa 10)
theorem gl_is_over : mg "is_over" = some (.ref (He.ga K "is_over")) := by
  obtain ⟨h, X, G⟩ := T.hp
  exact He.glo_ok X G (allFa_at (f := .glo "is_over") T.fa 11)
theorem gl_find_faults : mg "find_faults" = some (.ref (He.ga K "find_faults")) := by
  obtain ⟨h, X, G⟩ := T.hp
  exact He.glo_ok X G (allFa_at (f := .glo "find_faults") T.fa 12)
theorem gl_drive_left : mg "drive_left" = some (.ref (He.ga K "drive_left")) := by
  obtain ⟨h, X, G⟩ := T.hp
  exact He.glo_ok X G (allFa_at (f := .glo "drive_left") T.fa 13)
theorem gl_law_count : mg "_law_count" = some (.ref (He.ga K "_law_count")) := by
  obtain ⟨h, X, G⟩ := T.hp
  exact He.glo_ok X G (allFa_at (f := .glo "_law_count") T.fa 14)
theorem gl_law_bad : mg "_law_bad" = some (.ref (He.ga K "_law_bad")) := by
  obtain ⟨h, X, G⟩ := T.hp
  exact He.glo_ok X G (allFa_at (f := .glo "_law_bad") T.fa 15)
theorem gl_law_pick : mg "_law_pick" = some (.ref (He.ga K "_law_pick")) := by
  obtain ⟨h, X, G⟩ := T.hp
  exact He.glo_ok X G (allFa_at (f := .glo "_law_pick") T.fa 16)
theorem gl_law_form : mg "_law_form" = some (.ref (He.ga K "_law_form")) := by
  obtain ⟨h, X, G⟩ := T.hp
  exact He.glo_ok X G (allFa_at (f := .glo "_law_form") T.fa 17)
theorem gl_law_class : mg "_law_class" = some (.ref (He.ga K "_law_class")) := by
  obtain ⟨h, X, G⟩ := T.hp
  exact He.glo_ok X G (allFa_at (f := .glo "_law_class") T.fa 18)
theorem gl_law_result : mg "_law_result" = some (.ref (He.ga K "_law_result")) := by
  obtain ⟨h, X, G⟩ := T.hp
  exact He.glo_ok X G (allFa_at (f := .glo "_law_result") T.fa 19)
theorem gl_law_calls : mg "_law_calls" = some (.ref (He.ga K "_law_calls")) := by
  obtain ⟨h, X, G⟩ := T.hp
  exact He.glo_ok X G (allFa_at (f := .glo "_law_calls") T.fa 20)
theorem gl_law_due : mg "_law_due" = some (.ref (He.ga K "_law_due")) := by
  obtain ⟨h, X, G⟩ := T.hp
  exact He.glo_ok X G (allFa_at (f := .glo "_law_due") T.fa 21)
theorem gl_law : mg "law" = some (.ref (He.ga K "law")) := by
  obtain ⟨h, X, G⟩ := T.hp
  exact He.glo_ok X G (allFa_at (f := .glo "law") T.fa 22)
theorem gl_RestError : mg "RestError" = some (.ref (He.ga K "RestError")) := by
  obtain ⟨h, X, G⟩ := T.hp
  exact He.glo_ok X G (allFa_at (f := .glo "RestError") T.fa 23)
theorem xc_RestError : (He.Fa.exc "RestError").ok K = true := allFa_at T.fa 24
theorem gl_InvalidRules : mg "InvalidRules" = some (.ref (He.ga K "InvalidRules")) := by
  obtain ⟨h, X, G⟩ := T.hp
  exact He.glo_ok X G (allFa_at (f := .glo "InvalidRules") T.fa 25)
theorem xc_InvalidRules : (He.Fa.exc "InvalidRules").ok K = true := allFa_at T.fa 26
theorem gl_InvalidLog : mg "InvalidLog" = some (.ref (He.ga K "InvalidLog")) := by
  obtain ⟨h, X, G⟩ := T.hp
  exact He.glo_ok X G (allFa_at (f := .glo "InvalidLog") T.fa 27)
theorem xc_InvalidLog : (He.Fa.exc "InvalidLog").ok K = true := allFa_at T.fa 28
theorem gl_InvalidLength : mg "InvalidLength" = some (.ref (He.ga K "InvalidLength")) := by
  obtain ⟨h, X, G⟩ := T.hp
  exact He.glo_ok X G (allFa_at (f := .glo "InvalidLength") T.fa 29)
theorem xc_InvalidLength : (He.Fa.exc "InvalidLength").ok K = true := allFa_at T.fa 30
theorem gl_InvalidMany : mg "InvalidMany" = some (.ref (He.ga K "InvalidMany")) := by
  obtain ⟨h, X, G⟩ := T.hp
  exact He.glo_ok X G (allFa_at (f := .glo "InvalidMany") T.fa 31)
theorem xc_InvalidMany : (He.Fa.exc "InvalidMany").ok K = true := allFa_at T.fa 32
theorem gl_InvalidDuty : mg "InvalidDuty" = some (.ref (He.ga K "InvalidDuty")) := by
  obtain ⟨h, X, G⟩ := T.hp
  exact He.glo_ok X G (allFa_at (f := .glo "InvalidDuty") T.fa 33)
theorem xc_InvalidDuty : (He.Fa.exc "InvalidDuty").ok K = true := allFa_at T.fa 34
theorem gl_InvalidPrices : mg "InvalidPrices" = some (.ref (He.ga K "InvalidPrices")) := by
  obtain ⟨h, X, G⟩ := T.hp
  exact He.glo_ok X G (allFa_at (f := .glo "InvalidPrices") T.fa 35)
theorem xc_InvalidPrices : (He.Fa.exc "InvalidPrices").ok K = true := allFa_at T.fa 36
theorem gl_InvalidHours : mg "InvalidHours" = some (.ref (He.ga K "InvalidHours")) := by
  obtain ⟨h, X, G⟩ := T.hp
  exact He.glo_ok X G (allFa_at (f := .glo "InvalidHours") T.fa 37)
theorem xc_InvalidHours : (He.Fa.exc "InvalidHours").ok K = true := allFa_at T.fa 38
theorem gl_TooLong : mg "TooLong" = some (.ref (He.ga K "TooLong")) := by
  obtain ⟨h, X, G⟩ := T.hp
  exact He.glo_ok X G (allFa_at (f := .glo "TooLong") T.fa 39)
theorem xc_TooLong : (He.Fa.exc "TooLong").ok K = true := allFa_at T.fa 40
theorem gl_TooLarge : mg "TooLarge" = some (.ref (He.ga K "TooLarge")) := by
  obtain ⟨h, X, G⟩ := T.hp
  exact He.glo_ok X G (allFa_at (f := .glo "TooLarge") T.fa 41)
theorem xc_TooLarge : (He.Fa.exc "TooLarge").ok K = true := allFa_at T.fa 42
theorem gl_NothingToUndo : mg "NothingToUndo" = some (.ref (He.ga K "NothingToUndo")) := by
  obtain ⟨h, X, G⟩ := T.hp
  exact He.glo_ok X G (allFa_at (f := .glo "NothingToUndo") T.fa 43)
theorem xc_NothingToUndo : (He.Fa.exc "NothingToUndo").ok K = true := allFa_at T.fa 44
theorem gl_ParseError : mg "ParseError" = some (.ref (He.ga K "ParseError")) := by
  obtain ⟨h, X, G⟩ := T.hp
  exact He.glo_ok X G (allFa_at (f := .glo "ParseError") T.fa 45)
theorem xc_ParseError : (He.Fa.exc "ParseError").ok K = true := allFa_at T.fa 46
theorem gl_Logbook : mg "Logbook" = some (.ref (He.ga K "Logbook")) := by
  obtain ⟨h, X, G⟩ := T.hp
  exact He.glo_ok X G (allFa_at (f := .glo "Logbook") T.fa 47)
theorem cl_Logbook : Cls K (He.ga K "Logbook") := He.cls_ok (allFa_at (f := .cls "Logbook") T.fa 48)
theorem na_Logbook_rules : NoAttr K (He.ga K "Logbook") "rules" := He.noat_ok (allFa_at (f := .noat "Logbook" "rules") T.fa 49)
theorem na_Logbook_text : NoAttr K (He.ga K "Logbook") "text" := He.noat_ok (allFa_at (f := .noat "Logbook" "text") T.fa 50)
theorem na_Logbook_earlier : NoAttr K (He.ga K "Logbook") "earlier" := He.noat_ok (allFa_at (f := .noat "Logbook" "earlier") T.fa 51)
theorem na_Logbook_later : NoAttr K (He.ga K "Logbook") "later" := He.noat_ok (allFa_at (f := .noat "Logbook" "later") T.fa 52)
theorem me_Logbook_init : Meth K (He.ga K "Logbook") "__init__" (He.ma K (He.ga K "Logbook") "__init__") := He.meth_ok (allFa_at (f := .meth "Logbook" "__init__") T.fa 53)
theorem me_Logbook_log : Meth K (He.ga K "Logbook") "log" (He.ma K (He.ga K "Logbook") "log") := He.meth_ok (allFa_at (f := .meth "Logbook" "log") T.fa 54)
theorem me_Logbook_counters : Meth K (He.ga K "Logbook") "counters" (He.ma K (He.ga K "Logbook") "counters") := He.meth_ok (allFa_at (f := .meth "Logbook" "counters") T.fa 55)
theorem me_Logbook_change : Meth K (He.ga K "Logbook") "change" (He.ma K (He.ga K "Logbook") "change") := He.meth_ok (allFa_at (f := .meth "Logbook" "change") T.fa 56)
theorem me_Logbook_add : Meth K (He.ga K "Logbook") "add" (He.ma K (He.ga K "Logbook") "add") := He.meth_ok (allFa_at (f := .meth "Logbook" "add") T.fa 57)
theorem me_Logbook_rest : Meth K (He.ga K "Logbook") "rest" (He.ma K (He.ga K "Logbook") "rest") := He.meth_ok (allFa_at (f := .meth "Logbook" "rest") T.fa 58)
theorem me_Logbook_undo : Meth K (He.ga K "Logbook") "undo" (He.ma K (He.ga K "Logbook") "undo") := He.meth_ok (allFa_at (f := .meth "Logbook" "undo") T.fa 59)
theorem me_Logbook_redo : Meth K (He.ga K "Logbook") "redo" (He.ma K (He.ga K "Logbook") "redo") := He.meth_ok (allFa_at (f := .meth "Logbook" "redo") T.fa 60)
theorem me_Logbook_copy : Meth K (He.ga K "Logbook") "copy" (He.ma K (He.ga K "Logbook") "copy") := He.meth_ok (allFa_at (f := .meth "Logbook" "copy") T.fa 61)
theorem me_Logbook_eq : Meth K (He.ga K "Logbook") "__eq__" (He.ma K (He.ga K "Logbook") "__eq__") := He.meth_ok (allFa_at (f := .meth "Logbook" "__eq__") T.fa 62)
theorem me_Logbook_len : Meth K (He.ga K "Logbook") "__len__" (He.ma K (He.ga K "Logbook") "__len__") := He.meth_ok (allFa_at (f := .meth "Logbook" "__len__") T.fa 63)
theorem mk_Logbook : Mk K (He.ga K "Logbook") (He.ma K (He.ga K "Logbook") "__init__") := He.mkr_ok (allFa_at (f := .mkr "Logbook") T.fa 64)
theorem fr_len : mg "len" = none := by
  obtain ⟨h, X, G⟩ := T.hp
  exact He.free_ok X G (allFa_at (f := .free "len") T.fa 65)
theorem fr_range : mg "range" = none := by
  obtain ⟨h, X, G⟩ := T.hp
  exact He.free_ok X G (allFa_at (f := .free "range") T.fa 66)
theorem fr_isinstance : mg "isinstance" = none := by
  obtain ⟨h, X, G⟩ := T.hp
  exact He.free_ok X G (allFa_at (f := .free "isinstance") T.fa 67)
theorem fr_int : mg "int" = none := by
  obtain ⟨h, X, G⟩ := T.hp
  exact He.free_ok X G (allFa_at (f := .free "int") T.fa 68)
theorem fr_bool : mg "bool" = none := by
  obtain ⟨h, X, G⟩ := T.hp
  exact He.free_ok X G (allFa_at (f := .free "bool") T.fa 69)
theorem fr_tuple : mg "tuple" = none := by
  obtain ⟨h, X, G⟩ := T.hp
  exact He.free_ok X G (allFa_at (f := .free "tuple") T.fa 70)
theorem fr_str : mg "str" = none := by
  obtain ⟨h, X, G⟩ := T.hp
  exact He.free_ok X G (allFa_at (f := .free "str") T.fa 71)
theorem fr_list : mg "list" = none := by
  obtain ⟨h, X, G⟩ := T.hp
  exact He.free_ok X G (allFa_at (f := .free "list") T.fa 72)
theorem fr_all : mg "all" = none := by
  obtain ⟨h, X, G⟩ := T.hp
  exact He.free_ok X G (allFa_at (f := .free "all") T.fa 73)
theorem fr_enumerate : mg "enumerate" = none := by
  obtain ⟨h, X, G⟩ := T.hp
  exact He.free_ok X G (allFa_at (f := .free "enumerate") T.fa 74)
theorem fr_min : mg "min" = none := by
  obtain ⟨h, X, G⟩ := T.hp
  exact He.free_ok X G (allFa_at (f := .free "min") T.fa 75)
theorem fr_max : mg "max" = none := by
  obtain ⟨h, X, G⟩ := T.hp
  exact He.free_ok X G (allFa_at (f := .free "max") T.fa 76)
theorem fr_ValueError : mg "ValueError" = none := by
  obtain ⟨h, X, G⟩ := T.hp
  exact He.free_ok X G (allFa_at (f := .free "ValueError") T.fa 77)
theorem ci_MAX_STINT : ∃ t, mg "MAX_STINT" = some (.int 6 t) := by
  obtain ⟨h, X, G⟩ := T.hp
  exact He.int_ok X G (allFa_at (f := .int "MAX_STINT" 6) T.fa 78)
theorem ci_MAX_PAUSE : ∃ t, mg "MAX_PAUSE" = some (.int 4 t) := by
  obtain ⟨h, X, G⟩ := T.hp
  exact He.int_ok X G (allFa_at (f := .int "MAX_PAUSE" 4) T.fa 79)
theorem ci_MAX_DAILY : ∃ t, mg "MAX_DAILY" = some (.int 10 t) := by
  obtain ⟨h, X, G⟩ := T.hp
  exact He.int_ok X G (allFa_at (f := .int "MAX_DAILY" 10) T.fa 80)
theorem ci_MAX_NIGHT : ∃ t, mg "MAX_NIGHT" = some (.int 6 t) := by
  obtain ⟨h, X, G⟩ := T.hp
  exact He.int_ok X G (allFa_at (f := .int "MAX_NIGHT" 6) T.fa 81)
theorem ci_MAX_LOG : ∃ t, mg "MAX_LOG" = some (.int 60 t) := by
  obtain ⟨h, X, G⟩ := T.hp
  exact He.int_ok X G (allFa_at (f := .int "MAX_LOG" 60) T.fa 82)
theorem cs_DRIVE : ∃ t, mg "DRIVE" = some (.str "D" t) := by
  obtain ⟨h, X, G⟩ := T.hp
  exact He.str_ok X G (allFa_at (f := .str "DRIVE" "D") T.fa 83)
theorem cs_REST : ∃ t, mg "REST" = some (.str "R" t) := by
  obtain ⟨h, X, G⟩ := T.hp
  exact He.str_ok X G (allFa_at (f := .str "REST" "R") T.fa 84)
theorem cs_SIGNS : ∃ t, mg "SIGNS" = some (.str "DRW" t) := by
  obtain ⟨h, X, G⟩ := T.hp
  exact He.str_ok X G (allFa_at (f := .str "SIGNS" "DRW") T.fa 85)
theorem gl_START : mg "START" = some (.ref (He.ga K "START")) := by
  obtain ⟨h, X, G⟩ := T.hp
  exact He.glo_ok X G (allFa_at (f := .glo "START") T.fa 86)
theorem gl_counters_counters : mg "counters_counters" = some (.ref (He.ga K "counters_counters")) := by
  obtain ⟨h, X, G⟩ := T.hp
  exact He.glo_ok X G (allFa_at (f := .glo "counters_counters") T.fa 87)
theorem ci_MAX_ADDED : ∃ t, mg "MAX_ADDED" = some (.int 12 t) := by
  obtain ⟨h, X, G⟩ := T.hp
  exact He.int_ok X G (allFa_at (f := .int "MAX_ADDED" 12) T.fa 88)
theorem fn_is_int : ∃ fd, FnP K "is_int" s_is_int (He.ga K "is_int") fd := fnP_of T.c 0
theorem fn_is_rules : ∃ fd, FnP K "is_rules" s_is_rules (He.ga K "is_rules") fd := fnP_of T.c 1
theorem fn_is_log : ∃ fd, FnP K "is_log" s_is_log (He.ga K "is_log") fd := fnP_of T.c 2
theorem fn_check_rules : ∃ fd, FnP K "check_rules" s_check_rules (He.ga K "check_rules") fd := fnP_of T.c 3
theorem fn_check_log : ∃ fd, FnP K "check_log" s_check_log (He.ga K "check_log") fd := fnP_of T.c 4
theorem fn_check_both : ∃ fd, FnP K "check_both" s_check_both (He.ga K "check_both") fd := fnP_of T.c 5
theorem fn_rest_once : ∃ fd, FnP K "rest_once" s_rest_once (He.ga K "rest_once") fd := fnP_of T.c 6
theorem fn_end_run : ∃ fd, FnP K "end_run" s_end_run (He.ga K "end_run") fd := fnP_of T.c 7
theorem fn_step : ∃ fd, FnP K "step" s_step (He.ga K "step") fd := fnP_of T.c 8
theorem fn_all_states : ∃ fd, FnP K "all_states" s_all_states (He.ga K "all_states") fd := fnP_of T.c 9
theorem fn_counters : ∃ fd, FnP K "counters" s_counters (He.ga K "counters") fd := fnP_of T.c 10
theorem fn_is_over : ∃ fd, FnP K "is_over" s_is_over (He.ga K "is_over") fd := fnP_of T.c 11
theorem fn_find_faults : ∃ fd, FnP K "find_faults" s_find_faults (He.ga K "find_faults") fd := fnP_of T.c 12
theorem fn_drive_left : ∃ fd, FnP K "drive_left" s_drive_left (He.ga K "drive_left") fd := fnP_of T.c 13
theorem fn_law_count : ∃ fd, FnP K "_law_count" s_law_count (He.ga K "_law_count") fd := fnP_of T.c 14
theorem fn_law_bad : ∃ fd, FnP K "_law_bad" s_law_bad (He.ga K "_law_bad") fd := fnP_of T.c 15
theorem fn_law_pick : ∃ fd, FnP K "_law_pick" s_law_pick (He.ga K "_law_pick") fd := fnP_of T.c 16
theorem fn_law_form : ∃ fd, FnP K "_law_form" s_law_form (He.ga K "_law_form") fd := fnP_of T.c 17
theorem fn_law_class : ∃ fd, FnP K "_law_class" s_law_class (He.ga K "_law_class") fd := fnP_of T.c 18
theorem fn_law_result : ∃ fd, FnP K "_law_result" s_law_result (He.ga K "_law_result") fd := fnP_of T.c 19
theorem fn_law_calls : ∃ fd, FnP K "_law_calls" s_law_calls (He.ga K "_law_calls") fd := fnP_of T.c 20
theorem fn_law_due : ∃ fd, FnP K "_law_due" s_law_due (He.ga K "_law_due") fd := fnP_of T.c 21
theorem fn_law : ∃ fd, FnP K "law" s_law (He.ga K "law") fd := fnP_of T.c 22
theorem fm_Logbook_init : ∃ fd, FunD K "__init__" "Logbook.__init__" (defArgs s_Logbook_init) (defBody s_Logbook_init) (defScope s_Logbook_init) [] [] (He.ma K (He.ga K "Logbook") "__init__") fd := seenG_def T.c 23
theorem fm_Logbook_log : ∃ fd, FunD K "log" "Logbook.log" (defArgs s_Logbook_log) (defBody s_Logbook_log) (defScope s_Logbook_log) [] [] (He.ma K (He.ga K "Logbook") "log") fd := seenG_def T.c 24
theorem fm_Logbook_counters : ∃ fd, FunD K "counters" "Logbook.counters" (defArgs s_Logbook_counters) (defBody s_Logbook_counters) (defScope s_Logbook_counters) [] [] (He.ma K (He.ga K "Logbook") "counters") fd := seenG_def T.c 25
theorem fm_Logbook_change : ∃ fd, FunD K "change" "Logbook.change" (defArgs s_Logbook_change) (defBody s_Logbook_change) (defScope s_Logbook_change) [] [] (He.ma K (He.ga K "Logbook") "change") fd := seenG_def T.c 26
theorem fm_Logbook_add : ∃ fd, FunD K "add" "Logbook.add" (defArgs s_Logbook_add) (defBody s_Logbook_add) (defScope s_Logbook_add) [] [] (He.ma K (He.ga K "Logbook") "add") fd := seenG_def T.c 27
theorem fm_Logbook_rest : ∃ fd, FunD K "rest" "Logbook.rest" (defArgs s_Logbook_rest) (defBody s_Logbook_rest) (defScope s_Logbook_rest) [] [] (He.ma K (He.ga K "Logbook") "rest") fd := seenG_def T.c 28
theorem fm_Logbook_undo : ∃ fd, FunD K "undo" "Logbook.undo" (defArgs s_Logbook_undo) (defBody s_Logbook_undo) (defScope s_Logbook_undo) [] [] (He.ma K (He.ga K "Logbook") "undo") fd := seenG_def T.c 29
theorem fm_Logbook_redo : ∃ fd, FunD K "redo" "Logbook.redo" (defArgs s_Logbook_redo) (defBody s_Logbook_redo) (defScope s_Logbook_redo) [] [] (He.ma K (He.ga K "Logbook") "redo") fd := seenG_def T.c 30
theorem fm_Logbook_copy : ∃ fd, FunD K "copy" "Logbook.copy" (defArgs s_Logbook_copy) (defBody s_Logbook_copy) (defScope s_Logbook_copy) [] [] (He.ma K (He.ga K "Logbook") "copy") fd := seenG_def T.c 31
theorem fm_Logbook_eq : ∃ fd, FunD K "__eq__" "Logbook.__eq__" (defArgs s_Logbook_eq) (defBody s_Logbook_eq) (defScope s_Logbook_eq) [] [] (He.ma K (He.ga K "Logbook") "__eq__") fd := seenG_def T.c 32
theorem fm_Logbook_len : ∃ fd, FunD K "__len__" "Logbook.__len__" (defArgs s_Logbook_len) (defBody s_Logbook_len) (defScope s_Logbook_len) [] [] (He.ma K (He.ga K "Logbook") "__len__") fd := seenG_def T.c 33
theorem ex_RestError : ExT K mg "RestError" (He.ga K "RestError") := by
  obtain ⟨h, X, G⟩ := T.hp
  exact ext_of X G (allFa_at T.fa 23) T.xc_RestError
theorem ex_InvalidRules : ExT K mg "InvalidRules" (He.ga K "InvalidRules") := by
  obtain ⟨h, X, G⟩ := T.hp
  exact ext_of X G (allFa_at T.fa 25) T.xc_InvalidRules
theorem ex_InvalidLog : ExT K mg "InvalidLog" (He.ga K "InvalidLog") := by
  obtain ⟨h, X, G⟩ := T.hp
  exact ext_of X G (allFa_at T.fa 27) T.xc_InvalidLog
theorem ex_InvalidLength : ExT K mg "InvalidLength" (He.ga K "InvalidLength") := by
  obtain ⟨h, X, G⟩ := T.hp
  exact ext_of X G (allFa_at T.fa 29) T.xc_InvalidLength
theorem ex_InvalidMany : ExT K mg "InvalidMany" (He.ga K "InvalidMany") := by
  obtain ⟨h, X, G⟩ := T.hp
  exact ext_of X G (allFa_at T.fa 31) T.xc_InvalidMany
theorem ex_InvalidDuty : ExT K mg "InvalidDuty" (He.ga K "InvalidDuty") := by
  obtain ⟨h, X, G⟩ := T.hp
  exact ext_of X G (allFa_at T.fa 33) T.xc_InvalidDuty
theorem ex_InvalidPrices : ExT K mg "InvalidPrices" (He.ga K "InvalidPrices") := by
  obtain ⟨h, X, G⟩ := T.hp
  exact ext_of X G (allFa_at T.fa 35) T.xc_InvalidPrices
theorem ex_InvalidHours : ExT K mg "InvalidHours" (He.ga K "InvalidHours") := by
  obtain ⟨h, X, G⟩ := T.hp
  exact ext_of X G (allFa_at T.fa 37) T.xc_InvalidHours
theorem ex_TooLong : ExT K mg "TooLong" (He.ga K "TooLong") := by
  obtain ⟨h, X, G⟩ := T.hp
  exact ext_of X G (allFa_at T.fa 39) T.xc_TooLong
theorem ex_TooLarge : ExT K mg "TooLarge" (He.ga K "TooLarge") := by
  obtain ⟨h, X, G⟩ := T.hp
  exact ext_of X G (allFa_at T.fa 41) T.xc_TooLarge
theorem ex_NothingToUndo : ExT K mg "NothingToUndo" (He.ga K "NothingToUndo") := by
  obtain ⟨h, X, G⟩ := T.hp
  exact ext_of X G (allFa_at T.fa 43) T.xc_NothingToUndo
theorem ex_ParseError : ExT K mg "ParseError" (He.ga K "ParseError") := by
  obtain ⟨h, X, G⟩ := T.hp
  exact ext_of X G (allFa_at T.fa 45) T.xc_ParseError
theorem tu_START : He.tupB K "START" [.int 0, .int 0, .bl false, .int 0, .bl false] = true := (He.ba (He.ba (seenG_chk T.c)).2).1
theorem xk : excChk excL K = true := (He.ba (He.ba (He.ba (seenG_chk T.c)).2).2).1
theorem xv : valChk excL K = true := (He.ba (He.ba (He.ba (He.ba (seenG_chk T.c)).2).2).2).1
theorem xq : eqChk "Logbook" K = true := (He.ba (He.ba (He.ba (He.ba (He.ba (seenG_chk T.c)).2).2).2).2).1
theorem xa : aliChk "counters_counters" "counters" K = true := (He.ba (He.ba (He.ba (He.ba (He.ba (seenG_chk T.c)).2).2).2).2).2
end Tp
end Lw

namespace Lw
open PySem PySem.Spec L2 Gd
section
variable {P : Program} {w : World} {K : PySem.W.Frag} {mg : Str -> Option Value} {base : Heap}
/-! ### is_int -/
def R_is_int : Rel := fun ds o => ∃ d lo hi, noDict d = true ∧ ds = [d, .int lo, .int hi] ∧ o = .ret (.bool (okInt d lo hi))
theorem can_is_int (T : Tp K mg) : Can P w K mg base 1 "is_int" R_is_int := by
  obtain ⟨fd, F⟩ := T.fn_is_int
  refine can_of F T.gl_is_int sc_is_int (fun _ _ _ _ _ _ us hl => match us, hl with | [_, _, _], _ => rfl) (by rintro ds o ⟨d, lo, hi, _, rfl, rfl⟩; rfl) ?_
  rintro cdv A outer s H E N ds o hr ⟨d, lo, hi, hd, rfl, rfl⟩ hx
  have h1 := fun (X : Cx) => @ge_isI X
  cases d with
  | int i => exact gs_cons (g1_ret (ge_and (ge_isI T.fr_isinstance T.fr_int (gv 0) hd) fun _ => ge_and (ge_not (ge_isB T.fr_isinstance T.fr_bool (gv 0) hd)) fun _ => ge_one (ge_chain (gv 1) (ch_link (gv 0) c_le fun _ => ch_last (gv 2) c_le))) rfl)
  | bool b => exact gs_cons (g1_ret (ge_and (ge_isI T.fr_isinstance T.fr_int (gv 0) hd) fun _ => ge_and (c' := false) (ge_not (ge_isB T.fr_isinstance T.fr_bool (gv 0) hd)) fun h => nomatch h) rfl)
  | none => exact gs_cons (g1_ret (ge_and (c' := false) (ge_isI T.fr_isinstance T.fr_int (gv 0) hd) fun h => nomatch h) rfl)
  | str z => exact gs_cons (g1_ret (ge_and (c' := false) (ge_isI T.fr_isinstance T.fr_int (gv 0) hd) fun h => nomatch h) rfl)
  | list z => exact gs_cons (g1_ret (ge_and (c' := false) (ge_isI T.fr_isinstance T.fr_int (gv 0) hd) fun h => nomatch h) rfl)
  | tuple z => exact gs_cons (g1_ret (ge_and (c' := false) (ge_isI T.fr_isinstance T.fr_int (gv 0) hd) fun h => nomatch h) rfl)
  | dict z => simp [noDict] at hd
/-! ### is_rules -/
def R_is_rules : Rel := fun ds o => ∃ d, noDict d = true ∧ ds = [d] ∧ o = .ret (.bool (isRules d))
theorem okInt_int {d : PyData} {lo hi : Int} (h : okInt d lo hi = true) : ∃ i, d = .int i := by
  cases d with
  | int i => exact ⟨i, rfl⟩
  | _ => cases h
theorem can_is_rules (T : Tp K mg) : Can P w K mg base 2 "is_rules" R_is_rules := by
  obtain ⟨fd, F⟩ := T.fn_is_rules
  refine can_of F T.gl_is_rules sc_is_rules (fun _ _ _ _ _ _ us hl => match us, hl with | [_], _ => rfl) (by rintro ds o ⟨d, _, rfl, rfl⟩; rfl) ?_
  rintro cdv A outer s H E N ds o hr ⟨d, hd, rfl, rfl⟩ hx
  have nd := sc_is_rules.nd
  have no : forall (h : isiB d "tuple" = false), GS (cxD P w K mg base n_is_rules "is_rules" s_is_rules (He.ga K "is_rules") cdv A outer s H E) N (defBody s_is_rules) (startR n_is_rules.length [d]) (post (.ret (.bool false))) := fun h =>
    gs_cons (g1_if (gt_w (gw_or (c' := true) (gt_not (gt_val (ge_isT T.fr_isinstance T.fr_tuple (gv 0) hd))) fun z => by rw [h] at z; cases z)) (fun _ => gs_cons (g1_ret ge_bl rfl)) fun z => by rw [h] at z; cases z)
  cases d with
  | tuple xs =>
    by_cases h5 : xs.length = 5
    · match xs, h5 with
      | [a, b, c, d, e], _ =>
        have hd' : noDictAll [a, b, c, d, e] = true := by simpa [noDict] using hd
        simp only [noDictAll, Bool.and_true, Bool.and_eq_true] at hd'
        obtain ⟨ha, hb, hc, hdd, he⟩ := hd'
        refine gs_cons (g1_if (gt_w (gw_or (gt_not (gt_val (ge_isT T.fr_isinstance T.fr_tuple (gv 0) hd))) fun _ => gw_or1 (gt_cmp (ge_cb T.fr_len bt_len k_lenT (ga_cons (gv 0) ga_nil)) ge_int c_neI))) (fun z => by simp [isiB, tyN] at z) fun _ => gs_nil ?_)
        refine gs_cons (g1_asg (tg_tp (is := [1, 2, 3, 4, 5]) (tgs_cons 1 nd (tgs_cons 2 nd (tgs_cons 3 nd (tgs_cons 4 nd (tgs_cons 5 nd tgs_nil)))))) (gv 0) rfl ?_)
        refine gs_cons (g1_if (gt_w (gw_or (gt_not (gt_val (ge_call (can_is_int T) hr (ga_cons (gv 1) (ga_cons ge_int (ga_cons (gg_int T.ci_MAX_STINT) ga_nil))) ⟨a, 1, 6, ha, rfl, rfl⟩))) fun _ => gw_or1 (gt_not (gt_val (ge_call (can_is_int T) hr (ga_cons (gv 2) (ga_cons ge_int (ga_cons (gg_int T.ci_MAX_PAUSE) ga_nil))) ⟨b, 1, 4, hb, rfl, rfl⟩))))) (fun z => ?_) fun z => gs_nil ?_)
        · refine gs_cons (g1_ret ge_bl ?_)
          have e0 : (okInt a 1 6 && okInt b 1 4) = false := by
            cases q : okInt a 1 6 <;> cases q2 : okInt b 1 4 <;> simp_all
          show Out.ret (.bool (isRules (.tuple [a, b, c, d, e]))) = .ret (.bool false)
          unfold isRules
          dsimp only
          rw [e0]
          rfl
        · have e1 : okInt a 1 6 = true := by cases q : okInt a 1 6 <;> simp_all
          have e2 : okInt b 1 4 = true := by cases q : okInt b 1 4 <;> simp_all
          obtain ⟨i, rfl⟩ := okInt_int e1
          obtain ⟨j, rfl⟩ := okInt_int e2
          refine gs_cons (g1_ret (ge_and (ge_call (can_is_int T) hr (ga_cons (gv 3) (ga_cons (gv 1) (ga_cons (gg_int T.ci_MAX_DAILY) ga_nil))) ⟨c, i, 10, hc, rfl, rfl⟩) fun _ => ge_and (ge_call (can_is_int T) hr (ga_cons (gv 4) (ga_cons (gv 2) (ga_cons (gg_int T.ci_MAX_NIGHT) ga_nil))) ⟨d, j, 6, hdd, rfl, rfl⟩) fun _ =>
            ge_one (ge_call (can_is_int T) hr (ga_cons (gv 5) (ga_cons ge_int (ga_cons (ge_bin (gv 2) ge_int b_sub) ga_nil))) ⟨e, 0, j - 1, he, rfl, rfl⟩)) ?_)
          show Out.ret (.bool (isRules (.tuple [.int i, .int j, c, d, e]))) = _
          unfold isRules
          dsimp only
          rw [e1, e2]
          rfl
    · have e0 : isRules (.tuple xs) = false := by
        unfold isRules
        split
        · rename_i z; cases z; exact absurd rfl h5
        · rfl
      rw [e0]
      refine gs_cons (g1_if (gt_w (gw_or (gt_not (gt_val (ge_isT T.fr_isinstance T.fr_tuple (gv 0) hd))) fun _ => gw_or1 (gt_cmp (ge_cb T.fr_len bt_len k_lenT (ga_cons (gv 0) ga_nil)) ge_int c_neI))) (fun _ => gs_cons (g1_ret ge_bl rfl)) fun z => ?_)
      have : ((xs.length : Nat) : Int) ≠ 5 := by omega
      simp [isiB, tyN, this] at z
  | _ => exact no rfl
end
end Lw

namespace Lw
open PySem PySem.Spec L2 Gd
section
variable {P : Program} {w : World} {K : PySem.W.Frag} {mg : Str -> Option Value} {base : Heap}
/-! ### is_log -/
def R_is_log : Rel := fun ds o => ∃ d, noDict d = true ∧ smol d = true ∧ ds = [d] ∧ o = .ret (.bool (isLog d))
theorem isLog_S (l : List Nat) : isLog (.str (S l)) = isLogL l := by
  show isLogL (S l).cps.toList = _
  rw [S_cps]
theorem can_is_log (T : Tp K mg) : Can P w K mg base 1 "is_log" R_is_log := by
  obtain ⟨fd, F⟩ := T.fn_is_log
  refine can_of F T.gl_is_log sc_is_log (fun _ _ _ _ _ _ us hl => match us, hl with | [_], _ => rfl) (by rintro ds o ⟨d, _, _, rfl, rfl⟩; rfl) ?_
  rintro cdv A outer s H E N ds o hr ⟨d, hd, hs, rfl, rfl⟩ hx
  have nd := sc_is_log.nd
  cases d with
  | str z =>
    obtain ⟨l, rfl⟩ : ∃ l, z = S l := ⟨_, S_of z⟩
    rw [isLog_S]
    have hl : l.length ≤ 1000 := by
      have := of_decide_eq_true hs
      rwa [S_len] at this
    exact gs_cons (g1_ret (ge_and (ge_isS T.fr_isinstance T.fr_str (gv 0) hd) fun _ => ge_and (ge_cmp (ge_cb T.fr_len bt_len (k_lenS (by omega)) (ga_cons (gv 0) ga_nil)) (gg_int T.ci_MAX_LOG) c_le) fun _ =>
      ge_one (ge_cb T.fr_all bt_all (k_allF l isSg rfl) (ga_cons (lc l (fun c => .str (S [c])) (fun c => .bool (isSg c)) [("sign", 1)] (gi_str (gv 0)) nd (by omega) (fun _ _ _ _ _ => tg_nm 1 nd) fun i x hx => ⟨_, rfl, fun _ _ _ _ _ => ge_cmp (gv 1) (ggS [68, 82, 87] T.cs_SIGNS) c_in1⟩) ga_nil))) rfl)
  | none => exact gs_cons (g1_ret (ge_and (c' := false) (ge_isS T.fr_isinstance T.fr_str (gv 0) hd) fun h => nomatch h) rfl)
  | bool b => exact gs_cons (g1_ret (ge_and (c' := false) (ge_isS T.fr_isinstance T.fr_str (gv 0) hd) fun h => nomatch h) rfl)
  | int b => exact gs_cons (g1_ret (ge_and (c' := false) (ge_isS T.fr_isinstance T.fr_str (gv 0) hd) fun h => nomatch h) rfl)
  | list b => exact gs_cons (g1_ret (ge_and (c' := false) (ge_isS T.fr_isinstance T.fr_str (gv 0) hd) fun h => nomatch h) rfl)
  | tuple b => exact gs_cons (g1_ret (ge_and (c' := false) (ge_isS T.fr_isinstance T.fr_str (gv 0) hd) fun h => nomatch h) rfl)
  | dict z => simp [noDict] at hd
/-! ### checks -/
def R_check_rules (K : PySem.W.Frag) : Rel := fun ds o => ∃ d, noDict d = true ∧ ds = [d] ∧ o = if isRules d = true then .ret .none else .exc (He.ga K "InvalidRules")
theorem can_check_rules (T : Tp K mg) : Can P w K mg base 3 "check_rules" (R_check_rules K) := by
  obtain ⟨fd, F⟩ := T.fn_check_rules
  refine can_of F T.gl_check_rules sc_check_rules (fun _ _ _ _ _ _ us hl => match us, hl with | [_], _ => rfl) (by rintro ds o ⟨d, _, rfl, rfl⟩; rfl) ?_
  rintro cdv A outer s H E N ds o hr ⟨d, hd, rfl, rfl⟩ hx
  refine gs_cons (g1_if (gt_not (gt_val (ge_call (can_is_rules T) hr (ga_cons (gv 0) ga_nil) ⟨d, hd, rfl, rfl⟩))) (fun h => ?_) fun h => gs_nil (gs_nil ?_))
  · have e : isRules d = false := by simpa using h
    rw [e] at hx ⊢
    exact gs_cons (g1_raise T.ex_InvalidRules (hx _ rfl) trivial)
  · have e : isRules d = true := by simpa using h
    rw [e]
    rfl
def R_check_log (K : PySem.W.Frag) : Rel := fun ds o => ∃ d, noDict d = true ∧ smol d = true ∧ ds = [d] ∧ o = if isLog d = true then .ret .none else .exc (He.ga K "InvalidLog")
theorem can_check_log (T : Tp K mg) : Can P w K mg base 2 "check_log" (R_check_log K) := by
  obtain ⟨fd, F⟩ := T.fn_check_log
  refine can_of F T.gl_check_log sc_check_log (fun _ _ _ _ _ _ us hl => match us, hl with | [_], _ => rfl) (by rintro ds o ⟨d, _, _, rfl, rfl⟩; rfl) ?_
  rintro cdv A outer s H E N ds o hr ⟨d, hd, hs, rfl, rfl⟩ hx
  refine gs_cons (g1_if (gt_not (gt_val (ge_call (can_is_log T) hr (ga_cons (gv 0) ga_nil) ⟨d, hd, hs, rfl, rfl⟩))) (fun h => ?_) fun h => gs_nil (gs_nil ?_))
  · have e : isLog d = false := by simpa using h
    rw [e] at hx ⊢
    exact gs_cons (g1_raise T.ex_InvalidLog (hx _ rfl) trivial)
  · have e : isLog d = true := by simpa using h
    rw [e]
    rfl
/-- the first exception of wrong rules, a wrong log -/
def chk2 (K : PySem.W.Frag) (d e : PyData) : Option Addr := if isRules d = true then (if isLog e = true then none else some (He.ga K "InvalidLog")) else some (He.ga K "InvalidRules")
def outG (x : Option Addr) (d : PyData) : Out := match x with
  | none => .ret d
  | some C => .exc C
def R_check_both (K : PySem.W.Frag) : Rel := fun ds o => ∃ d e, noDict d = true ∧ noDict e = true ∧ smol e = true ∧ ds = [d, e] ∧ o = outG (chk2 K d e) .none
theorem can_check_both (T : Tp K mg) : Can P w K mg base 4 "check_both" (R_check_both K) := by
  obtain ⟨fd, F⟩ := T.fn_check_both
  refine can_of F T.gl_check_both sc_check_both (fun _ _ _ _ _ _ us hl => match us, hl with | [_, _], _ => rfl) (by rintro ds o ⟨d, e, _, _, _, rfl, rfl⟩; rfl) ?_
  rintro cdv A outer s H E N ds o hr ⟨d, e, hd, he, hs, rfl, rfl⟩ hx
  unfold chk2 at hx ⊢
  cases h1 : isRules d with
  | false =>
    rw [h1, if_neg Bool.false_ne_true] at hx
    exact gs_cons (g1_exprX (gx_call (can_check_rules T) hr (ga_cons (gv 0) ga_nil) ⟨d, hd, rfl, by rw [h1]; rfl⟩ (hx _ rfl) trivial))
  | true =>
    rw [h1, if_pos rfl] at hx
    rw [if_pos rfl]
    refine gs_cons (g1_expr (ge_call (can_check_rules T) hr (ga_cons (gv 0) ga_nil) ⟨d, hd, rfl, by rw [h1]; rfl⟩) ?_)
    cases h2 : isLog e with
    | false =>
      rw [h2, if_neg Bool.false_ne_true] at hx
      exact gs_cons (g1_exprX (gx_call (can_check_log T) hr (ga_cons (gv 1) ga_nil) ⟨e, he, hs, rfl, by rw [h2]; rfl⟩ (hx _ rfl) trivial))
    | true =>
      rw [if_pos rfl]
      exact gs_cons (g1_expr (ge_call (can_check_log T) hr (ga_cons (gv 1) ga_nil) ⟨e, he, hs, rfl, by rw [h2]; rfl⟩) (gs_nil rfl))
/-- what a def of a log, of rules and a log is worth -/
def RL (K : PySem.W.Frag) (val : List Nat -> PyData) : Rel := fun ds o =>
  (∃ e, noDict e = true ∧ smol e = true ∧ ds = [e] ∧ isLog e = false ∧ o = .exc (He.ga K "InvalidLog")) ∨ ∃ l, isLogL l = true ∧ ds = [.str (S l)] ∧ o = .ret (val l)
def RX (K : PySem.W.Frag) (val : Ru -> List Nat -> PyData) : Rel := fun ds o =>
  (∃ d e C, noDict d = true ∧ noDict e = true ∧ smol e = true ∧ ds = [d, e] ∧ chk2 K d e = some C ∧ o = .exc C) ∨ ∃ r l, isRules (ruD r) = true ∧ isLogL l = true ∧ ds = [ruD r, .str (S l)] ∧ o = .ret (val r l)
theorem RL_len {val : List Nat -> PyData} : forall ds o, RL K val ds o -> ds.length = 1 := by
  rintro ds o (⟨e, _, _, rfl, _⟩ | ⟨l, _, rfl, _⟩) <;> rfl
theorem RX_len {val : Ru -> List Nat -> PyData} : forall ds o, RX K val ds o -> ds.length = 2 := by
  rintro ds o (⟨d, e, C, _, _, _, rfl, _⟩ | ⟨r, l, _, _, rfl, _⟩) <;> rfl
theorem logL_len {l : List Nat} (h : isLogL l = true) : l.length ≤ 60 := by
  have := (Bool.and_eq_true_iff.mp h).1
  have := of_decide_eq_true this
  omega
theorem smol_log {l : List Nat} (h : isLogL l = true) : smol (.str (S l)) = true := by
  have := logL_len h
  exact decide_eq_true (by rw [S_len]; omega)
theorem chk2_ok {r : Ru} {l : List Nat} (h1 : isRules (ruD r) = true) (h2 : isLogL l = true) : chk2 K (ruD r) (.str (S l)) = none := by
  unfold chk2
  rw [h1, isLog_S, h2]
  rfl
theorem R_both_ok {r : Ru} {l : List Nat} (h1 : isRules (ruD r) = true) (h2 : isLogL l = true) : R_check_both K [ruD r, .str (S l)] (.ret .none) :=
  ⟨_, _, rfl, rfl, smol_log h2, rfl, by rw [chk2_ok h1 h2]; rfl⟩
/-! ### driven, rested, worked -/
end
end Lw

namespace Lw
open PySem PySem.Spec L2 Gd
section
variable {P : Program} {w : World} {K : PySem.W.Frag} {mg : Str -> Option Value} {base : Heap}
theorem ge_START {X : Cx} {ρ : Rho} {pos : Pos} (T : Tp X.K X.mg) (hg : Gl X "START" := by rfl) : GE X (.Name "START" pos) ρ (sqD start0) :=
  gg (v := .ref (He.ga X.K "START")) T.gl_START rfl (fun G => .tup (He.tupB_ok T.tu_START G) (.cons (.int _) (.cons (.int _) (.cons (.bl _) (.cons (.int _) (.cons (.bl _) .nil)))))) hg
/-! ### rest_once -/
def R_rest_once : Rel := fun ds o => ∃ r s, ds = [ruD r, sqD s] ∧ o = .ret (sqD (restOnce r s))
theorem can_rest_once (T : Tp K mg) : Can P w K mg base 1 "rest_once" R_rest_once := by
  obtain ⟨fd, F⟩ := T.fn_rest_once
  refine can_of F T.gl_rest_once sc_rest_once (fun _ _ _ _ _ _ us hl => match us, hl with | [_, _], _ => rfl) (by rintro ds o ⟨d, e, rfl, rfl⟩; rfl) ?_
  rintro cdv A outer s H E N ds o hr ⟨r, q, rfl, rfl⟩ hx
  have nd := sc_rest_once.nd
  refine gs_cons (g1_asg (tg_tp (is := [2, 3, 4, 5, 6]) (tgs_cons 2 nd (tgs_cons 3 nd (tgs_cons 4 nd (tgs_cons 5 nd (tgs_cons 6 nd tgs_nil)))))) (gv 1) rfl ?_)
  refine gs_cons (g1_set 5 (ge_cb T.fr_min bt_min (k_min2 rfl) (ga_cons (ge_bin (gv 5) ge_int b_add) (ga_cons (ge_ix (gv 0) ge_int (x_tup rfl)) ga_nil))) ?_ nd)
  generalize hrun : (if r.ni < q.ru + 1 then r.ni else q.ru + 1) = run
  have fin : forall (st da : Int) (mk tk : Bool), restOnce r q = ⟨st, da, mk, run, tk⟩ -> GS (cxD P w K mg base n_rest_once "rest_once" s_rest_once (He.ga K "rest_once") cdv A outer s H E) N ((defBody s_rest_once).drop 5) [.dat (ruD r), .dat (sqD q), .dat (.int st), .dat (.int da), .dat (.bool mk), .dat (.int run), .dat (.bool tk)] (post (.ret (sqD (restOnce r q)))) := fun st da mk tk h => by
    rw [h]
    exact gs_cons (g1_ret (ge_tup (ga_cons (gv 2) (ga_cons (gv 3) (ga_cons (gv 4) (ga_cons (gv 5) (ga_cons (gv 6) ga_nil)))))) rfl)
  have s4 : forall (st : Int) (mk tk : Bool), restOnce r q = ⟨st, if r.ni ≤ run then 0 else q.da, mk, run, tk⟩ -> GS (cxD P w K mg base n_rest_once "rest_once" s_rest_once (He.ga K "rest_once") cdv A outer s H E) N ((defBody s_rest_once).drop 4) [.dat (ruD r), .dat (sqD q), .dat (.int st), .dat (.int q.da), .dat (.bool mk), .dat (.int run), .dat (.bool tk)] (post (.ret (sqD (restOnce r q)))) := fun st mk tk h => by
    refine gs_cons (g1_if (gt_cmp (gv 5) (ge_ix (gv 0) ge_int (x_tup rfl)) c_ge) (fun z => ?_) fun z => gs_nil ?_)
    · rw [if_pos (of_decide_eq_true z)] at h
      exact gs_cons (g1_set 3 ge_int (gs_nil (fin _ _ _ _ h)) nd)
    · rw [if_neg (of_decide_eq_false z)] at h
      exact fin _ _ _ _ h
  have s3 : forall (b1 : Bool), b1 = (decide (0 < r.sp) && (q.mar && decide (r.pa - r.sp ≤ run))) -> GS (cxD P w K mg base n_rest_once "rest_once" s_rest_once (He.ga K "rest_once") cdv A outer s H E) N ((defBody s_rest_once).drop 3) [.dat (ruD r), .dat (sqD q), .dat (.int (if b1 = true then 0 else q.st)), .dat (.int q.da), .dat (.bool (if b1 = true then false else q.mar)), .dat (.int run), .dat (.bool (if b1 = true then true else q.tk))] (post (.ret (sqD (restOnce r q)))) := fun b1 hb => by
    refine gs_cons (g1_if (gt_cmp (gv 5) (ge_ix (gv 0) ge_int (x_tup rfl)) c_ge) (fun z => ?_) fun z => gs_nil ?_)
    · refine gs_cons (g1_asg (tg_tp (is := [2, 4]) (tgs_cons 2 nd (tgs_cons 4 nd tgs_nil))) (ge_tup (ga_cons ge_int (ga_cons ge_bl ga_nil))) rfl (gs_nil (s4 0 false (if b1 = true then true else q.tk) ?_)))
      unfold restOnce
      dsimp only
      rw [hrun, hb, z]
      rfl
    · refine s4 _ _ _ ?_
      unfold restOnce
      dsimp only
      rw [hrun, hb, z]
      rfl
  refine gs_cons (g1_if (gt_w (gw_and (gt_cmp (ge_ix (gv 0) ge_int (x_tup rfl)) ge_int c_gt) fun _ => gw_and (gt_val (gv 4)) fun _ => gw_and1 (gt_cmp (gv 5) (ge_bin (ge_ix (gv 0) ge_int (x_tup rfl)) (ge_ix (gv 0) ge_int (x_tup rfl)) b_sub) c_ge))) (fun z => ?_) fun z => gs_nil ?_)
  · exact gs_cons (g1_asg (tg_tp (is := [2, 4, 6]) (tgs_cons 2 nd (tgs_cons 4 nd (tgs_cons 6 nd tgs_nil)))) (ge_tup (ga_cons ge_int (ga_cons ge_bl (ga_cons ge_bl ga_nil)))) rfl (gs_nil (s3 true z.symm)))
  · exact s3 false z.symm
/-! ### end_run -/
def R_end_run : Rel := fun ds o => ∃ r s, ds = [ruD r, sqD s] ∧ o = .ret (sqD (endRun r s))
theorem can_end_run (T : Tp K mg) : Can P w K mg base 1 "end_run" R_end_run := by
  obtain ⟨fd, F⟩ := T.fn_end_run
  refine can_of F T.gl_end_run sc_end_run (fun _ _ _ _ _ _ us hl => match us, hl with | [_, _], _ => rfl) (by rintro ds o ⟨d, e, rfl, rfl⟩; rfl) ?_
  rintro cdv A outer s H E N ds o hr ⟨r, q, rfl, rfl⟩ hx
  have nd := sc_end_run.nd
  refine gs_cons (g1_asg (tg_tp (is := [2, 3, 4, 5, 6]) (tgs_cons 2 nd (tgs_cons 3 nd (tgs_cons 4 nd (tgs_cons 5 nd (tgs_cons 6 nd tgs_nil)))))) (gv 1) rfl ?_)
  refine gs_cons (g1_set 7 (ge_and (ge_cmp (ge_ix (gv 0) ge_int (x_tup rfl)) ge_int c_gt) fun _ => ge_and (ge_chain (ge_ix (gv 0) ge_int (x_tup rfl)) (ch_link (gv 5) c_le fun _ => ch_last (ge_ix (gv 0) ge_int (x_tup rfl)) c_lt)) fun _ => ge_one (ge_not (gv 6))) ?_ nd)
  exact gs_cons (g1_ret (ge_tup (ga_cons (gv 2) (ga_cons (gv 3) (ga_cons (ge_or (gv 4) fun _ => ge_one (gv 7)) (ga_cons ge_int (ga_cons ge_bl ga_nil)))))) rfl)
/-! ### step -/
def R_step : Rel := fun ds o => ∃ r s c, ds = [ruD r, sqD s, .str (S [c])] ∧ o = .ret (sqD (stepF r s c))
theorem can_step (T : Tp K mg) : Can P w K mg base 2 "step" R_step := by
  obtain ⟨fd, F⟩ := T.fn_step
  refine can_of F T.gl_step sc_step (fun _ _ _ _ _ _ us hl => match us, hl with | [_, _, _], _ => rfl) (by rintro ds o ⟨d, e, c, rfl, rfl⟩; rfl) ?_
  rintro cdv A outer s H E N ds o hr ⟨r, q, c, rfl, rfl⟩ hx
  have nd := sc_step.nd
  refine gs_cons (g1_if (gt_cmp (gv 2) (ggS [82] T.cs_REST) c_eqSS) (fun z => ?_) fun z => gs_nil ?_)
  · have e : c = 82 := by simpa using of_decide_eq_true z
    subst e
    exact gs_cons (g1_ret (ge_call (can_rest_once T) hr (ga_cons (gv 0) (ga_cons (gv 1) ga_nil)) ⟨r, q, rfl, rfl⟩) rfl)
  · have e : c ≠ 82 := by simpa using of_decide_eq_false z
    refine gs_cons (g1_asg (tg_tp (is := [3, 4, 5, 6, 7]) (tgs_cons 3 nd (tgs_cons 4 nd (tgs_cons 5 nd (tgs_cons 6 nd (tgs_cons 7 nd tgs_nil)))))) (ge_call (can_end_run T) hr (ga_cons (gv 0) (ga_cons (gv 1) ga_nil)) ⟨r, q, rfl, rfl⟩) rfl ?_)
    refine gs_cons (g1_if (gt_cmp (gv 2) (ggS [68] T.cs_DRIVE) c_eqSS) (fun z2 => ?_) fun z2 => gs_nil ?_)
    · have e2 : c = 68 := by simpa using of_decide_eq_true z2
      subst e2
      exact gs_cons (g1_ret (ge_tup (ga_cons (ge_bin (gv 3) ge_int b_add) (ga_cons (ge_bin (gv 4) ge_int b_add) (ga_cons (gv 5) (ga_cons (gv 6) (ga_cons (gv 7) ga_nil)))))) rfl)
    · have e2 : c ≠ 68 := by simpa using of_decide_eq_false z2
      refine gs_cons (g1_ret (ge_tup (ga_cons (gv 3) (ga_cons (gv 4) (ga_cons (gv 5) (ga_cons (gv 6) (ga_cons (gv 7) ga_nil)))))) ?_)
      show Out.ret (sqD (stepF r q c)) = _
      unfold stepF
      rw [if_neg e, if_neg e2]
      rfl
/-! ### all_states -/
def R_all_states : Rel := fun ds o => ∃ r l, l.length ≤ 1000 ∧ ds = [ruD r, .str (S l)] ∧ o = .ret (.list ((statesL r l).map sqD))
theorem can_all_states (T : Tp K mg) : Can P w K mg base 3 "all_states" R_all_states := by
  obtain ⟨fd, F⟩ := T.fn_all_states
  refine can_of F T.gl_all_states sc_all_states (fun _ _ _ _ _ _ us hl => match us, hl with | [_, _], _ => rfl) (by rintro ds o ⟨d, e, _, rfl, rfl⟩; rfl) ?_
  rintro cdv A outer s H E N ds o hr ⟨r, l, hl, rfl, rfl⟩ hx
  have nd := sc_all_states.nd
  refine gs_cons (g1_own 2 (ga_cons (ge_START T) ga_nil) ?_ nd)
  refine gs_cons (g1_for l (fun c => .str (S [c])) (T := .nm 3) (gi_str (gv 1)) (tg_nm 3 nd) (fun i ρ => ∃ x, ρ = [.dat (ruD r), .dat (.str (S l)), .own (((List.range (i + 1)).map fun j => after r (l.take j)).map sqD), x]) ⟨.any, rfl⟩ ?_ ?_ (passes_of rfl))
  · rintro i c ρ1 hc ⟨x, rfl⟩
    refine ⟨_, rfl, gs_cons (g1_append 2 rfl (ge_call (can_step T) hr (ga_cons (gv 0) (ga_cons (ge_ixOwn 2 (ge_neg ge_int) ?_) (ga_cons (gv 3) ga_nil))) ⟨r, after r (l.take i), c, rfl, rfl⟩) ?_ (gs_nil ⟨.dat (.str (S [c])), ?_⟩))⟩
    · rw [List.range_succ, List.map_append, List.map_append]
      exact atI_last _ _
    · have hi := (List.getElem?_eq_some_iff.mp hc).1
      rw [List.length_map, List.length_map, List.length_range]
      omega
    · rw [statesL_take hc, List.map_append]
      rfl
  · rintro ρ1 ⟨x, rfl⟩
    exact gs_freeze 2 rfl (gs_cons (g1_ret (gv 2) rfl))
end
end Lw

namespace Lw
open PySem PySem.Spec L2 Gd
theorem statesL_last (r : Ru) (l : List Nat) : atI ((statesL r l).map sqD) (-1) = some (sqD (after r l)) := by
  unfold statesL
  rw [List.range_succ, List.map_append, List.map_append]
  have : ((List.map (fun i => after r (l.take i)) [l.length]).map sqD) = [sqD (after r l)] := by
    rw [List.map_singleton, List.map_singleton, List.take_length]
  rw [this]
  exact atI_last _ _
theorem statesL_at {r : Ru} {l : List Nat} {i : Nat} (h : i ≤ l.length) : ((statesL r l).map sqD)[i]? = some (sqD (after r (l.take i))) := by
  unfold statesL
  rw [List.getElem?_map, List.getElem?_map, List.getElem?_range (by omega)]
  rfl
theorem eqv_nil (xs : List PyData) : PyData.eqv (.list xs) (.list []) = xs.isEmpty := by
  cases xs <;> simp [PyData.eqv, PyData.eqvAll]
def intsD (l : List Nat) : PyData := .list (l.map fun i => .int (i : Nat))
theorem sh_ints (l : List Nat) : shap (intsD l) = true := shap_of 1 (shN_list l fun _ _ => rfl)
theorem zipIdx_at {α : Type} {l : List α} {i : Nat} {x : α × Nat} (h : l.zipIdx[i]? = some x) : x.2 = i ∧ l[i]? = some x.1 ∧ i < l.length := by
  rw [List.getElem?_zipIdx] at h
  cases e : l[i]? with
  | none => rw [e] at h; cases h
  | some y =>
    rw [e] at h
    have : x = (y, 0 + i) := (Option.some.inj h).symm
    subst this
    exact ⟨Nat.zero_add i, rfl, (List.getElem?_eq_some_iff.mp e).1⟩
theorem filterMap_range {β : Type} (n : Nat) (p : Nat -> Bool) (f : Nat -> β) : (List.range n).filterMap (fun i => if p i = true then some (f i) else none) = ((List.range n).filter p).map f := by
  induction n with
  | zero => rfl
  | succ n ih =>
    rw [List.range_succ, List.filterMap_append, List.filter_append, List.map_append, ih]
    cases h : p n <;> simp [h]
theorem filterMap_same {α β : Type} {f g : α -> Option β} : forall {l : List α}, (forall x, x ∈ l -> f x = g x) -> l.filterMap f = l.filterMap g
  | [], _ => rfl
  | x :: l, h => by
    rw [List.filterMap_cons, List.filterMap_cons, h x List.mem_cons_self, filterMap_same fun y hy => h y (List.mem_cons_of_mem _ hy)]
theorem zipIdx_filterMap {α β : Type} (l : List α) (F : α × Nat -> Option β) (G : Nat -> Option β) (h : forall i x, l[i]? = some x -> F (x, i) = G i) : l.zipIdx.filterMap F = (List.range l.length).filterMap G := by
  have e : l.zipIdx.filterMap F = (l.zipIdx.map (·.2)).filterMap G := by
    rw [List.filterMap_map]
    refine filterMap_same fun x hx => ?_
    obtain ⟨i, hi, e⟩ := List.getElem_of_mem hx
    have := zipIdx_at (List.getElem?_eq_some_iff.mpr ⟨hi, e⟩)
    have h2 := h i x.1 this.2.1
    show F x = G x.2
    rw [this.1, ← h2, ← this.1]
  rw [e, List.zipIdx_map_snd]
  rw [List.range_eq_range']
section
variable {P : Program} {w : World} {K : PySem.W.Frag} {mg : Str -> Option Value} {base : Heap}
theorem R_both_bad {d e : PyData} {C : Addr} (hd : noDict d = true) (he : noDict e = true) (hs : smol e = true) (hc : chk2 K d e = some C) : R_check_both K [d, e] (.exc C) := ⟨d, e, hd, he, hs, rfl, by rw [hc]; rfl⟩
/-! ### counters -/
theorem can_counters (T : Tp K mg) : Can P w K mg base 5 "counters" (RX K fun r l => shD (after r l)) := by
  obtain ⟨fd, F⟩ := T.fn_counters
  refine can_of F T.gl_counters sc_counters (fun _ _ _ _ _ _ us hl => match us, hl with | [_, _], _ => rfl) RX_len ?_
  rintro cdv A outer s H E N ds o hr (⟨d, e, C, hd, he, hs, rfl, hc, rfl⟩ | ⟨r, l, h1, h2, rfl, rfl⟩) hx
  · exact gs_cons (g1_exprX (gx_call (can_check_both T) hr (ga_cons (gv 0) (ga_cons (gv 1) ga_nil)) (R_both_bad hd he hs hc) (hx _ rfl) trivial))
  · have hl := logL_len h2
    refine gs_cons (g1_expr (ge_call (can_check_both T) hr (ga_cons (gv 0) (ga_cons (gv 1) ga_nil)) (R_both_ok h1 h2)) ?_)
    exact gs_cons (g1_ret (ge_slT (vl := none) (vh := some 3) (ge_ix (ge_call (can_all_states T) hr (ga_cons (gv 0) (ga_cons (gv 1) ga_nil)) ⟨r, l, by omega, rfl, rfl⟩) (ge_neg ge_int) (x_lst (statesL_last r l))) trivial ge_int (by show ¬ (0 = 0 ∧ 3 = 5); decide)) rfl)
/-! ### is_over -/
def R_is_over : Rel := fun ds o => ∃ r s, ds = [ruD r, sqD s] ∧ o = .ret (.bool (isOver r s))
theorem can_is_over (T : Tp K mg) : Can P w K mg base 1 "is_over" R_is_over := by
  obtain ⟨fd, F⟩ := T.fn_is_over
  refine can_of F T.gl_is_over sc_is_over (fun _ _ _ _ _ _ us hl => match us, hl with | [_, _], _ => rfl) (by rintro ds o ⟨r, s, rfl, rfl⟩; rfl) ?_
  rintro cdv A outer s H E N ds o hr ⟨r, q, rfl, rfl⟩ hx
  exact gs_cons (g1_ret (ge_or (ge_cmp (ge_ix (gv 1) ge_int (x_tup rfl)) (ge_ix (gv 0) ge_int (x_tup rfl)) c_gt) (fun _ => ge_one (ge_cmp (ge_ix (gv 1) ge_int (x_tup rfl)) (ge_ix (gv 0) ge_int (x_tup rfl)) c_gt))) rfl)
/-! ### find_faults -/
def R_find_faults : Rel := fun ds o => ∃ r l, l.length ≤ 1000 ∧ ds = [ruD r, .str (S l)] ∧ o = .ret (intsD (faultsL r l))
theorem can_find_faults (T : Tp K mg) : Can P w K mg base 4 "find_faults" R_find_faults := by
  obtain ⟨fd, F⟩ := T.fn_find_faults
  refine can_of F T.gl_find_faults sc_find_faults (fun _ _ _ _ _ _ us hl => match us, hl with | [_, _], _ => rfl) (by rintro ds o ⟨r, s, _, rfl, rfl⟩; rfl) ?_
  rintro cdv A outer s H E N ds o hr ⟨r, l, hl, rfl, rfl⟩ hx
  have nd := sc_find_faults.nd
  refine gs_cons (g1_set 2 (ge_call (can_all_states T) hr (ga_cons (gv 0) (ga_cons (gv 1) ga_nil)) ⟨r, l, hl, rfl, rfl⟩) ?_ nd)
  have e : intsD (faultsL r l) = .list (l.zipIdx.filterMap fun x => if (decide (x.1 = 68) && isOver r (after r (l.take (x.2 + 1)))) = true then some (.int (x.2 : Nat)) else none) := by
    rw [zipIdx_filterMap l _ (fun i => if badAt r l i = true then some (.int (i : Nat)) else none) (fun i x hx => by
      show (if (decide (x = 68) && isOver r (after r (l.take (i + 1)))) = true then _ else _) = _
      unfold badAt
      rw [hx]
      simp), filterMap_range]
    rfl
  rw [e]
  refine gs_cons (g1_ret (lcF l.zipIdx (fun x => .tuple [.int (x.2 : Nat), .str (S [x.1])]) _ (T := .tp [3, 4]) [("slot", 3), ("sign", 4)] (gi_enumS T.fr_enumerate (ga_cons (gv 1) ga_nil)) nd (by rw [List.length_zipIdx]; omega) (fun _ _ _ _ _ => tg_tp (tgs_cons 3 nd (tgs_cons 4 nd tgs_nil))) fun i x hx => ⟨_, rfl, fun _ _ _ _ _ => ⟨gts_one (gt_is (gt_w (gw_and (gt_cmp (gv 4) (ggS [68] T.cs_DRIVE) c_eqSS) fun _ => gw_and1 (gt_val (ge_call (can_is_over T) hr (ga_cons (gv 0) (ga_cons (ge_ix (gv 2) (ge_bin (gv 3) ge_int b_add) (x_lst ?_)) ga_nil)) ⟨r, after r (l.take (x.2 + 1)), rfl, rfl⟩)))) ?_), fun y hy => ?_⟩⟩) rfl)
  · obtain ⟨e1, e2, e3⟩ := zipIdx_at hx
    have : ((x.2 : Nat) : Int) + 1 = ((x.2 + 1 : Nat) : Int) := by omega
    rw [this]
    exact atI_nat (statesL_at (by omega))
  · cases h : (decide (x.1 = 68) && isOver r (after r (l.take (x.2 + 1)))) <;> simp_all
  · have : y = .int (x.2 : Nat) := by
      cases h : (decide (x.1 = 68) && isOver r (after r (l.take (x.2 + 1)))) <;> simp_all
    subst this
    exact gv 3
/-! ### faults, is_lawful, along -/
end
end Lw

namespace Lw
open PySem PySem.Spec L2 Gd
section
variable {P : Program} {w : World} {K : PySem.W.Frag} {mg : Str -> Option Value} {base : Heap}
/-! ### runs -/
def prD (s : Nat) (n : Int) : PyData := .tuple [.int (s : Nat), .int n]
/-- the runs that are over before i, and the start of the one that is open -/
def rsD (l : List Nat) : Nat -> List PyData × Option Nat
  | 0 => ([], none)
  | i + 1 => match rsD l i with
    | (d, none) => if l[i]? = some 82 then (d, some i) else (d, none)
    | (d, some s) => if l[i]? = some 82 then (d, some s) else (d ++ [prD s ((i : Nat) - (s : Nat))], none)
def opD (i : Nat) : Option Nat -> List PyData
  | none => []
  | some s => [prD s ((i : Nat) - (s : Nat))]
def fdD (l : List Nat) (i : Nat) : List PyData := (rsD l i).1 ++ opD i (rsD l i).2
def runsD (l : List Nat) : PyData := .list (fdD l l.length)
theorem rsD_open {l : List Nat} : forall {i : Nat}, ((rsD l i).2.isSome = true) ↔ (0 < i ∧ l[i - 1]? = some 82)
  | 0 => by simp [rsD]
  | i + 1 => by
    have e : (rsD l (i + 1)).2 = if l[i]? = some 82 then (match (rsD l i).2 with | none => some i | some s => some s) else none := by
      rw [rsD]
      rcases h : rsD l i with ⟨d, o⟩
      by_cases hc : l[i]? = some 82 <;> cases o <;> simp [hc]
    rw [e, Nat.add_sub_cancel]
    by_cases h : l[i]? = some 82
    · rw [if_pos h]
      cases (rsD l i).2 <;> simp [h]
    · rw [if_neg h]
      simp [h]
theorem rsD_len {l : List Nat} : forall {i : Nat}, (rsD l i).1.length + (opD i (rsD l i).2).length ≤ i
  | 0 => by simp [rsD, opD]
  | i + 1 => by
    have ih := rsD_len (l := l) (i := i)
    rw [rsD]
    rcases h : rsD l i with ⟨d, o⟩
    rw [h] at ih
    cases o <;> (dsimp only; split <;> simp_all [opD] <;> omega)
end
end Lw

namespace Lw
open PySem PySem.Spec L2 Gd
/-! ### a logbook in the heap -/
structure Bk where
  r : Ru
  t : List Nat
  e : List (List Nat)
  l : List (List Nat)
/-- where it stands: the object, its dict, both lists, the rules -/
structure BA where
  p : Addr
  dx : Addr
  e : Addr
  l : Addr
  vr : V
def bf (vr : V) (t : List Nat) (e l : Addr) : List (Str × V) := [("rules", vr), ("text", .str (S t)), ("earlier", .ref e), ("later", .ref l)]
def tx (ys : List (List Nat)) : List V := ys.map fun y => .str (S y)
section
variable {vr : V} {t t' : List Nat} {e l e' : Addr}
theorem bf_r : (bf vr t e l).lookup ("rules" : Str) = some vr := by kernel_rfl
theorem bf_t : (bf vr t e l).lookup ("text" : Str) = some (.str (S t)) := by kernel_rfl
theorem bf_e : (bf vr t e l).lookup ("earlier" : Str) = some (.ref e) := by kernel_rfl
theorem bf_l : (bf vr t e l).lookup ("later" : Str) = some (.ref l) := by kernel_rfl
theorem bf_no {m : Str} (h : (m == ("rules" : Str)) = false ∧ (m == ("text" : Str)) = false ∧ (m == ("earlier" : Str)) = false ∧ (m == ("later" : Str)) = false) : (bf vr t e l).lookup m = none := by
  unfold bf
  simp [List.lookup, h.1, h.2.1, h.2.2.1, h.2.2.2]
theorem put_t : putF "text" (.str (S t')) (bf vr t e l) = bf vr t' e l := by kernel_rfl
theorem put_l : putF "later" (.ref e') (bf vr t e l) = bf vr t e e' := by kernel_rfl
theorem put_e : putF "earlier" (.ref e') (bf vr t e l) = bf vr t e' l := by kernel_rfl
theorem put_0 : putF "later" (.ref l) (putF "earlier" (.ref e) (putF "text" (.str (S t)) (putF "rules" vr []))) = bf vr t e l := by kernel_rfl
end
theorem tx_app (ys : List (List Nat)) (y : List Nat) : tx (ys ++ [y]) = tx ys ++ [.str (S y)] := by unfold tx; rw [List.map_append]; rfl
structure BkN (K : PySem.W.Frag) (G H : Hp) (a : BA) (b : Bk) : Prop where
  ins : H a.p = some (.ins (He.ga K "Logbook") a.dx (bf a.vr b.t a.e a.l))
  own : H a.dx = some (.own a.p)
  el : H a.e = some (.lst (tx b.e))
  ll : H a.l = some (.lst (tx b.l))
  gp : G a.p = none
  gd : G a.dx = none
  ge : G a.e = none
  gl : G a.l = none
  ne : a.e ≠ a.l
  ru : Dq K G a.vr (ruD b.r)
theorem BkN.pe {K : PySem.W.Frag} {G H : Hp} {a : BA} {b : Bk} (k : BkN K G H a b) : a.p ≠ a.e := fun z => by
  have := k.ins
  rw [z, k.el] at this
  cases this
theorem BkN.pl {K : PySem.W.Frag} {G H : Hp} {a : BA} {b : Bk} (k : BkN K G H a b) : a.p ≠ a.l := fun z => by
  have := k.ins
  rw [z, k.ll] at this
  cases this
theorem BkN.pd {K : PySem.W.Frag} {G H : Hp} {a : BA} {b : Bk} (k : BkN K G H a b) : a.p ≠ a.dx := fun z => by
  have := k.ins
  rw [z, k.own] at this
  cases this
theorem BkN.de {K : PySem.W.Frag} {G H : Hp} {a : BA} {b : Bk} (k : BkN K G H a b) : a.dx ≠ a.e := fun z => by
  have := k.own
  rw [z, k.el] at this
  cases this
theorem BkN.dl {K : PySem.W.Frag} {G H : Hp} {a : BA} {b : Bk} (k : BkN K G H a b) : a.dx ≠ a.l := fun z => by
  have := k.own
  rw [z, k.ll] at this
  cases this
/-- all that was tracked is kept: so is the book -/
theorem BkN.kept {K : PySem.W.Frag} {G H G' H' : Hp} {a : BA} {b : Bk} (k : BkN K G H a b) (s : Same H H') (g : Same G G') (old : forall x, H x ≠ none -> G' x = G x) : BkN K G' H' a b :=
  ⟨s _ _ k.ins, s _ _ k.own, s _ _ k.el, s _ _ k.ll, by rw [old _ (by rw [k.ins]; exact fun z => nomatch z)]; exact k.gp, by rw [old _ (by rw [k.own]; exact fun z => nomatch z)]; exact k.gd, by rw [old _ (by rw [k.el]; exact fun z => nomatch z)]; exact k.ge, by rw [old _ (by rw [k.ll]; exact fun z => nomatch z)]; exact k.gl, k.ne, k.ru.mono g⟩
/-- behind a change: a the place ahead of it, a' behind it -/
structure Chg (K : PySem.W.Frag) (G H : Hp) (a : BA) (G' H' : Hp) (a' : BA) (b' : Bk) : Prop where
  g : Same G G'
  gh : Same G' H'
  old : forall x, H x ≠ none -> G' x = G x
  keep : forall x u, x ≠ a.p -> x ≠ a.e -> x ≠ a.l -> H x = some u -> H' x = some u
  bk : BkN K G' H' a' b'
  pp : a'.p = a.p ∧ a'.dx = a.dx
  ne : (a'.e = a.e ∨ H a'.e = none) ∧ (a'.l = a.l ∨ H a'.l = none)
  ex : H' a.e ≠ none ∧ H' a.l ≠ none
theorem Chg.ext {K : PySem.W.Frag} {G H G' H' G2 H2 : Hp} {a a' : BA} {b' : Bk} (c : Chg K G H a G' H' a' b') (e : Ext G' H' G2 H2) : Chg K G H a G2 H2 a' b' := by
  have up : forall x, H x ≠ none -> H' x ≠ none := fun x hx hz => by
    cases e1 : H x with
    | none => exact hx e1
    | some u =>
      by_cases h1 : x = a.p
      · rw [h1, ← c.pp.1, c.bk.ins] at hz
        cases hz
      · by_cases h2 : x = a.e
        · rw [h2] at hz; exact c.ex.1 hz
        · by_cases h3 : x = a.l
          · rw [h3] at hz; exact c.ex.2 hz
          · rw [c.keep x u h1 h2 h3 e1] at hz
            cases hz
  refine ⟨c.g.trans e.g, e.gh, fun x hx => by rw [e.old x (up x hx), c.old x hx], fun x u h1 h2 h3 hx => e.h _ _ (c.keep x u h1 h2 h3 hx), c.bk.kept e.h e.g e.old, c.pp, c.ne, ?_, ?_⟩
  · intro hz
    cases q : H' a.e with
    | none => exact c.ex.1 q
    | some u => rw [e.h _ _ q] at hz; cases hz
  · intro hz
    cases q : H' a.l with
    | none => exact c.ex.2 q
    | some u => rw [e.h _ _ q] at hz; cases hz
/-- the cell of the name that holds the book: what is true of the heap -/
def phB (K : PySem.W.Frag) (a : BA) (b : Bk) : Hp -> Prop := fun G0 => G0 a.p = some (.ins (He.ga K "Logbook") a.dx (bf a.vr b.t a.e a.l)) ∧ G0 a.e = some (.lst (tx b.e)) ∧ G0 a.l = some (.lst (tx b.l)) ∧ Dq K G0 a.vr (ruD b.r)
theorem dq_tx {K : PySem.W.Frag} {G : Hp} : forall ys : List (List Nat), DqAll K G (tx ys) (ys.map fun y => .str (S y))
  | [] => .nil
  | _ :: ys => .cons (.str _) (dq_tx ys)
abbrev cxM (P : Program) (w : World) (K : PySem.W.Frag) (mg : Str -> Option Value) (base : Heap) (Nm : List Str) (qual : Str) (st : Stmt) (f : Addr) (cdv : Value) (A : Around) (outer : List Env) (s : Shared) (H : Hp) (E : XK) : Cx := cxOf (L2.CX P w) P w K mg base Nm qual (defScope st) f cdv A outer s H E
theorem takesM {P : Program} {w : World} {K : PySem.W.Frag} {mg : Str -> Option Value} {base : Heap} {Nm : List Str} {qual : Str} {st : Stmt} {f : Addr} {cdv : Value} {A : Around} {outer : List Env} {s : Shared} {H : Hp} {E : XK} : Takes (cxM P w K mg base Nm qual st f cdv A outer s H E) (fun cls d _ H' => E cls d H') := takes_of rfl rfl rfl rfl
section
variable {P : Program} {w : World} {K : PySem.W.Frag} {mg : Str -> Option Value} {base : Heap}
/-- the state of a method that reads: all that is tracked stays -/
theorem sta_self {H : Hp} {a : BA} {b : Bk} {G : Hp} (gh : Same G H) (k : BkN K G H a b) {Nm : List Str} {cs : List Cell} {vs : List V} (hl : cs.length = vs.length) (hN : vs.length < Nm.length) (no : forall (i : Nat) (x : Own), cs[i]? ≠ some (Cell.owx x)) (hc : forall (i : Nat) (c : Cell) (v : V), cs[i]? = some c -> vs[i]? = some v -> CellOk K H H (some v) c) :
    Sta K H H (L2.start Nm (.ref a.p :: vs)) (.pin (.ref a.p) (phB K a b) :: (cs ++ List.replicate (Nm.length - 1 - cs.length) .any)) := by
  have f := fr_start (K := K) (G := H) (H := H) (Nm := Nm) (vs := .ref a.p :: vs) (cs := .pin (.ref a.p) (phB K a b) :: cs) (Same.refl H) (by simp [hl]) (by simp; omega) (fun i x h => by
    cases i with
    | zero => cases h
    | succ i => exact no i x (by simpa using h)) (fun i c v h1 h2 => by
    cases i with
    | zero =>
      cases h1
      cases h2
      refine ⟨rfl, noT H, fun x u e => (noT_some e).1, fun x ps e => (noT_some e).2 ps rfl, ⟨noT_of k.ins (fun ps z => nomatch z), noT_of k.el (fun ps z => nomatch z), noT_of k.ll (fun ps z => nomatch z), ?_⟩⟩
      exact (k.ru.mono gh).less fun x u e => by
        by_cases ht : ∃ ps, u = .tbl ps
        · exact .inr (.inr ht)
        · exact .inl (noT_of e fun ps y => ht ⟨ps, y⟩)
    | succ i => exact hc i c v (by simpa using h1) (by simpa using h2))
  obtain ⟨G', e1, sp, st, _⟩ := f
  have eG : G' = H := by
    funext x
    cases q : H x with
    | some u => exact e1.g x u q
    | none =>
      cases q2 : G' x with
      | none => rfl
      | some u =>
        have := e1.gh x u q2
        rw [q] at this
        cases this
  rw [eG] at st
  have el : Nm.length - (Cell.pin (.ref a.p) (phB K a b) :: cs).length = Nm.length - 1 - cs.length := by simp only [List.length_cons]; omega
  rw [el] at st
  exact st
end
end Lw

namespace Lw
open PySem PySem.Spec L2 Gd
theorem twp_raise {X : Cx} {D : Ends} {σ : L2.St} {H : Hp} {x m : Str} {j : Nat} {p p2 p3 pos : Pos} {C : Addr} {W : WX} (T : ExT X.K X.mg x C) (tk : Takes X W) (h : W (.ref C) none σ H) (hc : X.calm = true := by rfl) (hg : Gl X x := by rfl) (hdb : (x == ("__debug__" : Str)) = false := by decide) : twp X (.Raise (some (.Call (.Name x p) [.Constant (.str m) j p2] [] p3)) none pos) D σ H :=
  twp_of (ps_raise hc tk (pmk_own PySem.F.excBase_ValueError T.ex T.gl T.kp (raises_own T.sb T.ty) hg hdb)) h
section
variable {P : Program} {w : World} {K : PySem.W.Frag} {mg : Str -> Option Value} {base : Heap}
/-- a book that is not too great -/
structure bsz (b : Bk) : Prop where
  r : isRules (ruD b.r) = true
  t : isLogL b.t = true
  e : forall y, y ∈ b.e -> isLogL y = true
  l : forall y, y ∈ b.l -> isLogL y = true
theorem log60 {l : List Nat} (h : isLogL l = true) : l.length ≤ 60 ∧ (forall c, c ∈ l -> c < 1114112) := by
  unfold isLogL at h
  rw [Bool.and_eq_true, decide_eq_true_eq, List.all_eq_true] at h
  refine ⟨by omega, fun c hc => ?_⟩
  have := h.2 c hc
  simp [isSg] at this
  omega
theorem phB_of {G0 : Hp} {a : BA} {b : Bk} (h : phB K a b G0) (T : Tp K mg) : (∃ C dx fs v, G0 a.p = some (.ins C dx fs) ∧ Cls K C ∧ NoAttr K C "text" ∧ fs.lookup ("text" : Str) = some v ∧ Dq K G0 v (.str (S b.t))) ∧ (∃ C dx fs v, G0 a.p = some (.ins C dx fs) ∧ Cls K C ∧ NoAttr K C "rules" ∧ fs.lookup ("rules" : Str) = some v ∧ Dq K G0 v (ruD b.r)) ∧
    (∃ C dx fs v, G0 a.p = some (.ins C dx fs) ∧ Cls K C ∧ NoAttr K C "earlier" ∧ fs.lookup ("earlier" : Str) = some v ∧ Dq K G0 v (.list (b.e.map fun y => .str (S y)))) ∧ (∃ C dx fs v, G0 a.p = some (.ins C dx fs) ∧ Cls K C ∧ NoAttr K C "later" ∧ fs.lookup ("later" : Str) = some v ∧ Dq K G0 v (.list (b.l.map fun y => .str (S y)))) :=
  ⟨⟨_, _, _, _, h.1, T.cl_Logbook, T.na_Logbook_text, bf_t, .str _⟩, ⟨_, _, _, _, h.1, T.cl_Logbook, T.na_Logbook_rules, bf_r, h.2.2.2⟩, ⟨_, _, _, _, h.1, T.cl_Logbook, T.na_Logbook_earlier, bf_e, .lst h.2.1 (dq_tx _)⟩, ⟨_, _, _, _, h.1, T.cl_Logbook, T.na_Logbook_later, bf_l, .lst h.2.2.1 (dq_tx _)⟩⟩
/-! ### change -/
def spChange (K : PySem.W.Frag) : Sp := fun vs H Q E => ∃ (G : Hp) (a : BA) (b : Bk) (m : List Nat), vs = [.ref a.p, .str (S m)] ∧ Same G H ∧ BkN K G H a b ∧ bsz b ∧ m.length ≤ 1000 ∧
  if b.t.length + m.length ≤ 60 then b.e.length < 1000 ∧ forall G' H' a', Chg K G H a G' H' a' ⟨b.r, b.t ++ m, b.e ++ [b.t], []⟩ -> Q .non H' else forall H', Same H H' -> E (.ref (He.ga K "TooLong")) none H'
theorem ok_change (T : Tp K mg) : ∃ fd, Binds K fd ["self", "more"] [] ∧ FnOk P w K mg base (L2.CX P w) 1 (He.ma K (He.ga K "Logbook") "change") fd ["self", "more"] (spChange K) := by
  obtain ⟨fd, F⟩ := T.fm_Logbook_change
  refine ⟨fd, F.bindsN (ps := ["self", "more"]) (fun _ _ _ _ _ _ us hl => match us, hl with | [_, _], _ => rfl), F.ok sc_Logbook_change (by rintro vs H Q E ⟨_, _, _, _, rfl, _⟩; rfl) ?_⟩
  rintro cdv A outer s H vs Q E hr ⟨G, a, b, m, rfl, gh, k, hb, hm, hq⟩
  refine ⟨tws _ _, pss_tw, ?_⟩
  have hbt := (log60 hb.t).1
  have sta := sta_self (Nm := n_Logbook_change) gh k (cs := [.dat (.str (S m))]) (vs := [.str (S m)]) rfl (by show 1 < 2; decide) (fun i x h => by
    match i with
    | 0 => cases h
    | i + 1 => cases h) (fun i c v h1 h2 => by
    match i with
    | 0 =>
      cases h1
      cases h2
      exact ⟨_, rfl, .str _⟩
    | i + 1 => cases h1)
  have ek : decide ((60 : Int) < (b.t.length : Nat) + (m.length : Nat)) = !decide (b.t.length + m.length ≤ 60) := by
    rw [Bool.eq_iff_iff, decide_eq_true_eq, Bool.not_eq_true', decide_eq_false_iff_not]
    omega
  have cond : GT (cxM P w K mg base n_Logbook_change "Logbook.change" s_Logbook_change (He.ma K (He.ga K "Logbook") "change") cdv A outer s H E) (match defBody s_Logbook_change with | .If c _ _ _ :: _ => c | _ => .Constant .none 0 ⟨0, 0, 0, 0⟩) [.pin (.ref a.p) (phB K a b), .dat (.str (S m))] (!decide (b.t.length + m.length ≤ 60)) :=
    gt_is (gt_cmp (ge_bin (ge_lenS T.fr_len (ge_fldP 0 fun G0 h => (phB_of h T).1) (by omega)) (ge_lenS T.fr_len (gv 1) (by omega)) b_add) (gg_int T.ci_MAX_LOG) c_gt) ek
  refine tws_cons (twp_if (cond _ H H _ sta fun G1 H1 e1 => ?_))
  have s1 : Same H H1 := e1.h
  by_cases hle : b.t.length + m.length ≤ 60
  · rw [if_pos hle] at hq
    rw [decide_eq_true hle]
    refine tws_nil ?_
    have h1p := s1 _ _ k.ins
    have h1e := s1 _ _ k.el
    have h1l := s1 _ _ k.ll
    have npe := k.pe
    have npl := k.pl
    have nde := k.de
    have ndl := k.dl
    have npd := k.pd
    refine tws_cons (twp_of (ps_expr (pe_bm PySem.F.plainAttrs_list PySem.F.slot_list_append PySem.F.type_list_append mt_append (pe_fld (pv 0) rfl) (pa_cons (pe_fld (pv 0) rfl) pa_nil))) ?_)
    refine ⟨_, rfl, a.p, _, a.dx, _, _, rfl, h1p, T.cl_Logbook, T.na_Logbook_earlier, bf_e, .inl ⟨rfl, _, SqL.of h1e⟩, _, rfl, a.p, _, a.dx, _, _, rfl, h1p, T.cl_Logbook, T.na_Logbook_text, bf_t, a.e, _, _, rfl, rfl, h1e, by unfold tx; rw [List.length_map]; exact Nat.lt_of_lt_of_le hq.1 (by decide), ?_⟩
    refine tws_cons (twp_of (ps_fld (pv 0) (pe_lst pa_nil) rfl) ?_)
    refine ⟨Nat.zero_le _, fun l' hl' => ?_⟩
    have ep : a.p ≠ l' := fun z => by rw [← z, upd_ne npe, h1p] at hl'; cases hl'
    have ee : a.e ≠ l' := fun z => by rw [← z, upd_same] at hl'; cases hl'
    have hl1 : H1 l' = none := by rwa [upd_ne (Ne.symm ee)] at hl'
    have hl0 : H l' = none := s1.free hl1
    have ed : a.dx ≠ l' := fun z => by rw [← z, k.own] at hl0; cases hl0
    have el : a.l ≠ l' := fun z => by rw [← z, k.ll] at hl0; cases hl0
    refine ⟨_, rfl, a.p, _, a.dx, _, rfl, by rw [upd_ne ep, upd_ne npe]; exact h1p, T.cl_Logbook, T.na_Logbook_later, by show 4 < 1000; decide, ?_⟩
    refine tws_cons (twp_of (ps_fld (pv 0) (pe_op op_add_str (pe_fld (pv 0) rfl) (pv 1)) rfl) ?_)
    refine ⟨_, rfl, a.p, _, a.dx, _, _, rfl, upd_same, T.cl_Logbook, T.na_Logbook_text, by rw [put_l]; exact bf_t, _, rfl, _, _, rfl, rfl, by rw [S_len, S_len]; exact Nat.le_trans hle (by decide), _, rfl, a.p, _, a.dx, _, rfl, upd_same, T.cl_Logbook, T.na_Logbook_text, by rw [put_l]; show 4 < 1000; decide, tws_nil ?_⟩
    rw [put_l, S_app, put_t]
    refine hq.2 G _ ⟨a.p, a.dx, a.e, l', a.vr⟩ ⟨Same.refl G, fun x u e => ?_, fun _ _ => rfl, fun x u n1 n2 n3 e => ?_, ⟨upd_same, ?_, ?_, ?_, k.gp, k.gd, k.ge, gh.free hl0, ee, k.ru⟩, ⟨rfl, rfl⟩, ⟨.inl rfl, .inr hl0⟩, ?_, ?_⟩
    · have n1 : x ≠ a.p := ne_of_none e k.gp
      have n2 : x ≠ a.e := ne_of_none e k.ge
      have n3 : x ≠ l' := ne_of_none e (gh.free hl0)
      rw [upd_ne n1, upd_ne n1, upd_ne n3, upd_ne n2]
      exact s1 _ _ (gh _ _ e)
    · have n4 : x ≠ l' := ne_of_none e hl0
      rw [upd_ne n1, upd_ne n1, upd_ne n4, upd_ne n2]
      exact s1 _ _ e
    · show upd _ a.p _ a.dx = _
      rw [upd_ne npd.symm, upd_ne npd.symm, upd_ne ed, upd_ne nde]
      exact s1 _ _ k.own
    · show upd _ a.p _ a.e = _
      rw [upd_ne npe.symm, upd_ne npe.symm, upd_ne ee, upd_same, tx_app]
    · show upd _ a.p _ l' = _
      rw [upd_ne (Ne.symm ep), upd_ne (Ne.symm ep), upd_same]
      rfl
    · rw [upd_ne npe.symm, upd_ne npe.symm, upd_ne ee, upd_same]
      exact fun z => nomatch z
    · rw [upd_ne npl.symm, upd_ne npl.symm, upd_ne el, upd_ne k.ne.symm, h1l]
      exact fun z => nomatch z
  · rw [if_neg hle] at hq
    rw [decide_eq_false hle]
    exact tws_cons (twp_raise T.ex_TooLong takesM (hq H1 s1))
end
end Lw

namespace Lw
open PySem PySem.Spec L2 Gd
/-! ### what states keep -/
theorem restOnce_ru (r : Ru) (s : Sq) : (restOnce r s).ru = if r.ni < s.ru + 1 then r.ni else s.ru + 1 := rfl
theorem rest_st (r : Ru) (s : Sq) : (restOnce r s).st = if decide (r.pa ≤ (restOnce r s).ru) = true then 0 else if (decide (0 < r.sp) && (s.mar && decide (r.pa - r.sp ≤ (restOnce r s).ru))) = true then 0 else s.st := rfl
theorem rest_mar (r : Ru) (s : Sq) : (restOnce r s).mar = if decide (r.pa ≤ (restOnce r s).ru) = true then false else if (decide (0 < r.sp) && (s.mar && decide (r.pa - r.sp ≤ (restOnce r s).ru))) = true then false else s.mar := rfl
theorem rest_da (r : Ru) (s : Sq) : (restOnce r s).da = if r.ni ≤ (restOnce r s).ru then 0 else s.da := rfl
structure Sane (r : Ru) (s : Sq) : Prop where
  st : 0 ≤ s.st
  da : 0 ≤ s.da
  ru : 0 ≤ s.ru
  rn : s.ru ≤ r.ni
theorem sane0 {r : Ru} (v : VR r) : Sane r start0 := by
  have := v.n1
  have := v.p1
  exact ⟨by decide, by decide, by decide, by show (0 : Int) ≤ r.ni; omega⟩
theorem sane_step {r : Ru} (v : VR r) {s : Sq} (h : Sane r s) (c : Nat) : Sane r (stepF r s c) := by
  have v1 := v.n1
  have v2 := v.p1
  obtain ⟨a, b, d, e⟩ := h
  unfold stepF
  split
  · refine ⟨?_, ?_, ?_, ?_⟩
    · rw [rest_st]
      split
      · omega
      · split <;> omega
    · rw [rest_da]
      split <;> omega
    · rw [restOnce_ru]
      split <;> omega
    · rw [restOnce_ru]
      split <;> omega
  · split
    · exact ⟨by show 0 ≤ s.st + 1; omega, by show 0 ≤ s.da + 1; omega, by show (0 : Int) ≤ 0; omega, by show (0 : Int) ≤ r.ni; omega⟩
    · exact ⟨a, b, by show (0 : Int) ≤ 0; omega, by show (0 : Int) ≤ r.ni; omega⟩
theorem sane_fold {r : Ru} (v : VR r) : forall (l : List Nat) (s : Sq), Sane r s -> Sane r (l.foldl (stepF r) s)
  | [], _, h => h
  | c :: l, s, h => sane_fold v l _ (sane_step v h c)
theorem sane_after {r : Ru} (v : VR r) (l : List Nat) : Sane r (after r l) := sane_fold v l _ (sane0 v)
/-- no marks without split pauses -/
theorem mar_step {r : Ru} (h : r.sp = 0) {s : Sq} (m : s.mar = false) (c : Nat) : (stepF r s c).mar = false := by
  unfold stepF
  split
  · rw [rest_mar]
    split
    · rfl
    · split
      · rfl
      · exact m
  · split
    · show (s.mar || (decide (0 < r.sp) && _)) = false
      rw [m, h]
      rfl
    · show (s.mar || (decide (0 < r.sp) && _)) = false
      rw [m, h]
      rfl
theorem mar_fold {r : Ru} (h : r.sp = 0) : forall (l : List Nat) (s : Sq), s.mar = false -> (l.foldl (stepF r) s).mar = false
  | [], _, m => m
  | c :: l, s, m => mar_fold h l _ (mar_step h m c)
theorem mar_after {r : Ru} (h : r.sp = 0) (l : List Nat) : (after r l).mar = false := mar_fold h l _ rfl
/-! ### one step's counters -/
theorem st_drive (r : Ru) (s : Sq) : (stepF r s 68).st = s.st + 1 ∧ (stepF r s 68).da = s.da + 1 := ⟨rfl, rfl⟩
theorem st_other {r : Ru} {s : Sq} {c : Nat} (h : c ≠ 68) : ((stepF r s c).st = 0 ∨ (stepF r s c).st = s.st) ∧ ((stepF r s c).da = 0 ∨ (stepF r s c).da = s.da) := by
  unfold stepF
  split
  · constructor
    · rw [rest_st]
      split
      · exact .inl rfl
      · split
        · exact .inl rfl
        · exact .inr rfl
    · rw [rest_da]
      split
      · exact .inl rfl
      · exact .inr rfl
  · exact ⟨.inr rfl, .inr rfl⟩
theorem st_work {r : Ru} {s : Sq} {c : Nat} (h : c ≠ 68) (h2 : c ≠ 82) : (stepF r s c).st = s.st ∧ (stepF r s c).da = s.da := by
  unfold stepF
  rw [if_neg h2, if_neg h]
  exact ⟨rfl, rfl⟩
theorem ru_other {r : Ru} {s : Sq} {c : Nat} (h2 : c ≠ 82) : (stepF r s c).ru = 0 := by
  unfold stepF
  rw [if_neg h2]
  split <;> rfl
/-! ### rests in a row -/
def rests (r : Ru) (q : Sq) : Nat -> Sq
  | 0 => q
  | n + 1 => restOnce r (rests r q n)
theorem restOnce_pause {r : Ru} {s : Sq} (h : r.pa ≤ (restOnce r s).ru) : (restOnce r s).st = 0 ∧ (restOnce r s).mar = false := by
  rw [rest_st, rest_mar, decide_eq_true h]
  exact ⟨rfl, rfl⟩
theorem restOnce_night {r : Ru} {s : Sq} (h : r.ni ≤ (restOnce r s).ru) : (restOnce r s).da = 0 := by
  rw [rest_da, if_pos h]
theorem restOnce_short {r : Ru} {s : Sq} (h : (restOnce r s).ru < r.ni) : (restOnce r s).da = s.da := by
  rw [rest_da, if_neg (by omega)]
theorem rests_ru {r : Ru} (v : VR r) {q : Sq} (h : q.ru = 0) : forall n : Nat, (rests r q n).ru = if r.ni < (n : Int) then r.ni else n
  | 0 => by
    have := v.n1
    have := v.p1
    rw [if_neg (by omega)]
    exact h
  | n + 1 => by
    have ih := rests_ru v h n
    show (restOnce r (rests r q n)).ru = _
    rw [restOnce_ru, ih]
    split <;> (split <;> (split <;> omega))
theorem rests_da {r : Ru} (v : VR r) {q : Sq} (h : q.ru = 0) : forall n : Nat, (n : Int) < r.ni -> (rests r q n).da = q.da
  | 0, _ => rfl
  | n + 1, hn => by
    have e := rests_ru v h (n + 1)
    rw [if_neg (by omega)] at e
    have e2 : (rests r q (n + 1)).da = (rests r q n).da := restOnce_short (by show (rests r q (n + 1)).ru < _; rw [e]; exact hn)
    rw [e2]
    exact rests_da v h n (by omega)
theorem rests_pause {r : Ru} (v : VR r) {q : Sq} (h : q.ru = 0) {n : Nat} (hn : r.pa ≤ (n : Int)) : (rests r q n).st = 0 ∧ (rests r q n).mar = false := by
  have p := v.p1
  have p2 := v.n1
  cases n with
  | zero => omega
  | succ n =>
    have e := rests_ru v h (n + 1)
    refine restOnce_pause (r := r) (s := rests r q n) ?_
    show r.pa ≤ (rests r q (n + 1)).ru
    rw [e]
    split <;> omega
theorem rests_night {r : Ru} (v : VR r) {q : Sq} (h : q.ru = 0) {n : Nat} (hn : r.ni ≤ (n : Int)) : (rests r q n).da = 0 := by
  have p := v.p1
  have p2 := v.n1
  cases n with
  | zero => omega
  | succ n =>
    have e := rests_ru v h (n + 1)
    refine restOnce_night (r := r) (s := rests r q n) ?_
    show r.ni ≤ (rests r q (n + 1)).ru
    rw [e]
    split <;> omega
theorem rests_low {r : Ru} {q : Sq} (h : 0 ≤ q.ru) : forall n : Nat, r.ni ≤ (rests r q n).ru ∨ (n : Int) ≤ (rests r q n).ru
  | 0 => .inr h
  | n + 1 => by
    have ih := rests_low (r := r) h n
    have e : (rests r q (n + 1)).ru = if r.ni < (rests r q n).ru + 1 then r.ni else (rests r q n).ru + 1 := rfl
    rw [e]
    split <;> omega
theorem rests_all {r : Ru} (v : VR r) {q : Sq} (h : 0 ≤ q.ru) {n : Nat} (hn : (n : Int) = r.ni) : (rests r q n).st = 0 ∧ (rests r q n).da = 0 := by
  have p := v.p1
  have p2 := v.n1
  have lo := rests_low (r := r) h n
  cases n with
  | zero => omega
  | succ n => exact ⟨(restOnce_pause (r := r) (s := rests r q n) (by show r.pa ≤ (rests r q (n + 1)).ru; omega)).1, restOnce_night (r := r) (s := rests r q n) (by show r.ni ≤ (rests r q (n + 1)).ru; omega)⟩
theorem after_rests {r : Ru} {l : List Nat} {s : Nat} : forall n : Nat, (forall j, s ≤ j -> j < s + n -> l[j]? = some 82) -> after r (l.take (s + n)) = rests r (after r (l.take s)) n
  | 0, _ => rfl
  | n + 1, h => by
    have e := h (s + n) (by omega) (by omega)
    rw [show s + (n + 1) = s + n + 1 by omega, after_take e, after_rests n fun j a b => h j a (by omega)]
    rfl
theorem after_app_rests (r : Ru) (l : List Nat) : forall n : Nat, after r (l ++ List.replicate n 82) = rests r (after r l) n
  | 0 => by
    rw [List.replicate_zero, List.append_nil]
    rfl
  | n + 1 => by
    rw [List.replicate_succ', ← List.append_assoc, after_snoc, after_app_rests r l n]
    rfl
theorem ru_start {r : Ru} {l : List Nat} {s : Nat} (hs : s ≤ l.length) (h : s = 0 ∨ l[s - 1]? ≠ some 82) : (after r (l.take s)).ru = 0 := by
  cases s with
  | zero => rfl
  | succ s =>
    have hlt : s < l.length := by omega
    have hg : l[s]? = some l[s] := List.getElem?_eq_getElem hlt
    rw [after_take hg]
    refine ru_other fun z => ?_
    rcases h with h | h
    · omega
    · rw [Nat.add_sub_cancel, hg, z] at h
      exact h rfl
/-! ### faults of a beginning -/
theorem mem_faults {r : Ru} {l : List Nat} {i : Nat} : i ∈ faultsL r l ↔ badAt r l i = true := by
  unfold faultsL
  rw [List.mem_filter, List.mem_range]
  constructor
  · exact fun h => h.2
  · intro h
    refine ⟨?_, h⟩
    unfold badAt at h
    have := (Bool.and_eq_true_iff.mp h).1
    have := of_decide_eq_true this
    exact (List.getElem?_eq_some_iff.mp this).1
theorem badAt_take {r : Ru} {l : List Nat} {i n : Nat} (h : i < n) : badAt r (l.take n) i = badAt r l i := by
  unfold badAt
  rw [List.getElem?_take, if_pos h, List.take_take, show min (i + 1) n = i + 1 by omega]
theorem range_lt {n m : Nat} (h : n ≤ m) (f : Nat -> Bool) : (List.range m).filter (fun i => f i && decide (i < n)) = (List.range n).filter f := by
  obtain ⟨k, rfl⟩ : ∃ k, m = n + k := ⟨m - n, by omega⟩
  rw [List.range_add, List.filter_append]
  have e2 : ((List.range k).map (n + ·)).filter (fun i => f i && decide (i < n)) = [] := by
    rw [List.filter_eq_nil_iff]
    intro i hi
    obtain ⟨j, _, rfl⟩ := List.mem_map.mp hi
    simp
  rw [e2, List.append_nil]
  refine List.filter_congr fun i hi => ?_
  rw [decide_eq_true (List.mem_range.mp hi), Bool.and_true]
theorem faults_take (r : Ru) (l : List Nat) {n : Nat} (h : n ≤ l.length) : faultsL r (l.take n) = (faultsL r l).filter fun i => decide (i < n) := by
  unfold faultsL
  rw [List.length_take, show min n l.length = n by omega, List.filter_filter]
  rw [← range_lt h]
  refine List.filter_congr fun i hi => ?_
  by_cases hlt : i < n
  · rw [badAt_take hlt, Bool.and_comm]
  · rw [decide_eq_false hlt, Bool.and_false, Bool.false_and]
/-! ### rest in place of a slot, looser rules, without split pauses -/
structure Below (r' : Ru) (s' s : Sq) : Prop where
  st : s'.st ≤ s.st
  da : s'.da ≤ s.da
  ru : s.ru ≤ s'.ru ∨ r'.ni ≤ s'.ru
  m' : s'.mar = false
  mm : s.mar = false
structure Loose (r r' : Ru) : Prop where
  v : VR r
  v' : VR r'
  sp : r.sp = 0
  sp' : r'.sp = 0
  st : r.st ≤ r'.st
  da : r.da ≤ r'.da
  pa : r'.pa ≤ r.pa
  ni : r'.ni ≤ r.ni
theorem plain_st {r : Ru} (h : r.sp = 0) (s : Sq) : (restOnce r s).st = if r.pa ≤ (restOnce r s).ru then 0 else s.st := by
  rw [rest_st, h]
  have e : forall x : Bool, (decide ((0 : Int) < 0) && x) = false := fun _ => rfl
  rw [e, if_neg Bool.false_ne_true]
  by_cases hp : r.pa ≤ (restOnce r s).ru
  · rw [decide_eq_true hp, if_pos rfl, if_pos hp]
  · rw [decide_eq_false hp, if_neg Bool.false_ne_true, if_neg hp]
theorem below_step {r r' : Ru} (q : Loose r r') {s s' : Sq} (hs : Sane r s) (hs' : Sane r' s') (b : Below r' s' s) {c c' : Nat} (hc : c' = c ∨ c' = 82) : Below r' (stepF r' s' c') (stepF r s c) := by
  have v1 := q.v'.n1
  have v2 := q.v'.p1
  have w1 := q.pa
  have w2 := q.ni
  obtain ⟨a1, a2, a3, a4⟩ := hs
  obtain ⟨c1, c2, c3, c4⟩ := hs'
  have m1 := mar_step q.sp' b.m' c'
  have m2 := mar_step q.sp b.mm c
  obtain ⟨b1, b2, b3, _, _⟩ := b
  refine ⟨?_, ?_, ?_, m1, m2⟩
  all_goals
    by_cases h82 : c' = 82
    · subst h82
      have e' : stepF r' s' 82 = restOnce r' s' := rfl
      rw [e']
      have f1 := plain_st q.sp' s'
      have f2 := rest_da r' s'
      have f3 := restOnce_ru r' s'
      by_cases hc82 : c = 82
      · subst hc82
        have e : stepF r s 82 = restOnce r s := rfl
        rw [e]
        have g1 := plain_st q.sp s
        have g2 := rest_da r s
        have g3 := restOnce_ru r s
        generalize restOnce r' s' = z' at *
        generalize restOnce r s = z at *
        first
          | (rw [f1, g1]; split at f3 <;> split at g3 <;> (split <;> (split <;> omega)))
          | (rw [f2, g2]; split at f3 <;> split at g3 <;> (split <;> (split <;> omega)))
          | (split at f3 <;> split at g3 <;> omega)
      · have g3 : (stepF r s c).ru = 0 := ru_other hc82
        have g4 : s.st ≤ (stepF r s c).st ∧ s.da ≤ (stepF r s c).da := by
          by_cases h68 : c = 68
          · subst h68
            have := st_drive r s
            omega
          · have := st_work (r := r) (s := s) h68 hc82
            omega
        generalize restOnce r' s' = z' at *
        first
          | (rw [f1]; split <;> omega)
          | (rw [f2]; split <;> omega)
          | (rw [g3]; split at f3 <;> omega)
    · obtain rfl : c' = c := hc.resolve_right h82
      have g3 : (stepF r s c').ru = 0 := ru_other h82
      have g4 : (stepF r' s' c').ru = 0 := ru_other h82
      by_cases h68 : c' = 68
      · subst h68
        have := st_drive r s
        have := st_drive r' s'
        omega
      · have := st_work (r := r) (s := s) h68 h82
        have := st_work (r := r') (s := s') h68 h82
        omega
theorem below_after {r r' : Ru} (q : Loose r r') {l l' : List Nat} (hl : l'.length = l.length) (h : forall i : Nat, l'[i]? = l[i]? ∨ l'[i]? = some 82) : forall i : Nat, i ≤ l.length -> Below r' (after r' (l'.take i)) (after r (l.take i))
  | 0, _ => ⟨Int.le_refl 0, Int.le_refl 0, .inl (Int.le_refl 0), rfl, rfl⟩
  | i + 1, hi => by
    have e1 : l[i]? = some l[i] := List.getElem?_eq_getElem (by omega)
    have hlt : i < l'.length := by omega
    have e2 : l'[i]? = some l'[i] := List.getElem?_eq_getElem hlt
    rw [after_take e1, after_take e2]
    refine below_step q (sane_after q.v _) (sane_after q.v' _) (below_after q hl h i (by omega)) ?_
    have := h i
    rw [e1, e2] at this
    simpa using this
theorem loose_lawful {r r' : Ru} (q : Loose r r') {l l' : List Nat} (hl : l'.length = l.length) (h : forall i : Nat, l'[i]? = l[i]? ∨ l'[i]? = some 82) (hf : faultsL r l = []) : faultsL r' l' = [] := by
  refine List.eq_nil_iff_forall_not_mem.mpr fun i hi => ?_
  have hb := mem_faults.mp hi
  have hn : ¬ i ∈ faultsL r l := by rw [hf]; exact List.not_mem_nil
  refine hn (mem_faults.mpr ?_)
  unfold badAt at hb ⊢
  obtain ⟨h1, h2⟩ := Bool.and_eq_true_iff.mp hb
  have h1 := of_decide_eq_true h1
  have hlt := (List.getElem?_eq_some_iff.mp h1).1
  have e : l[i]? = some 68 := by
    rcases h i with z | z
    · rw [← z]; exact h1
    · rw [h1] at z; cases z
  have b := below_after q hl h (i + 1) (by omega)
  rw [decide_eq_true e, Bool.true_and]
  unfold isOver at h2 ⊢
  have w1 := q.st
  have w2 := q.da
  have b1 := b.st
  have b2 := b.da
  rcases Bool.or_eq_true_iff.mp h2 with z | z
  · have z := of_decide_eq_true z
    rw [decide_eq_true (by omega)]
    rfl
  · have z := of_decide_eq_true z
    rw [Bool.or_eq_true_iff]
    exact .inr (decide_eq_true (by omega))
end Lw

namespace Lw
open PySem PySem.Spec L2 Gd
/-! ### written lists in pieces, lists of truth values, data that may be compared -/
def slc (L : List PyData) (o n : Nat) : PyData := .list ((L.drop o).take n)
theorem slc_cat {X : Cx} {L : List PyData} {o a p n m : Nat} (hl : L.length ≤ 1000) (hp : p = o + a) (h : m = a + n) : BinD X .Add (slc L o a) (slc L p n) (slc L o m) := by
  subst h hp
  have e : slc L o (a + n) = .list ((L.drop o).take a ++ (L.drop (o + a)).take n) := by
    unfold slc
    rw [List.take_add, List.drop_drop]
  rw [e]
  refine b_cat ?_
  rw [List.length_take, List.length_take, List.length_drop, List.length_drop]
  omega
def boolsD (bs : List Bool) : PyData := .list (bs.map .bool)
theorem sh_bools (bs : List Bool) : shap (boolsD bs) = true := shap_of 1 (shN_list bs fun _ _ => rfl)
theorem bools_rep (b : Bool) (n : Int) : PyData.list (List.replicate n.toNat [PyData.bool b]).flatten = boolsD (List.replicate n.toNat b) := by
  unfold boolsD
  congr 1
  induction n.toNat with
  | zero => rfl
  | succ n ih => rw [List.replicate_succ, List.flatten_cons, ih, List.replicate_succ, List.map_cons]; rfl
theorem ge_bools {X : Cx} {ρ : Rho} {a b : Expr} {pos p1 : Pos} {n : Int} {bb : Bool} (ha : GE X (.List [a] p1) ρ (.list [.bool bb])) (hb : GE X b ρ (.int n)) (h0 : 0 ≤ n) (h1 : n ≤ 100000) : GE X (.BinOp (.List [a] p1) .Mult b pos) ρ (boolsD (List.replicate n.toNat bb)) := by
  rw [← bools_rep]
  exact ge_bin ha hb (b_rep h0 h1 (by simp; omega))
theorem b_bools {X : Cx} {as bs : List Bool} (h : as.length + bs.length ≤ 100000) : BinD X .Add (boolsD as) (boolsD bs) (boolsD (as ++ bs)) := by
  unfold boolsD
  rw [List.map_append]
  exact b_cat (by rw [List.length_map, List.length_map]; exact h)
theorem sh_along (r : Ru) (l : List Nat) : shap (.list ((statesL r l).map shD)) = true := shap_of 2 (shN_list _ fun _ _ => rfl)
theorem eqv_same {d : PyData} (h : shap d = true) : PyData.eqv d d = true := by
  refine eqv_refl d ?_
  unfold shap SeqAt.shaped at h
  simp at h
  exact h.1
theorem shAll_app {n : Nat} : forall {as bs : List PyData}, shAll n as = true -> shAll n bs = true -> shAll n (as ++ bs) = true
  | [], bs, _, h => h
  | a :: as, bs, h1, h2 => by
    rw [shAll, Bool.and_eq_true] at h1
    rw [List.cons_append, shAll, h1.1, shAll_app h1.2 h2]
    rfl
end Lw

namespace Lw
open PySem PySem.Spec L2 Gd
/-! ### tables of states -/
theorem Sq.ext_ {a b : Sq} (h1 : a.st = b.st) (h2 : a.da = b.da) (h3 : a.mar = b.mar) (h4 : a.ru = b.ru) (h5 : a.tk = b.tk) : a = b := by
  cases a
  cases b
  cases h1; cases h2; cases h3; cases h4; cases h5
  rfl
instance : DecidableEq Sq := fun a b =>
  if h : a.st = b.st ∧ a.da = b.da ∧ a.mar = b.mar ∧ a.ru = b.ru ∧ a.tk = b.tk then isTrue (Sq.ext_ h.1 h.2.1 h.2.2.1 h.2.2.2.1 h.2.2.2.2) else isFalse fun z => h (by subst z; exact ⟨rfl, rfl, rfl, rfl, rfl⟩)
theorem bnum_inj {a b : Bool} (h : (if a = true then (1 : Int) else 0) = if b = true then 1 else 0) : a = b := by
  cases a <;> cases b <;> simp at h <;> rfl
theorem nk_sq {a b : Sq} : nk (sqD a) = nk (sqD b) ↔ a = b := by
  constructor
  · intro h
    unfold sqD at h
    simp only [nk, nkAll] at h
    injection h with h
    injection h with h1 h
    injection h with h2 h
    injection h with h3 h
    injection h with h4 h
    injection h with h5 h
    injection h1 with h1
    injection h2 with h2
    injection h3 with h3
    injection h4 with h4
    injection h5 with h5
    exact Sq.ext_ h1 h2 (bnum_inj h3) h4 (bnum_inj h5)
  · rintro rfl
    rfl
theorem key_sq (a : Sq) : isKey (sqD a) = true := by
  unfold sqD isKey
  simp [keyAll, keyOk, nk, nkAll, NestedKey.depth, NestedKey.depthAll]
section
variable {β : Type}
def lGet (L : List (Sq × β)) (q : Sq) : Option β := (L.find? fun p => decide (p.1 = q)).map (·.2)
def lPut (L : List (Sq × β)) (q : Sq) (n : β) : List (Sq × β) := if (lGet L q).isSome = true then L.map (fun p => if p.1 = q then (p.1, n) else p) else L ++ [(q, n)]
theorem lGet_cons (p : Sq × β) (L : List (Sq × β)) (q : Sq) : lGet (p :: L) q = if p.1 = q then some p.2 else lGet L q := by
  unfold lGet
  by_cases h : p.1 = q <;> simp [h]
def entD (f : β -> PyData) (p : Sq × β) : PyData × PyData := (sqD p.1, f p.2)
theorem dGet_ent (f : β -> PyData) (q : Sq) : forall L : List (Sq × β), dGet (L.map (entD f)) (sqD q) = (lGet L q).map f
  | [] => rfl
  | p :: L => by
    rw [List.map_cons, dGet_cons, lGet_cons, dGet_ent f q L]
    show (if nk (sqD p.1) = nk (sqD q) then some (f p.2) else _) = _
    by_cases h : p.1 = q
    · rw [if_pos (nk_sq.mpr h), if_pos h]; rfl
    · rw [if_neg (fun z => h (nk_sq.mp z)), if_neg h]
theorem dPut_ent (f : β -> PyData) (q : Sq) (n : β) (L : List (Sq × β)) : dPut (L.map (entD f)) (sqD q) (f n) = (lPut L q n).map (entD f) := by
  unfold dPut lPut
  rw [dGet_ent, Option.isSome_map]
  split
  · rw [List.map_map, List.map_map]
    refine List.map_congr_left fun p _ => ?_
    show (if nk (sqD p.1) = nk (sqD q) then (sqD p.1, f n) else entD f p) = entD f (if p.1 = q then (p.1, n) else p)
    by_cases h : p.1 = q
    · rw [if_pos (nk_sq.mpr h), if_pos h]; rfl
    · rw [if_neg (fun z => h (nk_sq.mp z)), if_neg h]
  · rw [List.map_append]; rfl
theorem lGet_none {L : List (Sq × β)} {q : Sq} : lGet L q = none ↔ q ∉ L.map (·.1) := by
  induction L with
  | nil => simp [lGet]
  | cons p L ih =>
    rw [lGet_cons, List.map_cons, List.mem_cons]
    by_cases h : p.1 = q
    · rw [if_pos h]; simp [h]
    · rw [if_neg h, ih]
      constructor
      · rintro a (b | b)
        · exact h b.symm
        · exact a b
      · exact fun a b => a (.inr b)
theorem lGet_mem : forall {L : List (Sq × β)} {p : Sq × β}, (L.map (·.1)).Nodup -> p ∈ L -> lGet L p.1 = some p.2
  | [], _, _, h => absurd h List.not_mem_nil
  | q :: L, p, nd, h => by
    rw [List.map_cons, List.nodup_cons] at nd
    rw [lGet_cons]
    rcases List.mem_cons.mp h with rfl | h
    · rw [if_pos rfl]
    · rw [if_neg fun z => nd.1 (by rw [z]; exact List.mem_map.mpr ⟨p, h, rfl⟩)]
      exact lGet_mem nd.2 h
theorem lPut_keys (L : List (Sq × β)) (q : Sq) (n : β) : (lPut L q n).map (·.1) = if (lGet L q).isSome = true then L.map (·.1) else L.map (·.1) ++ [q] := by
  unfold lPut
  split
  · rw [List.map_map]
    refine List.map_congr_left fun p _ => ?_
    show (if p.1 = q then (p.1, n) else p).1 = p.1
    split <;> rfl
  · rw [List.map_append]; rfl
theorem lPut_nodup {L : List (Sq × β)} {q : Sq} {n : β} (h : (L.map (·.1)).Nodup) : ((lPut L q n).map (·.1)).Nodup := by
  rw [lPut_keys]
  split
  · exact h
  · rename_i hs
    have hn : lGet L q = none := by
      cases hg : lGet L q with
      | none => rfl
      | some _ => rw [hg] at hs; simp at hs
    have := lGet_none.mp hn
    rw [List.nodup_append]
    refine ⟨h, by simp, ?_⟩
    intro a ha b hb
    rw [List.mem_singleton.mp hb]
    intro z
    exact this (z ▸ ha)
theorem lPut_mem {L : List (Sq × β)} {q a : Sq} {n : β} (h : a ∈ (lPut L q n).map (·.1)) : a ∈ L.map (·.1) ∨ a = q := by
  rw [lPut_keys] at h
  split at h
  · exact .inl h
  · rcases List.mem_append.mp h with h | h
    · exact .inl h
    · exact .inr (List.mem_singleton.mp h)
end
/-! ### weights -/
def wgt (f : Sq -> Int) (L : List (Sq × Int)) : Int := (L.map fun p => p.2 * f p.1).sum
def lAdd (L : List (Sq × Int)) (q : Sq) (n : Int) : List (Sq × Int) := lPut L q ((lGet L q).getD 0 + n)
theorem wgt_repl (f : Sq -> Int) {q : Sq} {m : Int} : forall {L : List (Sq × Int)} {n : Int}, (L.map (·.1)).Nodup -> lGet L q = some n -> wgt f (L.map fun p => if p.1 = q then (p.1, m) else p) = wgt f L + (m - n) * f q
  | [], _, _, h => by cases h
  | p :: L, n, nd, h => by
    rw [List.map_cons, List.nodup_cons] at nd
    rw [lGet_cons] at h
    have c1 : forall (x : Sq × Int) (M : List (Sq × Int)), wgt f (x :: M) = x.2 * f x.1 + wgt f M := fun x M => by unfold wgt; rw [List.map_cons, List.sum_cons]
    rw [List.map_cons, c1, c1]
    by_cases hp : p.1 = q
    · rw [if_pos hp] at h
      cases h
      have same : (L.map fun p => if p.1 = q then (p.1, m) else p) = L := by
        conv => rhs; rw [← List.map_id L]
        refine List.map_congr_left fun x hx => ?_
        have : x.1 ≠ q := fun z => nd.1 (by rw [hp, ← z]; exact List.mem_map.mpr ⟨x, hx, rfl⟩)
        rw [if_neg this]
        rfl
      rw [same, if_pos hp, hp]
      show m * f q + _ = _
      rw [Int.sub_mul]
      omega
    · rw [if_neg hp] at h
      rw [if_neg hp, wgt_repl f nd.2 h]
      omega
theorem wgt_add (f : Sq -> Int) {L : List (Sq × Int)} {q : Sq} {n : Int} (nd : (L.map (·.1)).Nodup) : wgt f (lAdd L q n) = wgt f L + n * f q := by
  unfold lAdd lPut
  cases hg : lGet L q with
  | none =>
    rw [if_neg (by simp)]
    unfold wgt
    rw [List.map_append, List.sum_append]
    show _ + ((0 + n) * f q + 0) = _
    rw [Int.zero_add, Int.add_zero]
  | some m =>
    rw [if_pos (show (some m).isSome = true from rfl), wgt_repl f nd hg]
    show _ + (m + n - m) * f q = _
    rw [show m + n - m = n by omega]
end Lw

namespace Lw
open PySem PySem.Spec L2 Gd
/-! ### there are few states -/
theorem nodup_lt : forall (n : Nat) (l : List Nat), l.Nodup -> (forall x, x ∈ l -> x < n) -> l.length ≤ n
  | 0, l, _, h => by
    cases l with
    | nil => exact Nat.le_refl 0
    | cons a l => exact absurd (h a List.mem_cons_self) (by omega)
  | n + 1, l, nd, h => by
    by_cases hn : n ∈ l
    · have ih := nodup_lt n (l.erase n) (nd.erase n) fun x hx => by
        have hx := (nd.mem_erase_iff).mp hx
        have := h x hx.2
        have := hx.1
        omega
      rw [List.length_erase_of_mem hn] at ih
      omega
    · have ih := nodup_lt n l nd fun x hx => by
        have := h x hx
        have : x ≠ n := fun z => hn (z ▸ hx)
        omega
      omega
structure Box (r : Ru) (s : Sq) : Prop where
  sane : Sane r s
  st : s.st ≤ r.st
  da : s.da ≤ r.da
def encS (s : Sq) : Nat := (s.st * 308 + s.da * 28 + s.ru * 4 + (if s.mar = true then 2 else 0) + (if s.tk = true then 1 else 0)).toNat
theorem encS_inj {r : Ru} (v : VR r) {a b : Sq} (ha : Box r a) (hb : Box r b) (h : encS a = encS b) : a = b := by
  obtain ⟨⟨a1, a2, a3, a4⟩, a5, a6⟩ := ha
  obtain ⟨⟨b1, b2, b3, b4⟩, b5, b6⟩ := hb
  have v1 := v.s2
  have v2 := v.d2
  have v3 := v.n2
  unfold encS at h
  rcases a with ⟨x1, x2, x3, x4, x5⟩
  rcases b with ⟨y1, y2, y3, y4, y5⟩
  dsimp only at *
  cases x3 <;> cases x5 <;> cases y3 <;> cases y5 <;> simp at h <;> (refine Sq.ext_ ?_ ?_ ?_ ?_ ?_ <;> dsimp only <;> first | rfl | omega)
theorem encS_lt {r : Ru} (v : VR r) {a : Sq} (ha : Box r a) : encS a < 2156 := by
  obtain ⟨⟨a1, a2, a3, a4⟩, a5, a6⟩ := ha
  have v1 := v.s2
  have v2 := v.d2
  have v3 := v.n2
  unfold encS
  split <;> split <;> omega
theorem nodup_map_on {α β : Type} {f : α -> β} : forall {l : List α}, (forall a, a ∈ l -> forall b, b ∈ l -> f a = f b -> a = b) -> l.Nodup -> (l.map f).Nodup
  | [], _, _ => List.nodup_nil
  | a :: l, h, nd => by
    rw [List.nodup_cons] at nd
    rw [List.map_cons, List.nodup_cons]
    refine ⟨fun z => ?_, nodup_map_on (fun x hx y hy => h x (List.mem_cons_of_mem _ hx) y (List.mem_cons_of_mem _ hy)) nd.2⟩
    obtain ⟨b, hb, e⟩ := List.mem_map.mp z
    have := h b (List.mem_cons_of_mem _ hb) a List.mem_cons_self e
    exact nd.1 (this ▸ hb)
theorem box_len {r : Ru} (v : VR r) {l : List Sq} (nd : l.Nodup) (h : forall s, s ∈ l -> Box r s) : l.length ≤ 2156 := by
  have := nodup_lt 2156 (l.map encS) (nodup_map_on (fun a ha b hb e => encS_inj v (h a ha) (h b hb) e) nd) fun x hx => by
    obtain ⟨s, hs, rfl⟩ := List.mem_map.mp hx
    exact encS_lt v (h s hs)
  rwa [List.length_map] at this
theorem box0 {r : Ru} (v : VR r) : Box r start0 := ⟨sane0 v, by have := v.s1; show (0 : Int) ≤ r.st; omega, by have := v.s1; have := v.d1; show (0 : Int) ≤ r.da; omega⟩
end Lw

namespace Lw
open PySem PySem.Spec L2 Gd
/-! ### mirrors -/
def canDrive (r : Ru) (s : Sq) : Bool := !isOver r (stepF r s 68)
def leftOf (r : Ru) (s : Sq) : Int := if (if r.da - s.da < r.st - s.st then r.da - s.da else r.st - s.st) > 0 then (if r.da - s.da < r.st - s.st then r.da - s.da else r.st - s.st) else 0
def needN (r : Ru) (q : Sq) : Nat := ((List.range 7).find? fun n => canDrive r (rests r q n)).getD 0
def signs3 : List Nat := [68, 82, 87]
def okNext (r : Ru) (q : Sq) (c : Nat) : Bool := !decide (c = 68) || !isOver r (stepF r q c)
def nextS (r : Ru) (q : Sq) : List Nat := signs3.filter (okNext r q)
def nextD (r : Ru) (q : Sq) (c : Nat) : PyData := .tuple [.str (S [c]), sqD (stepF r q c)]
theorem can_after_night {r : Ru} (v : VR r) {q : Sq} (h : 0 ≤ q.ru) : canDrive r (rests r q r.ni.toNat) = true := by
  have n1 := v.n1
  have p1 := v.p1
  have s1 := v.s1
  have d1 := v.d1
  obtain ⟨a, b⟩ := rests_all v h (n := r.ni.toNat) (by omega)
  unfold canDrive isOver
  have st := st_drive r (rests r q r.ni.toNat)
  rw [st.1, st.2, a, b, decide_eq_false (by omega), decide_eq_false (by omega)]
  rfl
theorem need_ok {r : Ru} (v : VR r) {q : Sq} (h : 0 ≤ q.ru) : canDrive r (rests r q (needN r q)) = true ∧ needN r q ≤ 6 ∧ forall j, j < needN r q -> canDrive r (rests r q j) = false := by
  have n2 := v.n2
  have ex : ((List.range 7).find? fun n => canDrive r (rests r q n)).isSome = true := by
    rw [List.find?_isSome]
    exact ⟨r.ni.toNat, List.mem_range.mpr (by omega), can_after_night v h⟩
  obtain ⟨n, hn⟩ := Option.isSome_iff_exists.mp ex
  have e : needN r q = n := by unfold needN; rw [hn]; rfl
  rw [e]
  obtain ⟨h1, as, bs, h2, h3⟩ := List.find?_eq_some_iff_append.mp hn
  have hlen : as.length = n ∧ n < 7 := by
    have q1 : (List.range 7)[as.length]? = some n := by rw [h2]; simp
    obtain ⟨l1, l2⟩ := List.getElem?_eq_some_iff.mp q1
    rw [List.getElem_range] at l2
    rw [List.length_range] at l1
    omega
  refine ⟨h1, by omega, fun j hj => ?_⟩
  have hm : j ∈ as := by
    have q1 : (List.range 7)[j]? = some j := by rw [List.getElem?_range (by omega)]
    rw [h2, List.getElem?_append_left (by omega)] at q1
    exact List.mem_of_getElem? q1
  have := h3 j hm
  simpa using this
/-! ### tables by level -/
def addAll (r : Ru) (p : Sq × Int) (acc : List (Sq × Int)) (cs : List Nat) : List (Sq × Int) := cs.foldl (fun acc c => lAdd acc (stepF r p.1 c) p.2) acc
def stepT (r : Ru) (L : List (Sq × Int)) : List (Sq × Int) := L.foldl (fun acc p => addAll r p acc (nextS r p.1)) []
def tabs (r : Ru) : Nat -> List (Sq × Int)
  | 0 => [(start0, 1)]
  | n + 1 => stepT r (tabs r n)
def cnt (r : Ru) : Nat -> Sq -> Int
  | 0, _ => 1
  | n + 1, q => ((nextS r q).map fun c => cnt r n (stepF r q c)).sum
structure TabOk (r : Ru) (L : List (Sq × Int)) : Prop where
  nd : (L.map (·.1)).Nodup
  bx : forall s, s ∈ L.map (·.1) -> Box r s
theorem TabOk.len {r : Ru} (v : VR r) {L : List (Sq × Int)} (h : TabOk r L) : L.length ≤ 2156 := by
  have := box_len v h.nd h.bx
  rwa [List.length_map] at this
theorem box_next {r : Ru} (v : VR r) {q : Sq} (h : Box r q) {c : Nat} (hc : c ∈ nextS r q) : Box r (stepF r q c) := by
  unfold nextS at hc
  obtain ⟨h1, h2⟩ := List.mem_filter.mp hc
  refine ⟨sane_step v h.sane c, ?_, ?_⟩
  all_goals
    have a1 := h.st
    have a2 := h.da
    have s1 := h.sane.st
    have s2 := h.sane.da
    by_cases h68 : c = 68
    · subst h68
      unfold okNext isOver at h2
      simp at h2
      omega
    · obtain ⟨w1, w2⟩ := st_other (r := r) (s := q) h68
      omega
theorem addAll_ok {r : Ru} (v : VR r) {p : Sq × Int} (hp : Box r p.1) : forall {cs : List Nat} {acc : List (Sq × Int)}, (forall c, c ∈ cs -> c ∈ nextS r p.1) -> TabOk r acc -> TabOk r (addAll r p acc cs)
  | [], _, _, h => h
  | c :: cs, acc, hc, h => addAll_ok v hp (cs := cs) (acc := lAdd acc (stepF r p.1 c) p.2) (fun x hx => hc x (List.mem_cons_of_mem _ hx)) ⟨lPut_nodup h.nd, fun s hs => by
      rcases lPut_mem hs with hs | rfl
      · exact h.bx s hs
      · exact box_next v hp (hc c List.mem_cons_self)⟩
theorem wgt_addAll {r : Ru} (f : Sq -> Int) {p : Sq × Int} (v : VR r) (hp : Box r p.1) : forall {cs : List Nat} {acc : List (Sq × Int)}, (forall c, c ∈ cs -> c ∈ nextS r p.1) -> TabOk r acc -> wgt f (addAll r p acc cs) = wgt f acc + p.2 * (cs.map fun c => f (stepF r p.1 c)).sum
  | [], acc, _, h => by
    show wgt f acc = wgt f acc + p.2 * 0
    rw [Int.mul_zero, Int.add_zero]
  | c :: cs, acc, hc, h => by
    have ok1 : TabOk r (lAdd acc (stepF r p.1 c) p.2) := ⟨lPut_nodup h.nd, fun s hs => by
      rcases lPut_mem hs with hs | rfl
      · exact h.bx s hs
      · exact box_next v hp (hc c List.mem_cons_self)⟩
    have ih := wgt_addAll f v hp (cs := cs) (fun x hx => hc x (List.mem_cons_of_mem _ hx)) ok1
    show wgt f (addAll r p (lAdd acc (stepF r p.1 c) p.2) cs) = _
    rw [ih, wgt_add f h.nd, List.map_cons, List.sum_cons, Int.mul_add]
    omega
theorem stepT_ok_aux {r : Ru} (v : VR r) : forall {L acc : List (Sq × Int)}, (forall p, p ∈ L -> Box r p.1) -> TabOk r acc -> TabOk r (L.foldl (fun acc p => addAll r p acc (nextS r p.1)) acc)
  | [], _, _, h => h
  | p :: L, acc, hb, h => stepT_ok_aux v (L := L) (acc := addAll r p acc (nextS r p.1)) (fun x hx => hb x (List.mem_cons_of_mem _ hx)) (addAll_ok v (hb p List.mem_cons_self) (fun _ z => z) h)
theorem wgt_aux {r : Ru} (v : VR r) (f : Sq -> Int) : forall {L acc : List (Sq × Int)}, (forall p, p ∈ L -> Box r p.1) -> TabOk r acc -> wgt f (L.foldl (fun acc p => addAll r p acc (nextS r p.1)) acc) = wgt f acc + wgt (fun s => ((nextS r s).map fun c => f (stepF r s c)).sum) L
  | [], acc, _, h => by
    show wgt f acc = wgt f acc + 0
    rw [Int.add_zero]
  | p :: L, acc, hb, h => by
    have ok1 := addAll_ok v (hb p List.mem_cons_self) (cs := nextS r p.1) (fun _ z => z) h
    have ih := wgt_aux v f (L := L) (acc := addAll r p acc (nextS r p.1)) (fun x hx => hb x (List.mem_cons_of_mem _ hx)) ok1
    show wgt f (L.foldl _ (addAll r p acc (nextS r p.1))) = _
    rw [ih, wgt_addAll f v (hb p List.mem_cons_self) (fun _ z => z) h]
    have c1 : forall (g : Sq -> Int) (x : Sq × Int) (M : List (Sq × Int)), wgt g (x :: M) = x.2 * g x.1 + wgt g M := fun g x M => by unfold wgt; rw [List.map_cons, List.sum_cons]
    rw [c1]
    omega
theorem tab_nil (r : Ru) : TabOk r [] := ⟨List.nodup_nil, fun s h => absurd h List.not_mem_nil⟩
theorem TabOk.box {r : Ru} {L : List (Sq × Int)} (h : TabOk r L) : forall p, p ∈ L -> Box r p.1 := fun p hp => h.bx _ (List.mem_map.mpr ⟨p, hp, rfl⟩)
theorem tabs_ok {r : Ru} (v : VR r) : forall n, TabOk r (tabs r n)
  | 0 => ⟨by simp [tabs], fun s hs => by
      have : s = start0 := by simpa [tabs] using hs
      subst this
      exact box0 v⟩
  | n + 1 => stepT_ok_aux v (tabs_ok v n).box (tab_nil r)
theorem tabs_wgt {r : Ru} (v : VR r) : forall n m, wgt (cnt r m) (tabs r n) = cnt r (n + m) start0
  | 0, m => by
    show 1 * cnt r m start0 + 0 = _
    rw [Int.one_mul, Int.add_zero, Nat.zero_add]
  | n + 1, m => by
    have e := wgt_aux v (cnt r m) (tabs_ok v n).box (tab_nil r)
    show wgt (cnt r m) ((tabs r n).foldl _ []) = _
    rw [e]
    have e2 : wgt (cnt r m) [] = 0 := rfl
    rw [e2, Int.zero_add]
    show wgt (cnt r (m + 1)) (tabs r n) = _
    rw [tabs_wgt v n (m + 1)]
    congr 1
    omega
theorem tabs_sum {r : Ru} (v : VR r) (n : Nat) : ((tabs r n).map (·.2)).sum = cnt r n start0 := by
  have h := tabs_wgt v n 0
  rw [Nat.add_zero] at h
  rw [← h]
  unfold wgt
  congr 1
  refine List.map_congr_left fun p _ => ?_
  show p.2 = p.2 * 1
  rw [Int.mul_one]
/-! ### _law_breaks -/
def brk (r : Ru) (l : List Nat) (c : Nat) : Bool := decide (c = 68) && isOver r (lawAfter r (l ++ [c]))
theorem cut_last (l : List Nat) (c : Nat) : cut (l ++ [c]) (some (-1)) none = [c] := by
  unfold cut
  have e1 : HT.sIx (l ++ [c]).length 0 (some (-1)) = l.length := by
    simp [HT.sIx]
    omega
  have e2 : HT.sIx (l ++ [c]).length (l ++ [c]).length none = (l ++ [c]).length := rfl
  rw [e1, e2, List.drop_left]
  simp

/-! ### driving on, resting -/
theorem after_app (r : Ru) (l m : List Nat) : after r (l ++ m) = m.foldl (stepF r) (after r l) := by
  unfold after
  rw [List.foldl_append]
theorem brk_is {r : Ru} (v : VR r) (l : List Nat) (c : Nat) : brk r l c = !okNext r (after r l) c := by
  unfold brk okNext
  rw [law_over v, after_snoc]
  cases decide (c = 68) <;> simp
theorem drives_st (r : Ru) : forall (n : Nat) (q : Sq), ((List.replicate n 68).foldl (stepF r) q).st = q.st + n ∧ ((List.replicate n 68).foldl (stepF r) q).da = q.da + n
  | 0, q => ⟨by simp, by simp⟩
  | n + 1, q => by
    rw [List.replicate_succ, List.foldl_cons]
    have h := drives_st r n (stepF r q 68)
    have s := st_drive r q
    rw [h.1, h.2, s.1, s.2]
    constructor <;> omega
theorem rep_flat (n c : Nat) : (List.replicate n [c]).flatten = List.replicate n c := by
  induction n with
  | zero => rfl
  | succ n ih => rw [List.replicate_succ, List.flatten_cons, ih, List.replicate_succ]; rfl
theorem rep_snoc (n c : Nat) : List.replicate (n + 1) c = List.replicate n c ++ [c] := by
  rw [List.replicate_succ']
theorem left_range {r : Ru} (v : VR r) {q : Sq} (h : Sane r q) : 0 ≤ leftOf r q ∧ leftOf r q ≤ 6 := by
  have a := h.st
  have b := v.s2
  unfold leftOf
  constructor <;> (split <;> try split) <;> omega
theorem brk_drive {r : Ru} (v : VR r) (l : List Nat) (n : Nat) : brk r (l ++ List.replicate n 68) 68 = decide (leftOf r (after r l) ≤ n) := by
  rw [brk_is v]
  have h := drives_st r n (after r l)
  rw [← after_app] at h
  have s := st_drive r (after r (l ++ List.replicate n 68))
  have e : okNext r (after r (l ++ List.replicate n 68)) 68 = !isOver r (stepF r (after r (l ++ List.replicate n 68)) 68) := by
    unfold okNext; rfl
  rw [e, Bool.not_not]
  unfold isOver leftOf
  rw [s.1, s.2, h.1, h.2, Bool.eq_iff_iff, Bool.or_eq_true, decide_eq_true_eq, decide_eq_true_eq, decide_eq_true_eq]
  split <;> split <;> omega
theorem brk_rest {r : Ru} (v : VR r) (l : List Nat) (n : Nat) : brk r (l ++ List.replicate n 82) 68 = !canDrive r (rests r (after r l) n) := by
  rw [brk_is v, after_app_rests]
  rfl
/-! ### all lawful logs -/
def longer (r : Ru) (l : List Nat) : List (List Nat) := (signs3.filter (okNext r (after r l))).map fun c => l ++ [c]
def lawL (r : Ru) : Nat -> List (List Nat)
  | 0 => [[]]
  | n + 1 => (lawL r n).flatMap (longer r)
theorem lawL_len (r : Ru) : forall n l, l ∈ lawL r n -> l.length = n
  | 0, l, h => by
    have : l = [] := by simpa [lawL] using h
    rw [this]; rfl
  | n + 1, l, h => by
    rw [lawL, List.mem_flatMap] at h
    obtain ⟨m, hm, h⟩ := h
    unfold longer at h
    obtain ⟨c, _, rfl⟩ := List.mem_map.mp h
    rw [List.length_append, lawL_len r n m hm]; rfl
theorem sum_flatMap {α β : Type} (f : β -> Int) (g : α -> List β) : forall L : List α, ((L.flatMap g).map f).sum = (L.map fun x => ((g x).map f).sum).sum
  | [] => rfl
  | x :: L => by
    rw [List.flatMap_cons, List.map_append, List.sum_append, sum_flatMap f g L, List.map_cons, List.sum_cons]
theorem lawL_sum (r : Ru) : forall n m, ((lawL r n).map fun l => cnt r m (after r l)).sum = cnt r (n + m) start0
  | 0, m => by
    show cnt r m start0 + 0 = _
    rw [Int.add_zero, Nat.zero_add]
  | n + 1, m => by
    rw [lawL, sum_flatMap, show n + 1 + m = n + (m + 1) by omega, ← lawL_sum r n (m + 1)]
    congr 1
    refine List.map_congr_left fun l _ => ?_
    unfold longer
    rw [List.map_map]
    show _ = ((nextS r (after r l)).map fun c => cnt r m (stepF r (after r l) c)).sum
    unfold nextS
    congr 1
    refine List.map_congr_left fun c _ => ?_
    show cnt r m (after r (l ++ [c])) = _
    rw [after_snoc]
theorem sum_ones {α : Type} : forall L : List α, (L.map fun _ => (1 : Int)).sum = L.length
  | [] => rfl
  | x :: L => by
    rw [List.map_cons, List.sum_cons, sum_ones L, List.length_cons]
    omega
theorem lawL_cnt (r : Ru) (n : Nat) : ((lawL r n).length : Int) = cnt r n start0 := by
  rw [← sum_ones, ← Nat.add_zero n, ← lawL_sum r n 0, Nat.add_zero]
  rfl
theorem longer_le (r : Ru) (l : List Nat) : (longer r l).length ≤ 3 := by
  unfold longer
  rw [List.length_map]
  exact List.length_filter_le _ _
theorem flatMap_le {α β : Type} {g : α -> List β} {k : Nat} : forall {L : List α}, (forall x, x ∈ L -> (g x).length ≤ k) -> (L.flatMap g).length ≤ k * L.length
  | [], _ => by simp
  | x :: L, h => by
    rw [List.flatMap_cons, List.length_append, List.length_cons, Nat.mul_add]
    have := h x List.mem_cons_self
    have := flatMap_le (L := L) fun y hy => h y (List.mem_cons_of_mem _ hy)
    omega
theorem lawL_le (r : Ru) : forall n, (lawL r n).length ≤ 3 ^ n
  | 0 => by simp [lawL]
  | n + 1 => by
    rw [lawL]
    have := flatMap_le (g := longer r) (k := 3) (L := lawL r n) fun x _ => longer_le r x
    have ih := lawL_le r n
    rw [Nat.pow_succ]
    omega
end Lw

namespace Lw
open PySem PySem.Spec L2 Gd
section
variable {P : Program} {w : World} {K : PySem.W.Frag} {mg : Str -> Option Value} {base : Heap}
/-! ### can_drive_now, may_drive, drive_left, rest_needed -/
def R_can_drive_now : Rel := fun ds o => ∃ r q, ds = [ruD r, sqD q] ∧ o = .ret (.bool (canDrive r q))
theorem can_drive_left (T : Tp K mg) : Can P w K mg base 5 "drive_left" (RX K fun r l => .int (leftOf r (after r l))) := by
  obtain ⟨fd, F⟩ := T.fn_drive_left
  refine can_of F T.gl_drive_left sc_drive_left (fun _ _ _ _ _ _ us hl => match us, hl with | [_, _], _ => rfl) RX_len ?_
  rintro cdv A outer s H E N ds o hr (⟨d, e, C, hd, he, hs, rfl, hc, rfl⟩ | ⟨r, l, h1, h2, rfl, rfl⟩) hx
  · exact gs_cons (g1_exprX (gx_call (can_check_both T) hr (ga_cons (gv 0) (ga_cons (gv 1) ga_nil)) (R_both_bad hd he hs hc) (hx _ rfl) trivial))
  · have hl := logL_len h2
    have nd := sc_drive_left.nd
    refine gs_cons (g1_expr (ge_call (can_check_both T) hr (ga_cons (gv 0) (ga_cons (gv 1) ga_nil)) (R_both_ok h1 h2)) ?_)
    refine gs_cons (g1_asg (tg_tp (is := [2, 3]) (tgs_cons 2 nd (tgs_cons 3 nd tgs_nil))) (ge_is (d1 := .tuple [.int (after r l).st, .int (after r l).da]) (ge_slT (vl := none) (vh := some 2) (ge_ix (ge_call (can_all_states T) hr (ga_cons (gv 0) (ga_cons (gv 1) ga_nil)) ⟨r, l, by omega, rfl, rfl⟩) (ge_neg ge_int) (x_lst (statesL_last r l))) trivial ge_int (by show ¬ (0 = 0 ∧ 2 = 5); decide)) rfl) rfl ?_)
    exact gs_cons (g1_ret (ge_max T.fr_max ge_int (ge_min T.fr_min (ge_bin (ge_ix (gv 0) ge_int (x_tup rfl)) (gv 2) b_sub) (ge_bin (ge_ix (gv 0) ge_int (x_tup rfl)) (gv 3) b_sub))) rfl)
/-! ### check_length, next_states -/
def R_check_length (K : PySem.W.Frag) : Rel := fun ds o => ∃ d, noDict d = true ∧ ds = [d] ∧ o = if okInt d 0 60 = true then .ret .none else .exc (He.ga K "InvalidLength")
def R_next_states : Rel := fun ds o => ∃ r q, ds = [ruD r, sqD q] ∧ o = .ret (.list ((nextS r q).map (nextD r q)))
end
end Lw

namespace Gd
open PySem PySem.Spec L2
theorem c_notin1 {X : Cx} {c : Nat} {l : List Nat} : CmpD X .NotIn (.str (S [c])) (.str (S l)) (!decide (c ∈ l)) := ⟨_, op_notIn_sign, fun v1 v2 G H Q gh h1 h2 q => by
  cases h1; cases h2
  refine ⟨c, S l, rfl, rfl, ?_⟩
  rw [S_cps]
  exact q _ G H (.refl gh) (.bl _)⟩
/-- an instance among what stays, for a while -/
theorem ext_ins {G H G2 H2 : Hp} {p C dx : Addr} {fs : List (Str × V)} (gp : G p = none) (e : Ext (upd G p (.ins C dx fs)) H G2 H2) : Ext G H (fun b => if b = p then none else G2 b) H2 ∧ LessI G2 (fun b => if b = p then none else G2 b) := by
  have e2 : G2 p = some (.ins C dx fs) := e.g _ _ upd_same
  refine ⟨⟨fun b u h => ?_, e.h, fun b u h => ?_, fun a ha => ?_⟩, fun b u h => ?_⟩
  · have nb : b ≠ p := ne_of_none h gp
    show (if b = p then none else G2 b) = some u
    rw [if_neg nb]
    exact e.g _ _ (by rw [upd_ne nb]; exact h)
  · have h : (if b = p then none else G2 b) = some u := h
    by_cases hb : b = p
    · rw [if_pos hb] at h; cases h
    · rw [if_neg hb] at h; exact e.gh _ _ h
  · show (if a = p then none else G2 a) = G a
    by_cases hb : a = p
    · rw [if_pos hb, hb, gp]
    · rw [if_neg hb, e.old a ha, upd_ne hb]
  · by_cases hb : b = p
    · rw [hb, e2] at h
      exact .inr (.inr ⟨C, dx, fs, (Option.some.inj h).symm⟩)
    · exact .inl (by show (if b = p then none else G2 b) = some u; rw [if_neg hb]; exact h)
end Gd
namespace Lw
open PySem PySem.Spec L2 Gd
/-- text and rules alone -/
def phC (K : PySem.W.Frag) (a : BA) (b : Bk) : Hp -> Prop := fun G0 => G0 a.p = some (.ins (He.ga K "Logbook") a.dx (bf a.vr b.t a.e a.l)) ∧ Dq K G0 a.vr (ruD b.r)
section
variable {P : Program} {w : World} {K : PySem.W.Frag} {mg : Str -> Option Value} {base : Heap}
theorem phC_of {G0 : Hp} {a : BA} {b : Bk} (h : phC K a b G0) (T : Tp K mg) : (∃ C dx fs v, G0 a.p = some (.ins C dx fs) ∧ Cls K C ∧ NoAttr K C "text" ∧ fs.lookup ("text" : Str) = some v ∧ Dq K G0 v (.str (S b.t))) ∧ (∃ C dx fs v, G0 a.p = some (.ins C dx fs) ∧ Cls K C ∧ NoAttr K C "rules" ∧ fs.lookup ("rules" : Str) = some v ∧ Dq K G0 v (ruD b.r)) :=
  ⟨⟨_, _, _, _, h.1, T.cl_Logbook, T.na_Logbook_text, bf_t, .str _⟩, ⟨_, _, _, _, h.1, T.cl_Logbook, T.na_Logbook_rules, bf_r, h.2⟩⟩
/-- the state behind a change, for an expression that reads text and rules: the book's object among what stays -/
theorem sta_book {G H : Hp} {a : BA} {b : Bk} (gh : Same G H) (k : BkN K G H a b) {σ : L2.St} {cs : List Cell} {vs : List V} {n : Nat} (hσ : σ = some (.ref a.p) :: (vs.map some ++ List.replicate n none)) (hl : cs.length = vs.length) (no : forall (i : Nat) (x : Own), cs[i]? ≠ some (Cell.owx x)) (hc : forall (i : Nat) (c : Cell) (v : V), cs[i]? = some c -> vs[i]? = some v -> CellOk K (upd G a.p (.ins (He.ga K "Logbook") a.dx (bf a.vr b.t a.e a.l))) H (some v) c) :
    Sta K (upd G a.p (.ins (He.ga K "Logbook") a.dx (bf a.vr b.t a.e a.l))) H σ (.pin (.ref a.p) (phC K a b) :: (cs ++ List.replicate n .any)) := by
  have g1 : Same G (upd G a.p (.ins (He.ga K "Logbook") a.dx (bf a.vr b.t a.e a.l))) := same_new k.gp
  have g2 : Same (upd G a.p (.ins (He.ga K "Logbook") a.dx (bf a.vr b.t a.e a.l))) H := fun x u e => by
    by_cases hx : x = a.p
    · rw [hx, upd_same] at e
      rw [hx, k.ins]
      exact e
    · rw [upd_ne hx] at e
      exact gh _ _ e
  subst hσ
  refine ⟨g2, by simp [hl], fun i c h => ?_, fun i j p x y h1 => ?_⟩
  · cases i with
    | zero =>
      cases h
      refine ⟨_, rfl, rfl, noT (upd G a.p (.ins (He.ga K "Logbook") a.dx (bf a.vr b.t a.e a.l))), fun x u e => (noT_some e).1, fun x ps e => (noT_some e).2 ps rfl, ⟨noT_of upd_same (fun ps z => nomatch z), ?_⟩⟩
      exact (k.ru.mono g1).less fun x u e => by
        by_cases ht : ∃ ps, u = .tbl ps
        · exact .inr (.inr ht)
        · exact .inl (noT_of e fun ps y => ht ⟨ps, y⟩)
    | succ i =>
      have h : (cs ++ List.replicate n Cell.any)[i]? = some c := by simpa using h
      have eσ : (some (V.ref a.p) :: (vs.map some ++ List.replicate n none))[i + 1]? = (vs.map some ++ List.replicate n none)[i]? := by simp
      rw [eσ]
      by_cases hi : i < cs.length
      · rw [List.getElem?_append_left hi] at h
        have hv : i < vs.length := by omega
        rw [List.getElem?_append_left (by rw [List.length_map]; exact hv), List.getElem?_map, List.getElem?_eq_getElem hv]
        exact ⟨_, rfl, hc i c _ h (List.getElem?_eq_getElem hv)⟩
      · rw [List.getElem?_append_right (by omega), List.getElem?_replicate] at h
        split at h
        · rename_i hlt
          cases h
          refine ⟨none, ?_, trivial⟩
          rw [List.getElem?_append_right (by rw [List.length_map]; omega), List.length_map, List.getElem?_replicate, if_pos (by omega)]
        · cases h
  · exfalso
    cases i with
    | zero => cases h1
    | succ i =>
      have h : (cs ++ List.replicate n Cell.any)[i]? = some (.owx x) := by simpa using h1
      by_cases hi : i < cs.length
      · rw [List.getElem?_append_left hi] at h
        exact no i x h
      · rw [List.getElem?_append_right (by omega), List.getElem?_replicate] at h
        split at h <;> cases h
theorem no0 : forall (i : Nat) (x : Own), ([] : List Cell)[i]? ≠ some (Cell.owx x) := fun i x h => by cases h
theorem ok0 {G H : Hp} : forall (i : Nat) (c : Cell) (v : V), ([] : List Cell)[i]? = some c -> ([] : List V)[i]? = some v -> CellOk K G H (some v) c := fun i c v h => by cases h
theorem no1 {d : PyData} : forall (i : Nat) (x : Own), [Cell.dat d][i]? ≠ some (Cell.owx x) := fun i x h => by
  match i with
  | 0 => cases h
  | i + 1 => cases h
theorem ok1 {G H : Hp} {v : V} {d : PyData} (h : Dq K G v d) : forall (i : Nat) (c : Cell) (w : V), [Cell.dat d][i]? = some c -> [v][i]? = some w -> CellOk K G H (some w) c := fun i c w h1 h2 => by
  match i with
  | 0 =>
    cases h1
    cases h2
    exact ⟨_, rfl, h⟩
  | i + 1 => cases h1
/-! ### add -/
/-- one of the three signs -/
def sgL : List Nat -> Option Nat
  | [c] => if isSg c = true then some c else none
  | _ => none
def sgOf : PyData -> Option Nat
  | .str z => sgL z.cps.toList
  | _ => none
def atomS (d : PyData) : Prop := atom d = true ∧ smol d = true
def spAdd (K : PySem.W.Frag) : Sp := fun vs H Q E => ∃ (G : Hp) (a : BA) (b : Bk) (v : V) (d : PyData), vs = [.ref a.p, v] ∧ Same G H ∧ BkN K G H a b ∧ bsz b ∧ atomS d ∧ Dq K G v d ∧
  match sgOf d with
  | some c => if b.t.length + 1 ≤ 60 then b.e.length < 1000 ∧ forall u G' H' a', Chg K G H a G' H' a' ⟨b.r, b.t ++ [c], b.e ++ [b.t], []⟩ -> Dq K G' u (.bool (decide (b.t.length ∈ faultsL b.r (b.t ++ [c])))) -> Q u H' else forall H', Same H H' -> E (.ref (He.ga K "TooLong")) none H'
  | none => forall H', Same H H' -> E (.ref (He.ga K "InvalidLog")) none H'
theorem atom_noDict {d : PyData} (h : atom d = true) : noDict d = true := by
  cases d <;> first | rfl | cases h
/-- the test of add -/
theorem ge_sign {X : Cx} {ρ : Rho} {d : PyData} {n : Str} {p1 p2 p3 p4 p5 p6 p7 p8 p9 p10 p11 p12 p13 : Pos} {j : Nat} (hI : X.mg "isinstance" = none) (hS : X.mg "str" = none) (hL : X.mg "len" = none) (hG : ∃ t, X.mg "SIGNS" = some (.str "DRW" t)) (h : atomS d) (hd : GE X (.Name n p3) ρ d) (hd2 : GE X (.Name n p7) ρ d) (hd3 : GE X (.Name n p11) ρ d) (g1 : Gl X "isinstance" := by rfl) (g2 : Gl X "str" := by rfl) (g3 : Gl X "len" := by rfl) (g4 : Gl X "SIGNS" := by rfl)
    (hs1 : starEach [.Name n p3, .Name "str" p4] X.env = (false, eval (.Name n p3) X.env) :: starEach [.Name "str" p4] X.env := by rfl) (hs2 : starEach [.Name "str" p4] X.env = (false, eval (.Name "str" p4) X.env) :: starEach [] X.env := by rfl) (hpl : (backTo p1 (starEach [.Name "str" p4] X.env)).any (·.1) = false := by rfl)
    (he1 : starEach [.Name n p7] X.env = (false, eval (.Name n p7) X.env) :: starEach [] X.env := by rfl) (he2 : (backTo p6 (starEach [] X.env)).any (·.1) = false := by rfl) :
    GT X (.BoolOp .Or [.UnaryOp .Not (.Call (.Name "isinstance" p2) [.Name n p3, .Name "str" p4] [] p1) p5, .Compare (.Call (.Name "len" p8) [.Name n p7] [] p6) [.NotEq] [.Constant (.int 1) j p9] p10, .Compare (.Name n p11) [.NotIn] [.Name "SIGNS" p12] p13] pos) ρ (!(sgOf d).isSome) := by
  have hnd := atom_noDict h.1
  refine gt_is (gt_w (gw_or (c' := !(sgOf d).isSome) (gt_not (gt_val (ge_isS hI hS hd hnd g1 g2 hs1 hs2 hpl))) fun z => ?_)) ?_
  · cases d with
    | str y =>
      obtain ⟨l, rfl⟩ : ∃ l, y = S l := ⟨_, S_of y⟩
      have hl : l.length ≤ 1000 := by
        have := of_decide_eq_true h.2
        rwa [S_len] at this
      have es : sgOf (.str (S l)) = sgL l := by
        show sgL (S l).cps.toList = _
        rw [S_cps]
      by_cases h1 : l.length = 1
      · obtain ⟨c, rfl⟩ : ∃ c, l = [c] := List.length_eq_one_iff.mp h1
        refine gw_or (c' := !(sgOf (.str (S [c]))).isSome) (gt_is (c' := false) (gt_cmp (ge_lenS hL hd2 (by show 1 ≤ 100000; decide) g3 he1 he2) ge_int c_neI) rfl) fun _ => gw_or1 (gt_is (gt_cmp hd3 (ggS [68, 82, 87] hG rfl g4) c_notin1) ?_)
        rw [es]
        show _ = !(if isSg c = true then some c else none).isSome
        unfold isSg
        cases decide (c ∈ [68, 82, 87]) <;> rfl
      · have hn : (sgOf (.str (S l))).isSome = false := by
          rw [es]
          match l, h1 with
          | [], _ => rfl
          | [_], h1 => exact absurd rfl h1
          | _ :: _ :: _, _ => rfl
        rw [hn]
        exact gw_or (c' := true) (gt_is (c' := true) (gt_cmp (ge_lenS hL hd2 (by omega) g3 he1 he2) ge_int c_neI) (by rw [decide_eq_false (by omega)]; rfl)) fun z => by cases z
    | none => cases z
    | bool _ => cases z
    | int _ => cases z
    | list _ => cases h.1
    | tuple _ => cases h.1
    | dict _ => cases h.1
  · cases d with
    | str y => rfl
    | none => rfl
    | bool _ => rfl
    | int _ => rfl
    | list _ => cases h.1
    | tuple _ => cases h.1
    | dict _ => cases h.1
end
end Lw

namespace Lw
open PySem PySem.Spec L2 Gd
theorem Chg.pre {K : PySem.W.Frag} {G H G1 H1 G2 H2 : Hp} {a a' : BA} {b' : Bk} (e : Ext G H G1 H1) (c : Chg K G1 H1 a G2 H2 a' b') : Chg K G H a G2 H2 a' b' := by
  have up : forall x, H x ≠ none -> H1 x ≠ none := fun x hx hz => by
    cases q : H x with
    | none => exact hx q
    | some u =>
      rw [e.h _ _ q] at hz
      cases hz
  exact ⟨e.g.trans c.g, c.gh, fun x hx => by rw [c.old x (up x hx), e.old x hx], fun x u h1 h2 h3 hx => c.keep x u h1 h2 h3 (e.h _ _ hx), c.bk, c.pp, ⟨c.ne.1.imp id fun z => e.h.free z, c.ne.2.imp id fun z => e.h.free z⟩, c.ex⟩
section
variable {P : Program} {w : World} {K : PySem.W.Frag} {mg : Str -> Option Value} {base : Heap}
theorem sta_raw1 {G H : Hp} {p : Addr} {v : V} {d : PyData} {x y : Str} (gh : Same G H) (h : Dq K G v d) : Sta K G H (L2.start [x, y] [.ref p, v]) [.raw (.ref p), .dat d] := by
  obtain ⟨G', e1, sp, st, _⟩ := fr_start (K := K) (G := G) (H := H) (Nm := [x, y]) (vs := [.ref p, v]) (cs := [.raw (.ref p), .dat d]) gh rfl (Nat.le_refl _) (fun i z q => by
    match i with
    | 0 => cases q
    | 1 => cases q
    | i + 2 => cases q) (fun i c u h1 h2 => by
    match i with
    | 0 => cases h1; cases h2; rfl
    | 1 => cases h1; cases h2; exact ⟨_, rfl, h⟩
    | i + 2 => cases h1)
  refine ⟨gh, rfl, fun i c hc => ?_, fun i j p x y h1 => ?_⟩
  · match i with
    | 0 => cases hc; exact ⟨_, rfl, rfl⟩
    | 1 => cases hc; exact ⟨_, rfl, _, rfl, h⟩
    | i + 2 => cases hc
  · match i with
    | 0 => cases h1
    | 1 => cases h1
    | i + 2 => cases h1
/-- the end of add and rest: an expression that reads the changed book -/
theorem ret_book {X : Cx} (hK : X.K = K) {e : Expr} {pos : Pos} {G G1 H H1 G2 H2 : Hp} {a a2 : BA} {b2 : Bk} {v : V} {d r : PyData} {Q : VK} {σ : L2.St} {D : Ends} (gh : Same G H) (dv : Dq K G v d) (e1 : Ext G H G1 H1) (c : Chg K G1 H1 a G2 H2 a2 b2) (hσ : σ = some (.ref a2.p) :: ([v].map some ++ List.replicate 0 none))
    (he : GE X e [.pin (.ref a2.p) (phC K a2 b2), .dat d] r) (hq : forall u G' H' a', Chg K G H a G' H' a' b2 -> Dq K G' u r -> Q u H') (hD : D.rt = Q) : twp X (.Return (some e) pos) D σ H2 := by
  subst hK
  refine twp_ret ?_
  rw [hD]
  have dv2 : Dq X.K (upd G2 a2.p (.ins (He.ga X.K "Logbook") a2.dx (bf a2.vr b2.t a2.e a2.l))) v d := ((dv.mono e1.g).mono c.g).mono (same_new c.bk.gp)
  have st := sta_book c.gh c.bk (cs := [.dat d]) (vs := [v]) (n := 0) hσ rfl no1 (ok1 dv2)
  refine he σ _ H2 Q st fun u G3 H3 e3 du => ?_
  obtain ⟨e4, l4⟩ := ext_ins c.bk.gp e3
  exact hq u _ H3 a2 ((c.pre e1).ext e4) (du.lessI l4)
theorem ok_add (T : Tp K mg) : ∃ fd, Binds K fd ["self", "sign"] [] ∧ FnOk P w K mg base (L2.CX P w) 5 (He.ma K (He.ga K "Logbook") "add") fd ["self", "sign"] (spAdd K) := by
  obtain ⟨fd, F⟩ := T.fm_Logbook_add
  obtain ⟨fc, bc, oc⟩ := ok_change (P := P) (w := w) (base := base) T
  refine ⟨fd, F.bindsN (ps := ["self", "sign"]) (fun _ _ _ _ _ _ us hl => match us, hl with | [_, _], _ => rfl), F.ok sc_Logbook_add (by rintro vs H Q E ⟨_, _, _, _, _, rfl, _⟩; rfl) ?_⟩
  rintro cdv A outer s H vs Q E hr ⟨G, a, b, v, d, rfl, gh, k, hb, ha, dv, hq⟩
  refine ⟨tws _ _, pss_tw, ?_⟩
  have st := sta_raw1 (x := "self") (y := "sign") (p := a.p) gh dv
  have hbt := (log60 hb.t).1
  refine tws_cons (twp_if ((show GT (cxM P w K mg base n_Logbook_add "Logbook.add" s_Logbook_add (He.ma K (He.ga K "Logbook") "add") cdv A outer s H E) _ [.raw (.ref a.p), .dat d] (!(sgOf d).isSome) from ge_sign T.fr_isinstance T.fr_str T.fr_len T.cs_SIGNS ha (gv 1) (gv 1) (gv 1)) _ G H _ st fun G1 H1 e1 => ?_))
  cases hs : sgOf d with
  | none =>
    rw [hs] at hq
    exact tws_cons (twp_raise T.ex_InvalidLog takesM (hq H1 e1.h))
  | some c =>
    rw [hs] at hq
    have hd : d = .str (S [c]) ∧ isSg c = true := by
      cases d with
      | str z =>
        have hs : sgL z.cps.toList = some c := hs
        have ez := S_of z
        generalize z.cps.toList = l at hs ez
        match l, hs with
        | [c'], hs =>
          have hs : (if isSg c' = true then some c' else none) = some c := hs
          by_cases hc : isSg c' = true
          · rw [if_pos hc] at hs
            cases hs
            exact ⟨by rw [ez], hc⟩
          · rw [if_neg hc] at hs
            cases hs
      | _ => cases hs
    obtain ⟨rfl, hsg⟩ := hd
    have hv : v = .str (S [c]) := by cases dv; rfl
    subst hv
    refine tws_nil ?_
    have k1 := k.kept e1.h e1.g e1.old
    refine tws_cons (twp_of (ps_expr (pe_meth (E := E) (pv 0) T.cl_Logbook T.me_Logbook_change oc (hr.mono (by decide)) bc .nil (passes_call takesM fun _ _ _ _ h => h) (pa_cons (pv 1) pa_nil))) ?_)
    refine ⟨_, rfl, a.p, a.dx, _, rfl, k1.ins, bf_no (by decide), _, rfl, G1, a, b, [c], rfl, e1.gh, k1, hb, by show 1 ≤ 1000; decide, ?_⟩
    have h1l : ([c] : List Nat).length = 1 := rfl
    rw [h1l]
    dsimp only at hq
    by_cases hle : b.t.length + 1 ≤ 60
    · rw [if_pos hle] at hq ⊢
      refine ⟨hq.1, fun G2 H2 a2 ch => ?_⟩
      refine tws_cons (ret_book rfl gh dv e1 ch (by rw [ch.pp.1]; rfl) ?_ hq.2 rfl)
      have hlen : (b.t ++ [c]).length ≤ 1000 := by rw [List.length_append, h1l]; omega
      refine ge_is (ge_cmp (ge_bin (ge_lenS T.fr_len (ge_fldP 0 fun G0 h => (phC_of h T).1) (by show (b.t ++ [c]).length ≤ _; omega)) ge_int b_sub) (ge_is (ge_call (can_find_faults T) hr (ga_cons (ge_fldP 0 fun G0 h => (phC_of h T).2) (ga_cons (ge_fldP 0 fun G0 h => (phC_of h T).1) ga_nil)) ⟨b.r, b.t ++ [c], hlen, rfl, rfl⟩) (by unfold intsD; rw [show (faultsL b.r (b.t ++ [c])).map (fun (i : Nat) => PyData.int (i : Nat)) = ((faultsL b.r (b.t ++ [c])).map fun (i : Nat) => (i : Int)).map PyData.int by rw [List.map_map]; rfl])) c_inL) (congrArg PyData.bool ?_)
      rw [Bool.eq_iff_iff, decide_eq_true_eq, decide_eq_true_eq, List.mem_map]
      have e2 : (((b.t ++ [c]).length : Nat) : Int) - 1 = (b.t.length : Nat) := by rw [List.length_append, h1l]; omega
      show (∃ i, i ∈ faultsL b.r (b.t ++ [c]) ∧ ((i : Nat) : Int) = (((b.t ++ [c]).length : Nat) : Int) - 1) ↔ _
      rw [e2]
      constructor
      · rintro ⟨i, hi, e⟩
        have : i = b.t.length := by omega
        exact this ▸ hi
      · exact fun hi => ⟨_, hi, rfl⟩
    · rw [if_neg hle] at hq ⊢
      exact fun H' sm => hq H' (e1.h.trans sm)
/-! ### rest -/
def spRest (K : PySem.W.Frag) : Sp := fun vs H Q E => ∃ (G : Hp) (a : BA) (b : Bk) (v : V) (d : PyData), vs = [.ref a.p, v] ∧ Same G H ∧ BkN K G H a b ∧ bsz b ∧ atom d = true ∧ Dq K G v d ∧
  ((okInt d 1 12 = false ∧ forall H', Same H H' -> E (.ref (He.ga K "InvalidMany")) none H') ∨ ∃ n : Nat, d = .int (n : Nat) ∧ 1 ≤ n ∧ n ≤ 12 ∧
    if b.t.length + n ≤ 60 then b.e.length < 1000 ∧ forall u G' H' a', Chg K G H a G' H' a' ⟨b.r, b.t ++ List.replicate n 82, b.e ++ [b.t], []⟩ -> Dq K G' u (.int (leftOf b.r (after b.r (b.t ++ List.replicate n 82)))) -> Q u H' else forall H', Same H H' -> E (.ref (He.ga K "TooLong")) none H')
theorem log_rest {l : List Nat} {n : Nat} (h : isLogL l = true) (hn : l.length + n ≤ 60) : isLogL (l ++ List.replicate n 82) = true := by
  unfold isLogL at h ⊢
  rw [Bool.and_eq_true, List.all_eq_true] at h
  rw [Bool.and_eq_true, decide_eq_true_eq, List.all_eq_true, List.length_append, List.length_replicate]
  refine ⟨by omega, fun c hc => ?_⟩
  rcases List.mem_append.mp hc with hc | hc
  · exact h.2 c hc
  · rw [List.eq_of_mem_replicate hc]; rfl
theorem ok_rest (T : Tp K mg) : ∃ fd, Binds K fd ["self", "many"] [] ∧ FnOk P w K mg base (L2.CX P w) 6 (He.ma K (He.ga K "Logbook") "rest") fd ["self", "many"] (spRest K) := by
  obtain ⟨fd, F⟩ := T.fm_Logbook_rest
  obtain ⟨fc, bc, oc⟩ := ok_change (P := P) (w := w) (base := base) T
  refine ⟨fd, F.bindsN (ps := ["self", "many"]) (fun _ _ _ _ _ _ us hl => match us, hl with | [_, _], _ => rfl), F.ok sc_Logbook_rest (by rintro vs H Q E ⟨_, _, _, _, _, rfl, _⟩; rfl) ?_⟩
  rintro cdv A outer s H vs Q E hr ⟨G, a, b, v, d, rfl, gh, k, hb, ha, dv, hq⟩
  refine ⟨tws _ _, pss_tw, ?_⟩
  have st := sta_raw1 (x := "self") (y := "many") (p := a.p) gh dv
  have hbt := (log60 hb.t).1
  have cond : GT (cxM P w K mg base n_Logbook_rest "Logbook.rest" s_Logbook_rest (He.ma K (He.ga K "Logbook") "rest") cdv A outer s H E) (match defBody s_Logbook_rest with | .If c _ _ _ :: _ => c | _ => .Constant .none 0 ⟨0, 0, 0, 0⟩) [.raw (.ref a.p), .dat d] (!okInt d 1 12) :=
    gt_not (gt_val (ge_call (can_is_int T) hr (ga_cons (gv 1) (ga_cons ge_int (ga_cons (gg_int T.ci_MAX_ADDED) ga_nil))) ⟨d, 1, 12, atom_noDict ha, rfl, rfl⟩))
  refine tws_cons (twp_if (cond _ G H _ st fun G1 H1 e1 => ?_))
  rcases hq with ⟨hno, hq⟩ | ⟨n, rfl, hn1, hn2, hq⟩
  · rw [hno]
    exact tws_cons (twp_raise T.ex_InvalidMany takesM (hq H1 e1.h))
  · have hok : okInt (.int (n : Nat)) 1 12 = true := by
      show (decide ((1 : Int) ≤ (n : Nat)) && decide (((n : Nat) : Int) ≤ 12)) = true
      rw [decide_eq_true (by omega), decide_eq_true (by omega)]
      rfl
    rw [hok]
    refine tws_nil ?_
    have k1 := k.kept e1.h e1.g e1.old
    have hmul : GE (cxM P w K mg base n_Logbook_rest "Logbook.rest" s_Logbook_rest (He.ma K (He.ga K "Logbook") "rest") cdv A outer s H E) (match defBody s_Logbook_rest with | _ :: .Expr (.Call _ [e] _ _) _ :: _ => e | _ => .Constant .none 0 ⟨0, 0, 0, 0⟩) [.raw (.ref a.p), .dat (.int (n : Nat))] (.str (S (List.replicate n 82))) :=
      ge_is (ge_bin (ggS [82] T.cs_REST) (gv 1) (b_mulS (by rw [Int.toNat_natCast]; show 1 * n ≤ _; omega) (by omega) (by omega))) (by rw [Int.toNat_natCast, rep_flat])
    refine tws_cons (twp_of (ps_expr (pe_meth (E := E) (pv 0) T.cl_Logbook T.me_Logbook_change oc (hr.mono (by decide)) bc .nil (passes_call takesM fun _ _ _ _ h => h) (pa_cons pe_tw pa_nil))) ?_)
    refine ⟨_, rfl, a.p, a.dx, _, rfl, k1.ins, bf_no (by decide), hmul _ G1 H1 _ (st.ext e1) fun u G2 H2 e2 du => ?_⟩
    cases du
    have k2 := k1.kept e2.h e2.g e2.old
    refine ⟨G2, a, b, List.replicate n 82, rfl, e2.gh, k2, hb, by rw [List.length_replicate]; omega, ?_⟩
    rw [List.length_replicate]
    by_cases hle : b.t.length + n ≤ 60
    · rw [if_pos hle] at hq ⊢
      refine ⟨hq.1, fun G3 H3 a3 ch => ?_⟩
      refine tws_cons (ret_book rfl gh dv (e1.trans e2) ch (by rw [ch.pp.1]; rfl) ?_ hq.2 rfl)
      exact ge_call (can_drive_left T) hr (ga_cons (ge_fldP 0 fun G0 h => (phC_of h T).2) (ga_cons (ge_fldP 0 fun G0 h => (phC_of h T).1) ga_nil)) (.inr ⟨b.r, b.t ++ List.replicate n 82, hb.r, log_rest hb.t hle, rfl, rfl⟩)
    · rw [if_neg hle] at hq ⊢
      exact fun H' sm => hq H' ((e1.trans e2).h.trans sm)
end
end Lw

namespace Lw
open PySem PySem.Spec L2 Gd
theorem lay_strL {l : List Nat} (h : forall c, c ∈ l -> c < 1114112) : PyData.canLay0 (.str (S l)) = true := by
  show (S l).cps.all (fun c => decide (c < 1114112)) = true
  rw [← Array.all_toList, S_cps, List.all_eq_true]
  exact fun c hc => decide_eq_true (h c hc)
theorem sh_logs (ys : List (List Nat)) (h : forall y, y ∈ ys -> isLogL y = true) : shap (.list (ys.map fun y => .str (S y))) = true :=
  shap_of 1 (shN_list ys fun y hy => lay_strL (log60 (h y hy)).2)
theorem eqv_nil' (ys : List (List Nat)) : PyData.eqv (.list (ys.map fun y => .str (S y))) (.list []) = decide (ys = []) := by
  cases ys <;> rfl
section
variable {P : Program} {w : World} {K : PySem.W.Frag} {mg : Str -> Option Value} {base : Heap}
/-! ### undo, redo -/
def spUndo (K : PySem.W.Frag) : Sp := fun vs H Q E => ∃ (G : Hp) (a : BA) (b : Bk), vs = [.ref a.p] ∧ Same G H ∧ BkN K G H a b ∧ bsz b ∧ ((b.e = [] ∧ forall H', Same H H' -> E (.ref (He.ga K "NothingToUndo")) none H') ∨ ∃ es t, b.e = es ++ [t] ∧ b.l.length < 1000 ∧ forall G' H' a', Chg K G H a G' H' a' ⟨b.r, t, es, b.l ++ [b.t]⟩ -> Q .non H')
def spRedo (K : PySem.W.Frag) : Sp := fun vs H Q E => ∃ (G : Hp) (a : BA) (b : Bk), vs = [.ref a.p] ∧ Same G H ∧ BkN K G H a b ∧ bsz b ∧ ((b.l = [] ∧ forall H', Same H H' -> E (.ref (He.ga K "NothingToUndo")) none H') ∨ ∃ ls t, b.l = ls ++ [t] ∧ b.e.length < 1000 ∧ forall G' H' a', Chg K G H a G' H' a' ⟨b.r, t, b.e ++ [b.t], ls⟩ -> Q .non H')
theorem tx_len (ys : List (List Nat)) : (tx ys).length = ys.length := by unfold tx; rw [List.length_map]
theorem tx_last (ys : List (List Nat)) (y : List Nat) : (tx (ys ++ [y]))[(tx (ys ++ [y])).length - 1]? = some (.str (S y)) ∧ (tx (ys ++ [y])).dropLast = tx ys := by
  rw [tx_app]
  refine ⟨?_, List.dropLast_concat⟩
  rw [List.length_append]
  simp
theorem ok_undo (T : Tp K mg) : ∃ fd, Binds K fd ["self"] [] ∧ FnOk P w K mg base (L2.CX P w) 1 (He.ma K (He.ga K "Logbook") "undo") fd ["self"] (spUndo K) := by
  obtain ⟨fd, F⟩ := T.fm_Logbook_undo
  refine ⟨fd, F.bindsN (ps := ["self"]) (fun _ _ _ _ _ _ us hl => match us, hl with | [_], _ => rfl), F.ok sc_Logbook_undo (by rintro vs H Q E ⟨_, _, _, rfl, _⟩; rfl) ?_⟩
  rintro cdv A outer s H vs Q E hr ⟨G, a, b, rfl, gh, k, hb, hq⟩
  refine ⟨tws _ _, pss_tw, ?_⟩
  have sta := sta_self (Nm := n_Logbook_undo) gh k (cs := []) (vs := []) rfl (by decide) no0 ok0
  have cond : GT (cxM P w K mg base n_Logbook_undo "Logbook.undo" s_Logbook_undo (He.ma K (He.ga K "Logbook") "undo") cdv A outer s H E) (match defBody s_Logbook_undo with | .If c _ _ _ :: _ => c | _ => .Constant .none 0 ⟨0, 0, 0, 0⟩) [.pin (.ref a.p) (phB K a b)] (decide (b.e = [])) :=
    gt_is (gt_cmp (ge_fldP 0 fun G0 h => (phB_of h T).2.2.1) (ge_lst ga_nil) (c_eqD hr.units (sh_logs b.e hb.e) (shap_of 1 rfl))) (eqv_nil' b.e)
  refine tws_cons (twp_if (cond _ H H _ sta fun G1 H1 e1 => ?_))
  have s1 : Same H H1 := e1.h
  rcases hq with ⟨he, hq⟩ | ⟨es, t, he, hl, hq⟩
  · rw [he]
    exact tws_cons (twp_raise T.ex_NothingToUndo takesM (hq H1 s1))
  · have hne : decide (b.e = []) = false := decide_eq_false (by rw [he]; simp)
    rw [hne]
    refine tws_nil ?_
    have h1p := s1 _ _ k.ins
    have h1e := s1 _ _ k.el
    have h1l := s1 _ _ k.ll
    have npe := k.pe
    have npl := k.pl
    have nde := k.de
    have ndl := k.dl
    have npd := k.pd
    have nel := k.ne
    refine tws_cons (twp_of (ps_expr (pe_bm PySem.F.plainAttrs_list PySem.F.slot_list_append PySem.F.type_list_append mt_append (pe_fld (pv 0) rfl) (pa_cons (pe_fld (pv 0) rfl) pa_nil))) ?_)
    refine ⟨_, rfl, a.p, _, a.dx, _, _, rfl, h1p, T.cl_Logbook, T.na_Logbook_later, bf_l, .inl ⟨rfl, _, SqL.of h1l⟩, _, rfl, a.p, _, a.dx, _, _, rfl, h1p, T.cl_Logbook, T.na_Logbook_text, bf_t, a.l, _, _, rfl, rfl, h1l, by rw [tx_len]; exact Nat.lt_of_lt_of_le hl (by decide), ?_⟩
    refine tws_cons (twp_of (ps_fld (pv 0) (pe_bm0 PySem.F.plainAttrs_list PySem.F.slot_list_pop PySem.F.type_list_pop mt_pop (pe_fld (pv 0) rfl)) rfl) ?_)
    have h2p : upd H1 a.l (.lst (tx b.l ++ [.str (S b.t)])) a.p = some (.ins (He.ga K "Logbook") a.dx (bf a.vr b.t a.e a.l)) := by rw [upd_ne npl]; exact h1p
    have h2e : upd H1 a.l (.lst (tx b.l ++ [.str (S b.t)])) a.e = some (.lst (tx (es ++ [t]))) := by rw [upd_ne nel, ← he]; exact h1e
    obtain ⟨l1, l2⟩ := tx_last es t
    refine ⟨_, rfl, a.p, _, a.dx, _, _, rfl, h2p, T.cl_Logbook, T.na_Logbook_earlier, bf_e, .inl ⟨rfl, _, SqL.of h2e⟩, a.e, _, _, rfl, rfl, h2e, l1, _, rfl, a.p, _, a.dx, _, rfl, by rw [upd_ne npe]; exact h2p, T.cl_Logbook, T.na_Logbook_text, by show 4 < 1000; decide, tws_nil ?_⟩
    rw [l2, put_t]
    refine hq G _ a ⟨Same.refl G, fun x u e => ?_, fun _ _ => rfl, fun x u n1 n2 n3 e => ?_, ⟨upd_same, ?_, ?_, ?_, k.gp, k.gd, k.ge, k.gl, nel, k.ru⟩, ⟨rfl, rfl⟩, ⟨.inl rfl, .inl rfl⟩, ?_, ?_⟩
    · have n1 : x ≠ a.p := ne_of_none e k.gp
      have n2 : x ≠ a.e := ne_of_none e k.ge
      have n3 : x ≠ a.l := ne_of_none e k.gl
      rw [upd_ne n1, upd_ne n2, upd_ne n3]
      exact s1 _ _ (gh _ _ e)
    · rw [upd_ne n1, upd_ne n2, upd_ne n3]
      exact s1 _ _ e
    · rw [upd_ne npd.symm, upd_ne nde, upd_ne ndl]
      exact s1 _ _ k.own
    · rw [upd_ne npe.symm, upd_same]
    · rw [upd_ne npl.symm, upd_ne nel.symm, upd_same]
      show _ = some (HO.lst (tx (b.l ++ [b.t])))
      rw [tx_app]
    · rw [upd_ne npe.symm, upd_same]
      exact fun z => nomatch z
    · rw [upd_ne npl.symm, upd_ne nel.symm, upd_same]
      exact fun z => nomatch z
theorem ok_redo (T : Tp K mg) : ∃ fd, Binds K fd ["self"] [] ∧ FnOk P w K mg base (L2.CX P w) 1 (He.ma K (He.ga K "Logbook") "redo") fd ["self"] (spRedo K) := by
  obtain ⟨fd, F⟩ := T.fm_Logbook_redo
  refine ⟨fd, F.bindsN (ps := ["self"]) (fun _ _ _ _ _ _ us hl => match us, hl with | [_], _ => rfl), F.ok sc_Logbook_redo (by rintro vs H Q E ⟨_, _, _, rfl, _⟩; rfl) ?_⟩
  rintro cdv A outer s H vs Q E hr ⟨G, a, b, rfl, gh, k, hb, hq⟩
  refine ⟨tws _ _, pss_tw, ?_⟩
  have sta := sta_self (Nm := n_Logbook_redo) gh k (cs := []) (vs := []) rfl (by decide) no0 ok0
  have cond : GT (cxM P w K mg base n_Logbook_redo "Logbook.redo" s_Logbook_redo (He.ma K (He.ga K "Logbook") "redo") cdv A outer s H E) (match defBody s_Logbook_redo with | .If c _ _ _ :: _ => c | _ => .Constant .none 0 ⟨0, 0, 0, 0⟩) [.pin (.ref a.p) (phB K a b)] (decide (b.l = [])) :=
    gt_is (gt_cmp (ge_fldP 0 fun G0 h => (phB_of h T).2.2.2) (ge_lst ga_nil) (c_eqD hr.units (sh_logs b.l hb.l) (shap_of 1 rfl))) (eqv_nil' b.l)
  refine tws_cons (twp_if (cond _ H H _ sta fun G1 H1 e1 => ?_))
  have s1 : Same H H1 := e1.h
  rcases hq with ⟨he, hq⟩ | ⟨ls, t, he, hl, hq⟩
  · rw [he]
    exact tws_cons (twp_raise T.ex_NothingToUndo takesM (hq H1 s1))
  · have hne : decide (b.l = []) = false := decide_eq_false (by rw [he]; simp)
    rw [hne]
    refine tws_nil ?_
    have h1p := s1 _ _ k.ins
    have h1e := s1 _ _ k.el
    have h1l := s1 _ _ k.ll
    have npe := k.pe
    have npl := k.pl
    have nde := k.de
    have ndl := k.dl
    have npd := k.pd
    have nel := k.ne
    refine tws_cons (twp_of (ps_expr (pe_bm PySem.F.plainAttrs_list PySem.F.slot_list_append PySem.F.type_list_append mt_append (pe_fld (pv 0) rfl) (pa_cons (pe_fld (pv 0) rfl) pa_nil))) ?_)
    refine ⟨_, rfl, a.p, _, a.dx, _, _, rfl, h1p, T.cl_Logbook, T.na_Logbook_earlier, bf_e, .inl ⟨rfl, _, SqL.of h1e⟩, _, rfl, a.p, _, a.dx, _, _, rfl, h1p, T.cl_Logbook, T.na_Logbook_text, bf_t, a.e, _, _, rfl, rfl, h1e, by rw [tx_len]; exact Nat.lt_of_lt_of_le hl (by decide), ?_⟩
    refine tws_cons (twp_of (ps_fld (pv 0) (pe_bm0 PySem.F.plainAttrs_list PySem.F.slot_list_pop PySem.F.type_list_pop mt_pop (pe_fld (pv 0) rfl)) rfl) ?_)
    have h2p : upd H1 a.e (.lst (tx b.e ++ [.str (S b.t)])) a.p = some (.ins (He.ga K "Logbook") a.dx (bf a.vr b.t a.e a.l)) := by rw [upd_ne npe]; exact h1p
    have h2l : upd H1 a.e (.lst (tx b.e ++ [.str (S b.t)])) a.l = some (.lst (tx (ls ++ [t]))) := by rw [upd_ne nel.symm, ← he]; exact h1l
    obtain ⟨l1, l2⟩ := tx_last ls t
    refine ⟨_, rfl, a.p, _, a.dx, _, _, rfl, h2p, T.cl_Logbook, T.na_Logbook_later, bf_l, .inl ⟨rfl, _, SqL.of h2l⟩, a.l, _, _, rfl, rfl, h2l, l1, _, rfl, a.p, _, a.dx, _, rfl, by rw [upd_ne npl]; exact h2p, T.cl_Logbook, T.na_Logbook_text, by show 4 < 1000; decide, tws_nil ?_⟩
    rw [l2, put_t]
    refine hq G _ a ⟨Same.refl G, fun x u e => ?_, fun _ _ => rfl, fun x u n1 n2 n3 e => ?_, ⟨upd_same, ?_, ?_, ?_, k.gp, k.gd, k.ge, k.gl, nel, k.ru⟩, ⟨rfl, rfl⟩, ⟨.inl rfl, .inl rfl⟩, ?_, ?_⟩
    · have n1 : x ≠ a.p := ne_of_none e k.gp
      have n2 : x ≠ a.e := ne_of_none e k.ge
      have n3 : x ≠ a.l := ne_of_none e k.gl
      rw [upd_ne n1, upd_ne n3, upd_ne n2]
      exact s1 _ _ (gh _ _ e)
    · rw [upd_ne n1, upd_ne n3, upd_ne n2]
      exact s1 _ _ e
    · rw [upd_ne npd.symm, upd_ne ndl, upd_ne nde]
      exact s1 _ _ k.own
    · rw [upd_ne npe.symm, upd_ne nel, upd_same]
      show _ = some (HO.lst (tx (b.e ++ [b.t])))
      rw [tx_app]
    · rw [upd_ne npl.symm, upd_same]
    · rw [upd_ne npe.symm, upd_ne nel, upd_same]
      exact fun z => nomatch z
    · rw [upd_ne npl.symm, upd_same]
      exact fun z => nomatch z
/-! ### __init__ -/
/-- a new book at p -/
structure MkB (K : PySem.W.Frag) (G H : Hp) (p dx : Addr) (G' H' : Hp) (a : BA) (b : Bk) : Prop where
  g : Same G G'
  gh : Same G' H'
  old : forall x, H x ≠ none -> G' x = G x
  keep : forall x u, x ≠ p -> H x = some u -> H' x = some u
  bk : BkN K G' H' a b
  pp : a.p = p ∧ a.dx = dx
  ne : H a.e = none ∧ H a.l = none
def spInit (K : PySem.W.Frag) : Sp := fun vs H Q E => ∃ (G : Hp) (p dx : Addr) (v : V) (d : PyData), vs = [.ref p, v] ∧ Same G H ∧ H p = some (.ins (He.ga K "Logbook") dx []) ∧ H dx = some (.own p) ∧ G p = none ∧ G dx = none ∧ noDict d = true ∧ Dq K G v d ∧
  ((isRules d = false ∧ forall H', Same H H' -> E (.ref (He.ga K "InvalidRules")) none H') ∨ ∃ r, d = ruD r ∧ isRules (ruD r) = true ∧ forall G' H' a', MkB K G H p dx G' H' a' ⟨r, [], [], []⟩ -> Q .non H')
theorem ok_init (T : Tp K mg) : ∃ fd, Binds K fd ["self", "rules"] [] ∧ FnOk P w K mg base (L2.CX P w) 4 (He.ma K (He.ga K "Logbook") "__init__") fd ["self", "rules"] (spInit K) := by
  obtain ⟨fd, F⟩ := T.fm_Logbook_init
  refine ⟨fd, F.bindsN (ps := ["self", "rules"]) (fun _ _ _ _ _ _ us hl => match us, hl with | [_, _], _ => rfl), F.ok sc_Logbook_init (by rintro vs H Q E ⟨_, _, _, _, _, rfl, _⟩; rfl) ?_⟩
  rintro cdv A outer s H vs Q E hr ⟨G, p, dx, v, d, rfl, gh, hp, hd, gp, gd, hnd, dv, hq⟩
  refine ⟨tws _ _, pss_tw, ?_⟩
  have st := sta_raw1 (x := "self") (y := "rules") (p := p) gh dv
  have no : NoOwn [Cell.raw (V.ref p), Cell.dat d] := fun i x h => by
    match i with
    | 0 => cases h
    | 1 => cases h
    | i + 2 => cases h
  have npd : p ≠ dx := fun z => by
    rw [z, hd] at hp
    cases hp
  rcases hq with ⟨hno, hq⟩ | ⟨r, rfl, hru, hq⟩
  · refine tws_cons (twp_data (Φ := { nx := fun _ => False, rt := fun _ => False }) (g1_exprX (gx_call (can_check_rules T) hr (ga_cons (gv 1) ga_nil) ⟨d, hnd, rfl, by rw [hno]; rfl⟩ (xok_keep (A := fun _ => True) takesM fun σ' H' sm => hq H' sm) trivial)) st no (fun _ _ _ _ _ _ z => z.elim) (fun _ _ _ _ _ _ z => z.elim) (fun _ z => z) fun _ z => z)
  · refine tws_cons (twp_of (ps_expr pe_tw) ((ge_call (d := .none) (can_check_rules T) hr (ga_cons (gv 1) ga_nil) ⟨ruD r, rfl, rfl, by rw [hru]; rfl⟩) _ G H _ st fun u G1 H1 e1 _ => ?_))
    have h1p := e1.h _ _ hp
    refine tws_cons (twp_of (ps_fld (pv 0) (pv 1) rfl) ⟨_, rfl, _, rfl, p, _, dx, _, rfl, h1p, T.cl_Logbook, T.na_Logbook_rules, by show 0 < 1000; decide, ?_⟩)
    refine tws_cons (twp_of (ps_fld (pv 0) pe_str rfl) ⟨_, rfl, p, _, dx, _, rfl, upd_same, T.cl_Logbook, T.na_Logbook_text, by show 1 < 1000; decide, ?_⟩)
    refine tws_cons (twp_of (ps_fld (pv 0) (pe_lst pa_nil) rfl) ⟨Nat.zero_le _, fun e he => ?_⟩)
    have npe : p ≠ e := fun z => by rw [← z, upd_same] at he; cases he
    have he1 : H1 e = none := by rwa [upd_ne npe.symm, upd_ne npe.symm] at he
    refine ⟨_, rfl, p, _, dx, _, rfl, by rw [upd_ne npe]; exact upd_same, T.cl_Logbook, T.na_Logbook_earlier, by show 2 < 1000; decide, ?_⟩
    refine tws_cons (twp_of (ps_fld (pv 0) (pe_lst pa_nil) rfl) ⟨Nat.zero_le _, fun l hl => ?_⟩)
    have npl : p ≠ l := fun z => by rw [← z, upd_same] at hl; cases hl
    have nel : e ≠ l := fun z => by rw [← z, upd_ne npe.symm, upd_same] at hl; cases hl
    have hl1 : H1 l = none := by rwa [upd_ne npl.symm, upd_ne nel.symm, upd_ne npl.symm, upd_ne npl.symm] at hl
    refine ⟨_, rfl, p, _, dx, _, rfl, by rw [upd_ne npl]; exact upd_same, T.cl_Logbook, T.na_Logbook_later, by show 3 < 1000; decide, tws_nil ?_⟩
    have he0 := e1.h.free he1
    have hl0 := e1.h.free hl1
    have nde : dx ≠ e := fun z => by rw [← z, hd] at he0; cases he0
    have ndl : dx ≠ l := fun z => by rw [← z, hd] at hl0; cases hl0
    have g1p : G1 p = none := by rw [e1.old p (by rw [hp]; exact fun z => nomatch z)]; exact gp
    have g1d : G1 dx = none := by rw [e1.old dx (by rw [hd]; exact fun z => nomatch z)]; exact gd
    refine hq G1 _ ⟨p, dx, e, l, v⟩ ⟨e1.g, fun x u q => ?_, e1.old, fun x u n q => ?_, ⟨?_, ?_, ?_, ?_, g1p, g1d, e1.gh.free he1, e1.gh.free hl1, nel, dv.mono e1.g⟩, ⟨rfl, rfl⟩, ⟨he0, hl0⟩⟩
    · have n1 : x ≠ p := ne_of_none q g1p
      have n2 : x ≠ e := ne_of_none q (e1.gh.free he1)
      have n3 : x ≠ l := ne_of_none q (e1.gh.free hl1)
      rw [upd_ne n1, upd_ne n3, upd_ne n1, upd_ne n2, upd_ne n1, upd_ne n1]
      exact e1.gh _ _ q
    · have n2 : x ≠ e := ne_of_none q he0
      have n3 : x ≠ l := ne_of_none q hl0
      rw [upd_ne n, upd_ne n3, upd_ne n, upd_ne n2, upd_ne n, upd_ne n]
      exact e1.h _ _ q
    · show upd _ p _ p = _
      rw [upd_same]
      exact congrArg (fun z => some (HO.ins (He.ga K "Logbook") dx z)) put_0
    · show upd _ p _ dx = _
      rw [upd_ne npd.symm, upd_ne ndl, upd_ne npd.symm, upd_ne nde, upd_ne npd.symm, upd_ne npd.symm]
      exact e1.h _ _ hd
    · show upd _ p _ e = _
      rw [upd_ne npe.symm, upd_ne nel, upd_ne npe.symm, upd_same]
      rfl
    · show upd _ p _ l = _
      rw [upd_ne npl.symm, upd_same]
      rfl
end
end Lw

namespace Gd
open PySem PySem.Spec L2
/-! ### functions without parameters, with any promise -/
abbrev Sp0 := Hp -> VK -> XK -> Prop
structure ThV (P : Program) (w : World) (K : PySem.W.Frag) (mg : Str -> Option Value) (base : Heap) (k : Nat) (G : Hp) (f : Addr) (sp : Sp0) : Prop where
  fn : ∃ o, G f = some (dR f o) ∧ forall h : Heap, h.get? f = some o -> PySem.W.FnAt f h
  run : forall (A : Around) (outer : List Env) (s : Shared) (H : Hp) (Q : VK) (E : XK), Room k A -> Env0 P w K mg base A outer s H -> Same G H -> sp H Q E -> codeAny (model P w) A (.call (.ref f) ⟨[], []⟩) (CR (L2.CX P w) outer P w H s Q E) s
theorem ThV.mono {P : Program} {w : World} {K : PySem.W.Frag} {mg : Str -> Option Value} {base : Heap} {k : Nat} {G G' : Hp} {f : Addr} {sp : Sp0} (t : ThV P w K mg base k G f sp) (s : Same G G') : ThV P w K mg base k G' f sp :=
  ⟨let ⟨o, a, b⟩ := t.fn; ⟨o, s _ _ a, b⟩, fun A outer s' H Q E hr e0 sg hE => t.run A outer s' H Q E hr e0 (s.trans sg) hE⟩
/-- .. as a function that raises -/
theorem ThV.th {P : Program} {w : World} {K : PySem.W.Frag} {mg : Str -> Option Value} {base : Heap} {k : Nat} {G G' : Hp} {f C : Addr} {sp : Sp0} (t : ThV P w K mg base k G f sp) (s : Same G G') (h : forall H E, Same G' H -> (forall H', Same H H' -> E (.ref C) none H') -> sp H (fun _ _ => False) E) : Th P w K mg base k G' f C :=
  ⟨let ⟨o, a, b⟩ := t.fn; ⟨o, s _ _ a, b⟩, fun A outer s' H E hr e0 sg hE => t.run A outer s' H _ E hr e0 (s.trans sg) (h H E sg hE)⟩
/-- x() -/
theorem tw_thunk {X : Cx} {k k' i : Nat} {G H : Hp} {f : Addr} {sp : Sp0} {σ : L2.St} {Q : VK} {x : Str} {p1 p2 : Pos} (t : ThV X.prog X.w X.K X.mg X.base k G f sp) (hr : Room k' X.A) (hk : k ≤ k') (gh : Same G H) (hσ : σ[i]? = some (some (.ref f))) (hsp : sp H Q E0)
    (hN : X.N[i]? = some x := by rfl) (hv : Vis X.env.scope x := by first | exact Or.inl rfl | exact Or.inr (Or.inl rfl) | exact Or.inr (Or.inr rfl)) (hd : (x == ("__debug__" : Str)) = false := by decide) (hcd : (x == ("__classdict__" : Str)) = false := by decide) : tw X (.Call (.Name x p1) [] [] p2) σ H Q := fun pins s I => Wp.mk <| by
  refine wpAny_Call_Name_kw (thn ((pe_var (pos := p1) hN hv hd hcd).run pins s σ H (fun v H1 => v = .ref f ∧ H1 = H) I ⟨.ref f, hσ, rfl, rfl⟩) fun u s1 ⟨v, H1, I1, r1, q1⟩ => ?_)
  obtain ⟨rfl, rfl⟩ := q1
  cases r1
  obtain ⟨o, of, fa⟩ := t.fn
  refine PySem.W.callWith_F0 (fa _ (dR_is I1.hok (gh _ _ of))) ?_
  refine wpAny_call (codeAny_mono (t.run X.A X.stack s1 H1 Q E0 (hr.mono hk) I1.env0 gh hsp) fun r s' hq => ?_)
  cases r with
  | error e => exact passL pins σ H1 s1 e s' I1 hq
  | ok fl =>
    cases fl with
    | ret u => exact I1.after hq
    | next => exact False.elim hq
    | brk => exact False.elim hq
    | cont => exact False.elim hq
/-! ### a lambda with any promise; what it has captured, by values -/
structure ClV (G : Hp) (cl : List (Str × Addr)) (fr : List Str) (vs : List V) : Prop where
  inj : forall x y c, cl.lookup x = some c -> cl.lookup y = some c -> x = y
  all : forall y c, (y, c) ∈ cl -> ∃ (o : Obj) (v : Option Value), G c = some (dR c o) ∧ o.data = .cell v
  len : vs.length = fr.length
  has : forall (i : Nat) (y : Str) (v : V), fr[i]? = some y -> vs[i]? = some v -> ∃ (c : Addr) (o : Obj) (u : Value), cl.lookup y = some c ∧ G c = some (dR c o) ∧ o.data = .cell (some u) ∧ RelV v u
/-- the promise does not lean on cells -/
def SpD (sp : Sp0) : Prop := forall (H : Hp) (Q : VK) (E : XK) (D : Dm), (forall c o, D c = some o -> H c = some (dR c o) ∧ ∃ v, o.data = .cell v) -> sp H Q E -> sp (delH H D) (fun v H' => (forall c o, D c = some o -> H' c = none) -> Q v (addH H' D)) (fun cls d H' => (forall c o, D c = some o -> H' c = none) -> E cls d (addH H' D))
section
variable {P : Program} {w : World} {K : PySem.W.Frag} {mg : Str -> Option Value} {base : Heap} {k : Nat} {G0 : Hp} {f c' : Addr} {q : Str} {params : Arguments} {body : Expr} {scope : Scope} {cl : List (Str × Addr)} {pm ctv : Value} {fr : List Str} {vs : List V} {sp : Sp0}
theorem lam_thV (hf : G0 f = some (dR f (PySem.W.kla_obj "<lambda>" q params body scope cl pm c' ctv))) (hc : G0 c' = some (LamX.CodeO c' q)) (S : NdefX.NScope fr [] fr scope) (hcl : ClV G0 cl fr vs) (hD : SpD sp)
    (hbind : bindArgs (PySem.W.kla_fn "<lambda>" q params body scope cl pm (.ref c') ctv) ⟨[], []⟩ = pure [])
    (hbody : forall (A : Around) (outer : List Env) (s : Shared) (H : Hp) (Q : VK) (E : XK), Room k (lcx P w K mg base fr q params scope cl c' f A outer s H E).A -> sp H Q E -> tw (lcx P w K mg base fr q params scope cl c' f A outer s H E) body (vs.map some) H Q) : ThV P w K mg base (k + 1) G0 f sp := by
  refine ⟨⟨_, hf, fun h e => ⟨_, _, _, _, e⟩⟩, fun A outer s H Q E hr e0 sg hsp => ?_⟩
  generalize hDe : (fun c => if c ∈ cl.map (·.2) then s.heap.get? c else none : Dm) = D
  have hDc : forall c o, D c = some o -> (∃ y, (y, c) ∈ cl) ∧ s.heap.get? c = some o := fun c o e => by
    rw [← hDe] at e
    have e : (if c ∈ cl.map (·.2) then s.heap.get? c else none) = some o := e
    by_cases hm : c ∈ cl.map (·.2)
    · rw [if_pos hm] at e
      obtain ⟨p, hp, rfl⟩ := List.mem_map.mp hm
      exact ⟨⟨p.1, hp⟩, e⟩
    · rw [if_neg hm] at e
      cases e
  have hDi : forall y c o, (y, c) ∈ cl -> s.heap.get? c = some o -> D c = some o := fun y c o hm e => by
    rw [← hDe]
    show (if c ∈ cl.map (·.2) then s.heap.get? c else none) = some o
    rw [if_pos (List.mem_map.mpr ⟨(y, c), hm, rfl⟩)]
    exact e
  have hG : forall c o, D c = some o -> G0 c = some (dR c o) ∧ ∃ v, o.data = .cell v := fun c o e => by
    obtain ⟨⟨y, hm⟩, hg⟩ := hDc c o e
    obtain ⟨o', v, h1, h2⟩ := hcl.all y c hm
    have := dR_is e0.hok (sg _ _ h1)
    rw [hg] at this
    cases this
    exact ⟨h1, v, h2⟩
  have hn : forall c o, D c = some o -> H c = some (dR c o) := fun c o e => sg _ _ (hG c o e).1
  have hadd : AddOk D (delH H D) s.heap (frs outer) := fun c o e => ⟨delH_in e, (hDc c o e).2, fun z => by
    have := e0.frf c z
    rw [hn c o e] at this
    cases this⟩
  have hof := dR_is e0.hok (sg _ _ hf)
  obtain ⟨⟨oc, vs', t, hoc, hdc, hvc⟩, _, _⟩ := e0.hok c' _ (sg _ _ hc)
  have lim : s.heap.NoLimit := e0.mod.nolimit.keeps fun b o e => (e0.bs b o e).1
  have key : codeAny (model P w) A (.call (.ref f) ⟨[], []⟩) (CR (L2.CX P w) outer P w (delH H D) s (fun v H' => (forall c o, D c = some o -> H' c = none) -> Q v (addH H' D)) fun cls d H' => (forall c o, D c = some o -> H' c = none) -> E cls d (addH H' D)) s := by
    refine PySem.W.kla_callFunE hr.depth hof rfl S.co S.gen rfl ⟨c', oc, vs', t, rfl, hoc, hdc, hvc⟩ ?_
    rw [hbind]
    refine wpAny_pure (wpAny_newFunctionEnv S.nocell (fun y hy => absurd hy (by simp)) (fun h₁ hns hsb => ⟨lim.fresh _ hsb, ?_⟩) S.kind)
    show codeAny _ _ (.expr body (lcx P w K mg base fr q params scope cl c' f A outer s (delH H D) fun cls d H' => (forall c o, D c = some o -> H' c = none) -> E cls d (addH H' D)).env) _ _
    have kp : forall b o, s.heap.get? b = some o -> h₁.get? b = some o := fun b o e => hsb.extBut b o (Nat.ne_of_lt (Heap.lt_size e)) (Heap.get?_push_of_some _ e)
    have inC : forall y c, cl.lookup y = some c -> (y, c) ∈ cl := fun y c e => PySem.mem_of_lookup e
    have CA : NdefX.CellsAt cl fr (vs.map some) s.heap (delH H D) := by
      refine ⟨by rw [List.length_map, hcl.len], fun y c e => ?_, hcl.inj, fun i y e => ?_⟩
      · obtain ⟨o, v, h1, h2⟩ := hcl.all y c (inC y c e)
        have hg := dR_is e0.hok (sg _ _ h1)
        exact ⟨delH_in (hDi y c o (inC y c e) hg), v, o, hg, h2⟩
      · have hi : i < vs.length := by rw [hcl.len]; exact (List.getElem?_eq_some_iff.mp e).1
        obtain ⟨c, o, u, h1, h2, h3, h4⟩ := hcl.has i y vs[i] e (List.getElem?_eq_getElem hi)
        refine ⟨c, h1, fun v hv => ⟨u, ?_, o, dR_is e0.hok (sg _ _ h2), h3⟩⟩
        rw [List.getElem?_map, List.getElem?_eq_getElem hi] at hv
        cases hv
        exact h4
    have J := NdefX.inv_startN (CX := L2.CX P w) (F := ⟨"<lambda>", q, params, [], scope, cl, c'⟩) (f := f) (E := fun cls d H' => (forall c o, D c = some o -> H' c = none) -> E cls d (addH H' D)) (us := []) (vs := []) (h₁ := h₁) (tk := s.toks + ([] : List (Str × Value)).length) S hr.hd (env0_del e0 hn) rfl .nil CA hns kp
    have es : NdefX.startF fr [] (vs.map some) = vs.map some := by
      unfold NdefX.startF
      have : fr.length - ([] : List V).length - (vs.map some).length = 0 := by rw [List.length_map, hcl.len]; simp
      rw [this]
      simp
    rw [es] at J
    have hsp' := hD H Q E D (fun c o e => ⟨hn c o e, (hG c o e).2⟩) hsp
    refine PySem.W.kla_codeExpr (wpAny_mono (hbody A outer s (delH H D) _ _ (hr.deeper _) hsp' [] _ J).run (fun v s' hq => ?_) fun e s' hq => hq)
    obtain ⟨v', H', J', rv, q'⟩ := hq
    exact ⟨v', H', J'.os, J'.bare, J'.base, J'.hok, rv, q'⟩
  have hC := codeAny_mono key fun r s' h => cr_add (Q' := Q) (E' := E) hadd (fun v H' z q => q z) (fun cls d H' z q => q z) h
  rw [add_del hn] at hC
  exact hC
end
section
variable {X : Cx} {T : List (Addr × Str)} {params : Arguments} {body : Expr} {scope : Scope} {σ : L2.St} {G H : Hp} {kt : Nat} {fr : List Str} {js : List Nat} {vs : List V} {f : Addr} {sp : Sp0}
/-- a lambda that the running body has made, its cells tracked -/
theorem lamV_now {H2 : Hp} {D : Dm} (LF : LamF X params body scope G f) (L : LamX.LamS X.env.scope scope) (S : NdefX.NScope fr [] fr scope) (hjs : js.map (fun j => X.N[j]?) = fr.map some) (hbind : forall (q : Str) (cl : List (Str × Addr)) (pm cv ctv : Value), bindArgs (PySem.W.kla_fn "<lambda>" q params body scope cl pm cv ctv) ⟨[], []⟩ = pure []) (ok : X.Ok) (cd : CellsD X σ H2 D) (hG : forall c o, D c = some o -> G c = some (dR c o))
    (hl : vs.length = fr.length) (hc : forall (i j : Nat) (v : V), js[i]? = some j -> vs[i]? = some v -> σ[j]? = some (some v)) (hD : SpD sp)
    (hbody : forall (q : Str) (cl : List (Str × Addr)) (c' f : Addr) (A : Around) (outer : List Env) (s : Shared) (H : Hp) (Q : VK) (E : XK), Room kt (lcx X.prog X.w X.K X.mg X.base fr q params scope cl c' f A outer s H E).A -> sp H Q E -> tw (lcx X.prog X.w X.K X.mg X.base fr q params scope cl c' f A outer s H E) body (vs.map some) H Q) : ThV X.prog X.w X.K X.mg X.base (kt + 1) G f sp := by
  obtain ⟨c', pm, ctv, hf, hco⟩ := LF.ex
  have hfr : forall y, y ∈ fr -> (y, NameKind.free) ∈ scope.names := fun y hy => PySem.mem_of_lookup (S.frk y hy)
  have caps := NdefX.Caps.made (X := X) (scope := scope) (fr := fr) (js := js) ok L.free hfr hjs
  have hfree := L.has ok
  have hjl : js.length = fr.length := by
    have := congrArg List.length hjs
    rwa [List.length_map, List.length_map] at this
  refine lam_thV hf hco S ⟨fun x y a e1 e2 => cd.inj x y a (caps.sub x a e1) (caps.sub y a e2), fun y a hm => ?_, hl, fun i y v e1 e2 => ?_⟩ hD (hbind _ _ _ _ _) fun A outer s H Q E hr hs => hbody _ _ _ _ A outer s H Q E hr hs
  · rcases cloFrom_mem hm with h | ⟨h1, h2⟩
    · cases h
    · obtain ⟨a1, ha⟩ := hfree _ h1 rfl
      have ha : X.env.cells.lookup y = some a1 := ha
      have ea : a = a1 := by
        rw [h2, ha] <;> rfl
      subst ea
      obtain ⟨o, v, d1, d2⟩ := cd.all y a ha
      exact ⟨o, v, hG _ _ d1, d2⟩
  · have hj : i < js.length := by rw [hjl]; exact (List.getElem?_eq_some_iff.mp e1).1
    have a1 : js[i]? = some js[i] := List.getElem?_eq_getElem hj
    have a2 := hc i _ v a1 e2
    have e3 : (js.map fun j => X.N[j]?)[i]? = some (some y) := by
      rw [hjs, List.getElem?_map, e1] <;> rfl
    rw [List.getElem?_map, a1] at e3
    obtain ⟨a, o, u, b1, b2, b3, b4⟩ := cd.val js[i] y v (Option.some.inj e3) a2 (caps.kin y (List.mem_of_getElem? e1))
    exact ⟨a, o, u, caps.sup y (List.mem_of_getElem? e1) a b1, hG _ _ b2, b3, b4⟩
end
/-! ### the end of a def that gives a list of functions: its cells are left behind -/
theorem pub_endV {X : Cx} {T : List (Addr × Str)} {Gs Hs G H : Hp} {q : Addr} {xs : List V} {σ : L2.St} {D : Dm} {Q : VK} (s : FnSt T Gs Hs G H q xs) (cd : CellsD X σ H D) (hD : forall c o, D c = some o -> Hs c = none)
    (hq : forall G0 G' H', ExtT T Gs Hs G' H' -> (forall p ps, Hs p = some (.tbl ps) -> ∃ qs, H' p = some (.tbl qs)) -> Same G0 G' -> NoTb G0 -> G0 q = some (.lst xs) -> (forall c o, D c = some o -> G0 c = some (dR c o)) -> (forall b u, G b = some u -> (forall ps, u ≠ .tbl ps) -> G0 b = some u) -> Q (.ref q) H') : Q (.ref q) (addH H D) := by
  have hDH : forall b u, H b = some u -> D b = none := fun b u e => by
    cases eD : D b with
    | none => rfl
    | some o =>
      have := cd.free b o eD
      rw [e] at this
      cases this
  have hDq := hDH q _ s.hq
  have hDG : forall b u, G b = some u -> D b = none ∧ b ≠ q := fun b u e => ⟨hDH b u (s.e.gh _ _ e), ne_of_none e s.gq⟩
  have big : forall b u, G b = some u -> addH (upd G q (.lst xs)) D b = some u := fun b u e => by
    obtain ⟨h1, h2⟩ := hDG b u e
    rw [addH_out h1, upd_ne h2]
    exact e
  have small : forall b u, G b = some u -> (forall ps, u ≠ .tbl ps) -> addH (upd (noT G) q (.lst xs)) D b = some u := fun b u e n => by
    obtain ⟨h1, h2⟩ := hDG b u e
    rw [addH_out h1, upd_ne h2]
    exact noT_of e n
  refine hq (addH (upd (noT G) q (.lst xs)) D) (addH (upd G q (.lst xs)) D) (addH H D) ⟨fun b u e => big b u (s.e.g _ _ e), fun b u e n => ?_, fun b u e => ?_, fun a ha => ?_, fun p hp => ?_⟩ (fun p ps e => ?_) (fun b u e => ?_) (fun b ps e => ?_) ?_ (fun c o e => addH_in e) small
  · have := s.e.h b u e n
    rw [addH_out (hDH b u this)]; exact this
  · cases eD : D b with
    | some o => rw [addH_in eD] at e ⊢; exact e
    | none =>
      rw [addH_out eD] at e ⊢
      by_cases hb : b = q
      · rw [hb, upd_same] at e
        rw [hb, s.hq]
        exact e
      · rw [upd_ne hb] at e
        exact s.e.gh _ _ e
  · have n1 : D a = none := by
      cases eD : D a with
      | none => rfl
      | some o => exact absurd (hD a o eD) ha
    have n2 : a ≠ q := fun z => ha (by rw [z]; exact s.hs)
    rw [addH_out n1, upd_ne n2]
    exact s.e.old a ha
  · obtain ⟨ps, a1, a2, a3, a4⟩ := s.e.tab p hp
    have n1 := hDH _ _ a1
    have n2 : p.1 ≠ q := fun z => by rw [z, s.hq] at a1; cases a1
    refine ⟨ps, by rw [addH_out n1]; exact a1, by rw [addH_out n1, upd_ne n2]; exact a2, a3, fun pos cv hc => ?_⟩
    obtain ⟨c, b1, b2⟩ := a4 pos cv hc
    exact ⟨c, b1, big _ _ b2⟩
  · obtain ⟨qs, z⟩ := s.tb p ps e
    exact ⟨qs, by rw [addH_out (hDH _ _ z)]; exact z⟩
  · cases eD : D b with
    | some o => rw [addH_in eD] at e ⊢; exact e
    | none =>
      rw [addH_out eD] at e ⊢
      by_cases hb : b = q
      · rw [hb, upd_same] at e ⊢; exact e
      · rw [upd_ne hb] at e ⊢; exact (noT_some e).1
  · cases eD : D b with
    | some o => rw [addH_in eD] at e; exact tbl_ne ps (Option.some.inj e)
    | none =>
      rw [addH_out eD] at e
      by_cases hb : b = q
      · rw [hb, upd_same] at e; cases e
      · rw [upd_ne hb] at e; exact (noT_some e).2 ps rfl
  · rw [addH_out hDq, upd_same]
end Gd

namespace Lw
open PySem PySem.Spec L2 Gd
section
variable {P : Program} {w : World} {K : PySem.W.Frag} {mg : Str -> Option Value} {base : Heap}
theorem can_cc (T : Tp K mg) : Can P w K mg base 5 "counters_counters" (RX K fun r l => shD (after r l)) := by
  obtain ⟨f, fd, ps, h1, h2, h3, h4⟩ := (can_counters (P := P) (w := w) (base := base) T).ex
  have e : f = He.ga K "counters_counters" := by
    rw [T.gl_counters] at h1
    cases h1
    exact (ali_of T.xa).symm
  exact ⟨f, fd, ps, by rw [e]; exact T.gl_counters_counters, h2, h3, h4⟩
/-! ### methods that read -/
def spLog (K : PySem.W.Frag) : Sp := fun vs H Q _ => ∃ (G : Hp) (a : BA) (b : Bk), vs = [.ref a.p] ∧ Same G H ∧ BkN K G H a b ∧ forall H', Same H H' -> Q (.str (S b.t)) H'
theorem ok_log (T : Tp K mg) : ∃ fd, Binds K fd ["self"] [] ∧ FnOk P w K mg base (L2.CX P w) 1 (He.ma K (He.ga K "Logbook") "log") fd ["self"] (spLog K) := by
  obtain ⟨fd, F⟩ := T.fm_Logbook_log
  refine ⟨fd, F.bindsN (ps := ["self"]) (fun _ _ _ _ _ _ us hl => match us, hl with | [_], _ => rfl), F.ok sc_Logbook_log (by rintro vs H Q E ⟨_, _, _, rfl, _⟩; rfl) ?_⟩
  rintro cdv A outer s H vs Q E hr ⟨G, a, b, rfl, gh, k, hq⟩
  refine ⟨tws _ _, pss_tw, ?_⟩
  have sta := sta_self (Nm := n_Logbook_log) gh k (cs := []) (vs := []) rfl (by decide) no0 ok0
  have ev : GE (cxM P w K mg base n_Logbook_log "Logbook.log" s_Logbook_log (He.ma K (He.ga K "Logbook") "log") cdv A outer s H E) (match defBody s_Logbook_log with | .Return (some e) _ :: _ => e | _ => .Constant .none 0 ⟨0, 0, 0, 0⟩) [.pin (.ref a.p) (phB K a b)] (.str (S b.t)) :=
    ge_fldP 0 fun G0 h => (phB_of h T).1
  refine tws_cons (twp_ret (ev _ H H _ sta fun v G1 H1 e1 dv => ?_))
  cases dv
  exact hq H1 e1.h
def spLenB (K : PySem.W.Frag) : Sp := fun vs H Q _ => ∃ (G : Hp) (a : BA) (b : Bk), vs = [.ref a.p] ∧ Same G H ∧ BkN K G H a b ∧ b.t.length ≤ 1000 ∧ forall H', Same H H' -> Q (.int (b.t.length : Nat)) H'
theorem ok_lenB (T : Tp K mg) : ∃ fd, Binds K fd ["self"] [] ∧ FnOk P w K mg base (L2.CX P w) 1 (He.ma K (He.ga K "Logbook") "__len__") fd ["self"] (spLenB K) := by
  obtain ⟨fd, F⟩ := T.fm_Logbook_len
  refine ⟨fd, F.bindsN (ps := ["self"]) (fun _ _ _ _ _ _ us hl => match us, hl with | [_], _ => rfl), F.ok sc_Logbook_len (by rintro vs H Q E ⟨_, _, _, rfl, _⟩; rfl) ?_⟩
  rintro cdv A outer s H vs Q E hr ⟨G, a, b, rfl, gh, k, hl, hq⟩
  refine ⟨tws _ _, pss_tw, ?_⟩
  have sta := sta_self (Nm := n_Logbook_len) gh k (cs := []) (vs := []) rfl (by decide) no0 ok0
  have ev : GE (cxM P w K mg base n_Logbook_len "Logbook.__len__" s_Logbook_len (He.ma K (He.ga K "Logbook") "__len__") cdv A outer s H E) (match defBody s_Logbook_len with | .Return (some e) _ :: _ => e | _ => .Constant .none 0 ⟨0, 0, 0, 0⟩) [.pin (.ref a.p) (phB K a b)] (.int (b.t.length : Nat)) :=
    ge_lenS T.fr_len (ge_fldP 0 fun G0 h => (phB_of h T).1) (Nat.le_trans hl (by decide))
  refine tws_cons (twp_ret (ev _ H H _ sta fun v G1 H1 e1 dv => ?_))
  cases dv
  exact hq H1 e1.h
def spCnt (K : PySem.W.Frag) : Sp := fun vs H Q _ => ∃ (G : Hp) (a : BA) (b : Bk), vs = [.ref a.p] ∧ Same G H ∧ BkN K G H a b ∧ bsz b ∧ forall v G' H', Gd.Ext G H G' H' -> Dq K G' v (shD (after b.r b.t)) -> Q v H'
theorem ok_cnt (T : Tp K mg) : ∃ fd, Binds K fd ["self"] [] ∧ FnOk P w K mg base (L2.CX P w) 6 (He.ma K (He.ga K "Logbook") "counters") fd ["self"] (spCnt K) := by
  obtain ⟨fd, F⟩ := T.fm_Logbook_counters
  refine ⟨fd, F.bindsN (ps := ["self"]) (fun _ _ _ _ _ _ us hl => match us, hl with | [_], _ => rfl), F.ok sc_Logbook_counters (by rintro vs H Q E ⟨_, _, _, rfl, _⟩; rfl) ?_⟩
  rintro cdv A outer s H vs Q E hr ⟨G, a, b, rfl, gh, k, hb, hq⟩
  refine ⟨tws _ _, pss_tw, ?_⟩
  have st := sta_book gh k (σ := L2.start n_Logbook_counters [.ref a.p]) (cs := []) (vs := []) (n := 0) rfl rfl no0 ok0
  have ev : GE (cxM P w K mg base n_Logbook_counters "Logbook.counters" s_Logbook_counters (He.ma K (He.ga K "Logbook") "counters") cdv A outer s H E) (match defBody s_Logbook_counters with | .Return (some e) _ :: _ => e | _ => .Constant .none 0 ⟨0, 0, 0, 0⟩) [.pin (.ref a.p) (phC K a b)] (shD (after b.r b.t)) :=
    ge_call (can_cc T) hr (ga_cons (ge_fldP 0 fun G0 h => (phC_of h T).2) (ga_cons (ge_fldP 0 fun G0 h => (phC_of h T).1) ga_nil)) (.inr ⟨b.r, b.t, hb.r, hb.t, rfl, rfl⟩)
  refine tws_cons (twp_ret (ev _ _ H _ st fun v G1 H1 e1 dv => ?_))
  obtain ⟨e4, l4⟩ := ext_ins k.gp e1
  exact hq v _ H1 e4 (dv.lessI l4)
/-! ### __eq__ -/
theorem pin_book {G H : Hp} {a : BA} {b : Bk} (gh : Same G H) (k : BkN K G H a b) : CellOk K H H (some (.ref a.p)) (.pin (.ref a.p) (phB K a b)) := by
  refine ⟨rfl, noT H, fun x u e => (noT_some e).1, fun x ps e => (noT_some e).2 ps rfl, ⟨noT_of k.ins (fun ps z => nomatch z), noT_of k.el (fun ps z => nomatch z), noT_of k.ll (fun ps z => nomatch z), ?_⟩⟩
  exact (k.ru.mono gh).less fun x u e => by
    by_cases ht : ∃ ps, u = .tbl ps
    · exact .inr (.inr ht)
    · exact .inl (noT_of e fun ps y => ht ⟨ps, y⟩)
def spEqB (K : PySem.W.Frag) : Sp := fun vs H Q _ => ∃ (G : Hp) (a : BA) (b : Bk), Same G H ∧ BkN K G H a b ∧
  ((∃ z, vs = [.ref a.p, .str z] ∧ forall H', Same H H' -> Q (.bl false) H') ∨ ∃ (G2 : Hp) (a2 : BA) (b2 : Bk), vs = [.ref a.p, .ref a2.p] ∧ Same G2 H ∧ BkN K G2 H a2 b2 ∧ b2.r = b.r ∧ forall H', Same H H' -> Q (.bl (decide (b.t = b2.t))) H')
theorem ge_isC {X : Cx} {ρ : Rho} {x : Str} {Cl : Addr} {i : Nat} {v : V} {φ : Hp -> Prop} {c : Bool} {p1 p2 p3 pos : Pos} {t : Value} (hI : X.mg "isinstance" = none) (hL : X.mg "Logbook" = some (.ref Cl)) (h : forall (σ : L2.St) (G H : Hp), Sta X.K G H σ ρ -> ∃ v, σ[i]? = some (some v) ∧ TyX X.K H v t) (hk : PySem.W.kitOne X.K t (.ref Cl) = some c)
    (hN : X.N[i]? = some x := by rfl) (hv : Vis X.env.scope x := by first | exact Or.inl rfl | exact Or.inr (Or.inl rfl) | exact Or.inr (Or.inr rfl)) (g1 : Gl X "isinstance" := by rfl) (g2 : Gl X "Logbook" := by rfl) (hd : (x == ("__debug__" : Str)) = false := by decide) (hcd : (x == ("__classdict__" : Str)) = false := by decide)
    (hs1 : starEach [.Name x p2, .Name "Logbook" p3] X.env = (false, eval (.Name x p2) X.env) :: starEach [.Name "Logbook" p3] X.env := by rfl) (hs2 : starEach [.Name "Logbook" p3] X.env = (false, eval (.Name "Logbook" p3) X.env) :: starEach [] X.env := by rfl) (hpl : (backTo pos (starEach [.Name "Logbook" p3] X.env)).any (·.1) = false := by rfl) :
    GE X (.Call (.Name "isinstance" p1) [.Name x p2, .Name "Logbook" p3] [] pos) ρ (.bool c) :=
  ge_of (pe_callB call_isi g1 hI (by decide +kernel) (pa_cons (pe_var hN hv hd hcd) (pa_cons (pe_glob (v := .ref Cl) g2 hL rfl (by decide)) pa_nil hs2) hs1) (by decide) (by decide) hs1 hpl) fun σ G H Q s q => by
    obtain ⟨v, h1, h2⟩ := h σ G H s
    exact ⟨v, h1, v, .ref Cl, t, .ref Cl, c, rfl, .own Cl, h2, hk, q _ G H (.refl s.gh) (.bl c)⟩
theorem ok_eqB (T : Tp K mg) : ∃ fd, Binds K fd ["self", "other"] [] ∧ FnOk P w K mg base (L2.CX P w) 2 (He.ma K (He.ga K "Logbook") "__eq__") fd ["self", "other"] (spEqB K) := by
  obtain ⟨fd, F⟩ := T.fm_Logbook_eq
  refine ⟨fd, F.bindsN (ps := ["self", "other"]) (fun _ _ _ _ _ _ us hl => match us, hl with | [_, _], _ => rfl), F.ok sc_Logbook_eq (by rintro vs H Q E ⟨_, _, _, _, _, ⟨_, rfl, _⟩ | ⟨_, _, _, rfl, _⟩⟩ <;> rfl) ?_⟩
  rintro cdv A outer s H vs Q E hr ⟨G, a, b, gh, k, hq⟩
  have ec := eqC_of T.xq
  refine ⟨tws _ _, pss_tw, ?_⟩
  rcases hq with ⟨z, rfl, hq⟩ | ⟨G2, a2, b2, rfl, gh2, k2, hr2, hq⟩
  · have sta := sta_self (Nm := n_Logbook_eq) gh k (cs := [.dat (.str z)]) (vs := [.str z]) rfl (by show 1 < 2; decide) no1 (ok1 (.str z))
    have ev : GE (cxM P w K mg base n_Logbook_eq "Logbook.__eq__" s_Logbook_eq (He.ma K (He.ga K "Logbook") "__eq__") cdv A outer s H E) (match defBody s_Logbook_eq with | .Return (some e) _ :: _ => e | _ => .Constant .none 0 ⟨0, 0, 0, 0⟩) [.pin (.ref a.p) (phB K a b), .dat (.str z)] (.bool false) :=
      ge_is (ge_and (c' := true) (ge_isC (i := 1) (v := .str z) (φ := fun _ => True) (t := .type "str") T.fr_isinstance T.gl_Logbook (fun σ G H s => by
        obtain ⟨v, h1, h2⟩ := s.dat (i := 1) rfl
        cases h2
        exact ⟨_, h1, .base (.str z)⟩) ec.st) fun z => by cases z) rfl
    refine tws_cons (twp_ret (ev _ H H _ sta fun v G1 H1 e1 dv => ?_))
    cases dv
    exact hq H1 e1.h
  · have sta := sta_self (Nm := n_Logbook_eq) gh k (cs := [.pin (.ref a2.p) (phB K a2 b2)]) (vs := [.ref a2.p]) rfl (by show 1 < 2; decide) (fun i x h => by
      match i with
      | 0 => cases h
      | i + 1 => cases h) (fun i c v h1 h2 => by
      match i with
      | 0 =>
        cases h1
        cases h2
        exact pin_book gh2 k2
      | i + 1 => cases h1)
    have ev : GE (cxM P w K mg base n_Logbook_eq "Logbook.__eq__" s_Logbook_eq (He.ma K (He.ga K "Logbook") "__eq__") cdv A outer s H E) (match defBody s_Logbook_eq with | .Return (some e) _ :: _ => e | _ => .Constant .none 0 ⟨0, 0, 0, 0⟩) [.pin (.ref a.p) (phB K a b), .pin (.ref a2.p) (phB K a2 b2)] (.bool (decide (b.t = b2.t))) := by
      refine ge_is (ge_and (ge_isC (i := 1) (v := .ref a2.p) (φ := phB K a2 b2) (t := .ref (He.ga K "Logbook")) (c := true) T.fr_isinstance T.gl_Logbook (fun σ G H s => ?_) (by unfold PySem.W.kitOne; rw [if_pos (beq_self_eq_true _)])) fun _ => ge_and (ge_is (d1 := .bool true) (ge_cmp (ge_fldP 0 fun G0 h => (phB_of h T).2.1) (ge_fldP 1 fun G0 h => (phB_of h T).2.1) (c_eqD hr.units (shap_of 1 rfl) (shap_of 1 rfl))) ?_) fun _ => ge_one (ge_cmp (ge_fldP 0 fun G0 h => (phB_of h T).1) (ge_fldP 1 fun G0 h => (phB_of h T).1) c_eqSS)) (by rw [Bool.true_and, Bool.true_and])
      · obtain ⟨ov, h1, h2, G0, h3, _, h5⟩ := s.at_ 1 _ rfl
        subst h2
        exact ⟨_, h1, .base (.ins (s.gh _ _ (h3 _ _ h5.1)) T.cl_Logbook ec.ha ec.hn ec.htk ec.hm)⟩
      · rw [hr2]
        exact congrArg PyData.bool (eqv_refl _ rfl)
    refine tws_cons (twp_ret (ev _ H H _ sta fun v G1 H1 e1 dv => ?_))
    cases dv
    exact hq H1 e1.h
/-! ### copy -/
/-- a new book, all else is kept -/
structure NewB (K : PySem.W.Frag) (G H G' H' : Hp) (a' : BA) (b' : Bk) : Prop where
  ext : Gd.Ext G H G' H'
  bk : BkN K G' H' a' b'
  fp : H a'.p = none
  fd : H a'.dx = none
  fe : H a'.e = none
  fl : H a'.l = none
theorem newB_of {G H : Hp} {p dx : Addr} {G' H' : Hp} {a : BA} {b : Bk} (hp : H p = none) (hdx : H dx = none) (m : MkB K G (upd (upd H dx (.own p)) p (.ins (He.ga K "Logbook") dx [])) p dx G' H' a b) : NewB K G H G' H' a b := by
  have s2 : Same H (upd (upd H dx (.own p)) p (.ins (He.ga K "Logbook") dx [])) := fun b u e => by
    rw [upd_ne (ne_of_none e hp), upd_ne (ne_of_none e hdx)]; exact e
  have up2 : forall x, H x ≠ none -> upd (upd H dx (.own p)) p (.ins (He.ga K "Logbook") dx []) x ≠ none := fun x hx hz => by
    cases e : H x with
    | none => exact hx e
    | some u => rw [s2 _ _ e] at hz; cases hz
  exact ⟨⟨m.g, fun x u e => m.keep x u (ne_of_none e hp) (s2 _ _ e), m.gh, fun x hx => m.old x (up2 x hx)⟩, m.bk, by rw [m.pp.1]; exact hp, by rw [m.pp.2]; exact hdx, s2.free m.ne.1, s2.free m.ne.2⟩
def spCopy (K : PySem.W.Frag) : Sp := fun vs H Q _ => ∃ (G : Hp) (a : BA) (b : Bk), vs = [.ref a.p] ∧ Same G H ∧ BkN K G H a b ∧ bsz b ∧ forall G' H' a', NewB K G H G' H' a' b -> Q (.ref a'.p) H'
theorem ok_copy (T : Tp K mg) : ∃ fd, Binds K fd ["self"] [] ∧ FnOk P w K mg base (L2.CX P w) 6 (He.ma K (He.ga K "Logbook") "copy") fd ["self"] (spCopy K) := by
  obtain ⟨fd, F⟩ := T.fm_Logbook_copy
  refine ⟨fd, F.bindsN (ps := ["self"]) (fun _ _ _ _ _ _ us hl => match us, hl with | [_], _ => rfl), F.ok sc_Logbook_copy (by rintro vs H Q E ⟨_, _, _, rfl, _⟩; rfl) ?_⟩
  rintro cdv A outer s H vs Q E hr ⟨G, a, b, rfl, gh, k, hb, hq⟩
  have nd := sc_Logbook_copy.nd
  refine ⟨tws _ _, pss_tw, ?_⟩
  obtain ⟨fdi, hbi, Fi⟩ := ok_init (P := P) (w := w) (base := base) T
  refine tws_cons (twp_of (ps_set (i := 1) nd rfl (Or.inl rfl) (pe_make (E := E0) T.mk_Logbook Fi (hr.mono (by decide)) rfl T.gl_Logbook hbi .nil passL (pa_cons (pe_fld (pv 0) rfl) pa_nil)) rfl (.inl rfl)) ?_)
  refine ⟨_, rfl, a.p, _, a.dx, _, _, rfl, k.ins, T.cl_Logbook, T.na_Logbook_rules, bf_r, fun p dx hp hdx hne => ?_⟩
  have s2 : Same H (upd (upd H dx (.own p)) p (.ins (He.ga K "Logbook") dx [])) := fun b u e => by
    rw [upd_ne (ne_of_none e hp), upd_ne (ne_of_none e hdx)]; exact e
  refine ⟨G, p, dx, a.vr, ruD b.r, rfl, gh.trans s2, upd_same, by rw [upd_ne hne, upd_same], gh.free hp, gh.free hdx, rfl, k.ru, .inr ⟨b.r, rfl, hb.r, fun G1 H1 a1 mb => ⟨rfl, ?_⟩⟩⟩
  have nb := newB_of hp hdx mb
  obtain ⟨ep, ed⟩ := mb.pp
  clear mb s2
  have k1 := k.kept nb.ext.h nb.ext.g nb.ext.old
  obtain ⟨p1, dx1, e1, l1, vr1⟩ := a1
  dsimp only at ep ed
  subst ep
  subst ed
  have hi : H1 p1 = some (.ins (He.ga K "Logbook") dx1 (bf vr1 [] e1 l1)) := nb.bk.ins
  have npa : a.p ≠ p1 := fun z => by rw [← z, k.ins] at hp; cases hp
  have npe : a.e ≠ p1 := fun z => by rw [← z, k.el] at hp; cases hp
  have npl : a.l ≠ p1 := fun z => by rw [← z, k.ll] at hp; cases hp
  have npd : dx1 ≠ p1 := nb.bk.pd.symm
  refine tws_cons (twp_of (ps_fld (pv 1) (pe_fld (pv 0) rfl) rfl) ?_)
  refine ⟨_, rfl, a.p, _, a.dx, _, _, rfl, k1.ins, T.cl_Logbook, T.na_Logbook_text, bf_t, _, rfl, p1, _, dx1, _, rfl, hi, T.cl_Logbook, T.na_Logbook_text, by show 4 < 1000; decide, ?_⟩
  rw [put_t]
  generalize hH2 : upd H1 p1 (.ins (He.ga K "Logbook") dx1 (bf vr1 b.t e1 l1)) = H2
  have o2 : forall x, x ≠ p1 -> H2 x = H1 x := fun x hx => by rw [← hH2, upd_ne hx]
  have i2 : H2 p1 = some (.ins (He.ga K "Logbook") dx1 (bf vr1 b.t e1 l1)) := by rw [← hH2, upd_same]
  refine tws_cons (twp_of (ps_fld (pv 1) (pe_callTy (x := "list") call_list_of rfl T.fr_list bt_list (pa_cons (pe_fld (pv 0) rfl) pa_nil)) rfl) ?_)
  refine ⟨_, rfl, a.p, _, a.dx, _, _, rfl, by rw [o2 _ npa]; exact k1.ins, T.cl_Logbook, T.na_Logbook_earlier, bf_e, a.e, _, rfl, .inl (SqL.of (by rw [o2 _ npe]; exact k1.el)), fun e3 he3 => ?_⟩
  have e3p : e3 ≠ p1 := fun z => by rw [z, i2] at he3; cases he3
  have e31 : H1 e3 = none := by rw [← o2 _ e3p]; exact he3
  have e3d : dx1 ≠ e3 := fun z => by have := nb.bk.own; rw [z, e31] at this; cases this
  refine ⟨_, rfl, p1, _, dx1, _, rfl, by rw [upd_ne e3p.symm]; exact i2, T.cl_Logbook, T.na_Logbook_earlier, by show 4 < 1000; decide, ?_⟩
  rw [put_e]
  generalize hH3 : upd (upd H2 e3 (.lst (tx b.e))) p1 (.ins (He.ga K "Logbook") dx1 (bf vr1 b.t e3 l1)) = H3
  have o3 : forall x, x ≠ p1 -> x ≠ e3 -> H3 x = H1 x := fun x hx hy => by rw [← hH3, upd_ne hx, upd_ne hy, o2 _ hx]
  have i3 : H3 p1 = some (.ins (He.ga K "Logbook") dx1 (bf vr1 b.t e3 l1)) := by rw [← hH3, upd_same]
  have l3 : H3 e3 = some (.lst (tx b.e)) := by rw [← hH3, upd_ne e3p, upd_same]
  have nae : a.p ≠ e3 := fun z => by have := k1.ins; rw [z, e31] at this; cases this
  have nle : a.l ≠ e3 := fun z => by have := k1.ll; rw [z, e31] at this; cases this
  refine tws_cons (twp_of (ps_fld (pv 1) (pe_callTy (x := "list") call_list_of rfl T.fr_list bt_list (pa_cons (pe_fld (pv 0) rfl) pa_nil)) rfl) ?_)
  refine ⟨_, rfl, a.p, _, a.dx, _, _, rfl, by rw [o3 _ npa nae]; exact k1.ins, T.cl_Logbook, T.na_Logbook_later, bf_l, a.l, _, rfl, .inl (SqL.of (by rw [o3 _ npl nle]; exact k1.ll)), fun l4 hl4 => ?_⟩
  have l4p : l4 ≠ p1 := fun z => by rw [z, i3] at hl4; cases hl4
  have l4e : l4 ≠ e3 := fun z => by rw [z, l3] at hl4; cases hl4
  have l41 : H1 l4 = none := by rw [← o3 _ l4p l4e]; exact hl4
  have l4d : dx1 ≠ l4 := fun z => by have := nb.bk.own; rw [z, l41] at this; cases this
  refine ⟨_, rfl, p1, _, dx1, _, rfl, by rw [upd_ne l4p.symm]; exact i3, T.cl_Logbook, T.na_Logbook_later, by show 4 < 1000; decide, ?_⟩
  rw [put_l]
  generalize hH4 : upd (upd H3 l4 (.lst (tx b.l))) p1 (.ins (He.ga K "Logbook") dx1 (bf vr1 b.t e3 l4)) = H4
  have o4 : forall x, x ≠ p1 -> x ≠ e3 -> x ≠ l4 -> H4 x = H1 x := fun x hx hy hz => by rw [← hH4, upd_ne hx, upd_ne hz, o3 _ hx hy]
  have i4 : H4 p1 = some (.ins (He.ga K "Logbook") dx1 (bf vr1 b.t e3 l4)) := by rw [← hH4, upd_same]
  refine tws_cons (twp_ret fun pins s I => Wp.mk ((pv 1).run pins s _ _ _ I ⟨_, rfl, ?_⟩))
  have e30 : H e3 = none := nb.ext.h.free e31
  have l40 : H l4 = none := nb.ext.h.free l41
  have ho : H1 dx1 = some (.own p1) := nb.bk.own
  refine hq G1 H4 ⟨p1, dx1, e3, l4, vr1⟩ ⟨⟨nb.ext.g, fun x u e => ?_, fun x u e => ?_, nb.ext.old⟩, ⟨i4, ?_, ?_, ?_, nb.bk.gp, nb.bk.gd, ?_, ?_, l4e.symm, nb.bk.ru⟩, hp, hdx, e30, l40⟩
  · rw [o4 x (ne_of_none e hp) (ne_of_none e e30) (ne_of_none e l40)]
    exact nb.ext.h _ _ e
  · have h1 := nb.ext.gh _ _ e
    rw [o4 x (ne_of_none e nb.bk.gp) (ne_of_none h1 e31) (ne_of_none h1 l41)]
    exact h1
  · show H4 dx1 = _
    rw [o4 _ npd e3d l4d]
    exact ho
  · show H4 e3 = _
    rw [← hH4, upd_ne e3p, upd_ne l4e.symm]
    exact l3
  · show H4 l4 = _
    rw [← hH4, upd_ne l4p, upd_same]
  · exact nb.ext.gh.free e31
  · exact nb.ext.gh.free l41
end
end Lw

namespace Lw
open PySem PySem.Spec L2 Gd
/-! ### _law_class, _law_result, _law_all -/
def cls11 : List Str := ["InvalidRules", "InvalidLog", "InvalidLength", "InvalidMany", "InvalidDuty", "InvalidPrices", "InvalidHours", "TooLong", "TooLarge", "NothingToUndo", "ParseError"]
theorem cls_exc : forall x, x ∈ cls11 -> x ∈ excL := by decide +kernel
theorem cls_one : forall x, x ∈ cls11 -> (cls11.map fun y => under x y).count true = 1 := by decide +kernel
theorem cls_at : forall x, x ∈ cls11 -> ∃ j, j < 11 ∧ (cls11.map fun y => under x y)[j]? = some true ∧ (forall m, m < j -> (cls11.map fun y => under x y)[m]? = some false) ∧ cls11[j]? = some x := by
  intro x hx
  have key : forall x, x ∈ cls11 -> ((List.range 11).any fun j => decide ((cls11.map fun y => under x y)[j]? = some true) && ((List.range j).all fun m => decide ((cls11.map fun y => under x y)[m]? = some false)) && decide (cls11[j]? = some x)) = true := by decide +kernel
  obtain ⟨j, h1, h2⟩ := List.any_eq_true.mp (key x hx)
  rw [Bool.and_eq_true, Bool.and_eq_true, decide_eq_true_eq, decide_eq_true_eq, List.all_eq_true] at h2
  exact ⟨j, List.mem_range.mp h1, h2.1.1, fun m hm => of_decide_eq_true (h2.1.2 m (List.mem_range.mpr hm)), h2.2⟩
theorem cls_rest : forall x, x ∈ cls11 -> under x "RestError" = true := by decide +kernel
theorem cls_shap : forall x, x ∈ cls11 -> shap (.tuple [.str "error", .str x]) = true := by decide +kernel
theorem cls_eqv : forall x, x ∈ cls11 -> PyData.eqv (.tuple [.str "error", .str x]) (.tuple [.str "error", .str x]) = true := by decide +kernel
section
variable {P : Program} {w : World} {K : PySem.W.Frag} {mg : Str -> Option Value} {base : Heap}
theorem fnE_class (T : Tp K mg) {x : Str} (hx : x ∈ cls11) : FnE P w K mg base 1 "_law_class" (He.ga K x) x := by
  obtain ⟨fd, F⟩ := T.fn_law_class
  refine fnE_of F T.gl_law_class sc_law_class (fun _ _ _ _ _ _ us hl => match us, hl with | [_], _ => rfl) ?_
  intro cdv A outer s H a oe N hr hz hf
  have nd := sc_law_class.nd
  have hX := cls_exc x hx
  have hC := exc_C T.xk hX
  have hpn : (a, oe) ∈ (cxE P w K mg base n_law_class "_law_class" s_law_class (He.ga K "_law_class") cdv A outer s H a oe).pn := List.mem_singleton.mpr rfl
  have isI : forall {ρ : Rho} {y : Str} {p pe pos py : Pos}, y ∈ excL -> mg y = some (.ref (He.ga K y)) -> ρ[0]? = some (.raw (.ref a)) -> Gl (cxE P w K mg base n_law_class "_law_class" s_law_class (He.ga K "_law_class") cdv A outer s H a oe) y -> (y == ("__debug__" : Str)) = false -> GE (cxE P w K mg base n_law_class "_law_class" s_law_class (He.ga K "_law_class") cdv A outer s H a oe) (.Call (.Name "isinstance" p) [.Name "error" pe, .Name y py] [] pos) ρ (.bool (under x y)) :=
    fun hy hm hρ hg hd => ge_isP (i := 0) T.fr_isinstance hpn hC hz hf hm (exc_kit T.xk hX hy) hρ rfl (.inl rfl) rfl hg (by decide) (by decide) hd rfl rfl rfl
  refine gs_cons (g1_own 1 (ga_cons (isI (by decide +kernel) T.gl_InvalidRules rfl rfl (by decide)) (ga_cons (isI (by decide +kernel) T.gl_InvalidLog rfl rfl (by decide)) ga_nil)) ?_ nd)
  refine gs_cons (g1_extend 1 rfl (ge_lst (ga_cons (isI (by decide +kernel) T.gl_InvalidLength rfl rfl (by decide)) (ga_cons (isI (by decide +kernel) T.gl_InvalidMany rfl rfl (by decide)) ga_nil))) (by show 2 + 2 ≤ 100000; decide) ?_)
  refine gs_cons (g1_extend 1 rfl (ge_lst (ga_cons (isI (by decide +kernel) T.gl_InvalidDuty rfl rfl (by decide)) (ga_cons (isI (by decide +kernel) T.gl_InvalidPrices rfl rfl (by decide)) ga_nil))) (by show 4 + 2 ≤ 100000; decide) ?_)
  refine gs_cons (g1_extend 1 rfl (ge_lst (ga_cons (isI (by decide +kernel) T.gl_InvalidHours rfl rfl (by decide)) (ga_cons (isI (by decide +kernel) T.gl_TooLong rfl rfl (by decide)) ga_nil))) (by show 6 + 2 ≤ 100000; decide) ?_)
  refine gs_cons (g1_extend 1 rfl (ge_lst (ga_cons (isI (by decide +kernel) T.gl_TooLarge rfl rfl (by decide)) (ga_cons (isI (by decide +kernel) T.gl_NothingToUndo rfl rfl (by decide)) ga_nil))) (by show 8 + 2 ≤ 100000; decide) ?_)
  refine gs_cons (g1_extend 1 rfl (ge_lst (ga_cons (isI (by decide +kernel) T.gl_ParseError rfl rfl (by decide)) ga_nil)) (by show 10 + 1 ≤ 100000; decide) ?_)
  refine gs_eq [.raw (.ref a), .own ((cls11.map fun y => under x y).map PyData.bool), .any] ?_ rfl
  obtain ⟨j, hj, h1, h2, h3⟩ := cls_at x hx
  have hcnt := cls_one x hx
  generalize (cls11.map fun y => under x y) = bs at h1 h2 hcnt
  refine gs_cons (g1_if (k := false) (gt_is (gt_w (gw_or (gt_cmp (ge_thaw 1 (ge_countB (gv 1) ge_bl)) ge_int c_neI) fun _ => gw_or1 (gt_not (gt_val (ge_isPT (i := 0) (U := "ValueError") T.fr_isinstance hpn hC hz hf T.fr_ValueError (by decide +kernel) (val_kit T.xv hX)))))) (by rw [hcnt]; rfl)) (fun z => by cases z) fun _ => gs_nil ?_)
  refine gs_cons (g1_own 2 (ga_cons ge_str (ga_cons ge_str (ga_cons ge_str (ga_cons ge_str (ga_cons ge_str (ga_cons ge_str ga_nil)))))) ?_ nd)
  refine gs_cons (g1_extend 2 rfl (ge_lst (ga_cons ge_str (ga_cons ge_str (ga_cons ge_str (ga_cons ge_str (ga_cons ge_str ga_nil)))))) (by show 6 + 5 ≤ 100000; decide) ?_)
  refine gs_eq [.raw (.ref a), .own (bs.map PyData.bool), .own (cls11.map PyData.str)] ?_ rfl
  refine gs_cons (g1_ret (ge_ixOwn 2 (ge_thaw 1 (ge_indexB (gv 1) ge_bl h1 h2)) (d := .str x) ?_) rfl)
  exact atI_z (by omega) (by rw [Int.toNat_natCast, List.getElem?_map, h3]; rfl)
/-- the promise of _law_result -/
def spRes (P : Program) (w : World) (K : PySem.W.Frag) (mg : Str -> Option Value) (base : Heap) (k : Nat) : Sp := fun vs H Q _ => ∃ (G : Hp) (f : Addr) (x : Str), vs = [.ref f] ∧ Same G H ∧ (forall b ps, G b ≠ some (.tbl ps)) ∧ x ∈ cls11 ∧ Th P w K mg base k G f (He.ga K x) ∧ forall v G' H', Ext G H G' H' -> Dq K G' v (.tuple [.str "error", .str x]) -> Q v H'
theorem can_result (T : Tp K mg) (k : Nat) : CanS P w K mg base (k + 2) "_law_result" (spRes P w K mg base (k + 1)) := by
  obtain ⟨fd, F⟩ := T.fn_law_result
  refine canS_of F T.gl_law_result sc_law_result (fun _ _ _ _ _ _ us hl => match us, hl with | [_], _ => rfl) (by rintro vs H Q E ⟨_, _, _, rfl, _⟩; rfl) ?_
  rintro cdv A outer s H vs Q E hr ⟨G, f, x, rfl, gh, nt, hx, th, hq⟩
  have nd := sc_law_result.nd
  refine ⟨G, [.pin (.ref f) fun G0 => Th P w K mg base (k + 1) G0 f (He.ga K x)], .tuple [.str "error", .str x], gh, rfl, fun i y h => ?_, fun i c v h1 h2 => ?_, hq, ?_⟩
  · match i with
    | 0 => cases h
    | i + 1 => cases h
  · match i with
    | 0 =>
      cases h1
      cases h2
      exact ⟨rfl, G, Same.refl G, nt, th⟩
    | i + 1 => cases h1
  refine gs_cons (g1_tryAs 1 (fun D => D = He.ga K x) nd (cv := .ref (He.ga K "RestError")) ⟨rfl, by decide, .inl T.gl_RestError⟩ (fun D hD => ?_) (fun N' pn xe hxo => ?_) (fun N' D hD a oe pn hz hf => ?_))
  · rw [hD]
    exact (exc_exm T.xk (cls_exc x hx) (by decide +kernel)).trans (congrArg some (cls_rest x hx))
  · exact gs_cons (g1_retX (gx_thunk 0 (fun G0 h => h) (k' := k + 1) hr (hxo (He.ga K x) rfl) rfl (Nat.le_refl _)))
  · subst hD
    exact gs_cons (g1_ret (ge_tup (ga_cons ge_str (ga_cons (ge_fnE (i := 1) (k' := k + 1) (fnE_class T hx) hr hz hf (by omega)) ga_nil))) rfl)
/-- the classes by their names -/
def clsN (K : PySem.W.Frag) : Addr -> Str -> Prop := fun C z => z ∈ cls11 ∧ C = He.ga K z
def phAll (P : Program) (w : World) (K : PySem.W.Frag) (mg : Str -> Option Value) (base : Heap) (k : Nat) (l : Addr) (fs : List Addr) (z : Str) : Hp -> Prop := fun G0 => G0 l = some (.lst (fs.map V.ref)) ∧ (forall b ps, G0 b ≠ some (.tbl ps)) ∧ forall f, f ∈ fs -> Th P w K mg base k G0 f (He.ga K z)
theorem ge_res {X : Cx} {ρ : Rho} {k k' i j : Nat} {l f : Addr} {fs : List Addr} {z n : Str} {p pe pos : Pos} (R : CanS X.prog X.w X.K X.mg X.base k "_law_result" (spRes X.prog X.w X.K X.mg X.base k')) (hr : Room k X.A) (hz : z ∈ cls11) (hf : f ∈ fs) (hρ : ρ[i]? = some (.pin (.ref l) (phAll X.prog X.w X.K X.mg X.base k' l fs z)) := by rfl) (hj : ρ[j]? = some (.dat (adrD f)) := by rfl)
    (hN : X.N[j]? = some n := by rfl) (hv : Vis X.env.scope n := by first | exact Or.inl rfl | exact Or.inr (Or.inl rfl) | exact Or.inr (Or.inr rfl)) (hg : Gl X "_law_result" := by rfl) (hd : (n == ("__debug__" : Str)) = false := by decide) (hcd : (n == ("__classdict__" : Str)) = false := by decide)
    (he : starEach [.Name n pe] X.env = (false, eval (.Name n pe) X.env) :: starEach [] X.env := by rfl) (hpl : (backTo pos (starEach [] X.env)).any (·.1) = false := by rfl) :
    GE X (.Call (.Name "_law_result" p) [.Name n pe] [] pos) ρ (.tuple [.str "error", .str z]) := by
  obtain ⟨fa, fd, ps, hm, kp, hb, F⟩ := R.ex
  refine ge_of (pe_call F hr hg hm kp hb .nil passL (pa_cons (pe_var hN hv hd hcd) pa_nil he) (by decide) he hpl) fun σ G H Q sta q => ?_
  obtain ⟨ov, h1, h2, G0, h3, h4, h5⟩ := sta.at_ i _ hρ
  obtain ⟨v, h6, h7⟩ := sta.dat hj
  have ev := adr_inv h7
  subst ev
  exact ⟨.ref f, h6, G0, f, z, rfl, h3.trans sta.gh, h4, hz, h5.2.2 f hf, fun v G' H' e1 dq => by
    obtain ⟨G2, e2, s2⟩ := e1.widen h3 sta.gh
    exact q v G2 H' e2 (dq.mono s2)⟩
end
end Lw

namespace Lw
open PySem PySem.Spec L2 Gd
/-! ### what a call does to a book -/
inductive BRes where
  | ret (d : PyData) (b : Bk) | exc (x : Str)
def spOp (K : PySem.W.Frag) (p : Addr) (o : Bk -> BRes) : Sp0 := fun H Q E => ∃ (G : Hp) (a : BA) (b : Bk), a.p = p ∧ Same G H ∧ BkN K G H a b ∧ bsz b ∧ b.e.length < 500 ∧ b.l.length < 500 ∧
  match o b with
  | .ret d b' => atom d = true ∧ forall u G' H' a', Chg K G H a G' H' a' b' -> Dq K G' u d -> Q u H'
  | .exc x => forall H', Same H H' -> E (.ref (He.ga K x)) none H'
def mixH (G G' : Hp) (D : Dm) : Hp := fun b => match D b with | some _ => G b | none => G' b
theorem mix_in {G G' : Hp} {D : Dm} {b : Addr} {o : Obj} (e : D b = some o) : mixH G G' D b = G b := by unfold mixH; rw [e]
theorem mix_out {G G' : Hp} {D : Dm} {b : Addr} (e : D b = none) : mixH G G' D b = G' b := by unfold mixH; rw [e]
section
variable {K : PySem.W.Frag} {G H G' H' : Hp} {D : Dm} {a a' : BA} {b b' : Bk}
theorem dR_noB {c : Addr} {o : Obj} : (forall C dx fs, HO.ins C dx fs ≠ dR c o) ∧ (forall p, HO.own p ≠ dR c o) ∧ forall xs, HO.lst xs ≠ dR c o := by
  refine ⟨fun C dx fs z => ?_, fun p z => ?_, fun xs z => ?_⟩ <;> (unfold dR at z; cases z)
theorem noD (hD : forall c o, D c = some o -> H c = some (dR c o)) {x : Addr} {u : HO} (e : H x = some u) (n : forall o, u ≠ dR x o) : D x = none := by
  cases z : D x with
  | none => rfl
  | some o =>
    have := hD x o z
    rw [e] at this
    exact absurd (Option.some.inj this) (n o)
theorem BkN.del (gh : Same G H) (hD : forall c o, D c = some o -> H c = some (dR c o)) (k : BkN K G H a b) : BkN K (delH G D) (delH H D) a b := by
  have n1 := noD hD k.ins fun o => dR_noB.1 _ _ _
  have n2 := noD hD k.own fun o => dR_noB.2.1 _
  have n3 := noD hD k.el fun o => dR_noB.2.2 _
  have n4 := noD hD k.ll fun o => dR_noB.2.2 _
  exact ⟨by rw [delH_out n1]; exact k.ins, by rw [delH_out n2]; exact k.own, by rw [delH_out n3]; exact k.el, by rw [delH_out n4]; exact k.ll, by rw [delH_out n1]; exact k.gp, by rw [delH_out n2]; exact k.gd, by rw [delH_out n3]; exact k.ge, by rw [delH_out n4]; exact k.gl, k.ne, k.ru.less (less_del fun c o e u eu => by
    have := hD c o e
    rw [gh _ _ eu] at this
    exact Option.some.inj this)⟩
theorem Chg.add (gh : Same G H) (hD : forall c o, D c = some o -> H c = some (dR c o)) (hn : forall c o, D c = some o -> H' c = none) (c : Chg K (delH G D) (delH H D) a G' H' a' b') : Chg K G H a (mixH G G' D) (addH H' D) a' b' := by
  have out : forall x u, H' x = some u -> D x = none := fun x u e => by
    cases z : D x with
    | none => rfl
    | some o => rw [hn x o z] at e; cases e
  have sG : Same G' (mixH G G' D) := fun x u e => by rw [mix_out (out x u (c.gh _ _ e))]; exact e
  have k := c.bk
  have n1 := out _ _ k.ins
  have n2 := out _ _ k.own
  have n3 := out _ _ k.el
  have n4 := out _ _ k.ll
  refine ⟨fun x u e => ?_, fun x u e => ?_, fun x hx => ?_, fun x u h1 h2 h3 e => ?_, ⟨by rw [addH_out n1]; exact k.ins, by rw [addH_out n2]; exact k.own, by rw [addH_out n3]; exact k.el, by rw [addH_out n4]; exact k.ll, by rw [mix_out n1]; exact k.gp, by rw [mix_out n2]; exact k.gd, by rw [mix_out n3]; exact k.ge, by rw [mix_out n4]; exact k.gl, k.ne, k.ru.mono sG⟩, c.pp, ⟨?_, ?_⟩, ?_, ?_⟩
  · cases z : D x with
    | some o => rw [mix_in z]; exact e
    | none => rw [mix_out z]; exact c.g _ _ (by rw [delH_out z]; exact e)
  · cases z : D x with
    | some o =>
      rw [mix_in z] at e
      have := hD x o z
      rw [gh _ _ e] at this
      rw [addH_in z]
      exact this.symm
    | none =>
      rw [mix_out z] at e
      rw [addH_out z]
      exact c.gh _ _ e
  · cases z : D x with
    | some o => rw [mix_in z]
    | none =>
      rw [mix_out z, c.old x (by rw [delH_out z]; exact hx), delH_out z]
  · cases z : D x with
    | some o =>
      have := hD x o z
      rw [e] at this
      rw [addH_in z]
      exact this.symm
    | none =>
      rw [addH_out z]
      exact c.keep x u h1 h2 h3 (by rw [delH_out z]; exact e)
  · rcases c.ne.1 with h | h
    · exact .inl h
    · rw [delH_out n3] at h; exact .inr h
  · rcases c.ne.2 with h | h
    · exact .inl h
    · rw [delH_out n4] at h; exact .inr h
  · intro hz
    cases z : D a.e with
    | some o => rw [addH_in z] at hz; cases hz
    | none => rw [addH_out z] at hz; exact c.ex.1 hz
  · intro hz
    cases z : D a.l with
    | some o => rw [addH_in z] at hz; cases hz
    | none => rw [addH_out z] at hz; exact c.ex.2 hz
theorem spOp_del {p : Addr} {o : Bk -> BRes} : SpD (spOp K p o) := by
  rintro H Q E D hD0 ⟨G, a, b, hp, gh, k, hb, l1, l2, hq⟩
  have hD : forall c o, D c = some o -> H c = some (dR c o) := fun c o e => (hD0 c o e).1
  refine ⟨delH G D, a, b, hp, fun x u e => ?_, k.del gh hD, hb, l1, l2, ?_⟩
  · obtain ⟨z, e⟩ := delH_some e
    rw [delH_out z]
    exact gh _ _ e
  cases ho : o b with
  | ret d b' =>
    rw [ho] at hq
    exact ⟨hq.1, fun u G' H' a' c dq hn => hq.2 u _ _ a' (c.add gh hD hn) (dq.atom hq.1)⟩
  | exc x =>
    rw [ho] at hq
    refine fun H' sm hn => hq _ fun x u e => ?_
    cases z : D x with
    | some o =>
      have := hD x o z
      rw [e] at this
      rw [addH_in z]
      exact this.symm
    | none =>
      rw [addH_out z]
      exact sm _ _ (by rw [delH_out z]; exact e)
end
/-! ### the four calls -/
def opAdd (z : PyData) : Bk -> BRes := fun b => match sgOf z with
  | some c => if b.t.length + 1 ≤ 60 then .ret (.bool (decide (b.t.length ∈ faultsL b.r (b.t ++ [c])))) ⟨b.r, b.t ++ [c], b.e ++ [b.t], []⟩ else .exc "TooLong"
  | none => .exc "InvalidLog"
def opRest (n : Int) : Bk -> BRes := fun b => if n < 1 ∨ 12 < n then .exc "InvalidMany" else if b.t.length + n.toNat ≤ 60 then .ret (.int (leftOf b.r (after b.r (b.t ++ List.replicate n.toNat 82)))) ⟨b.r, b.t ++ List.replicate n.toNat 82, b.e ++ [b.t], []⟩ else .exc "TooLong"
def opUndo : Bk -> BRes := fun b => match b.e.getLast? with
  | some t => .ret .none ⟨b.r, t, b.e.dropLast, b.l ++ [b.t]⟩
  | none => .exc "NothingToUndo"
def opRedo : Bk -> BRes := fun b => match b.l.getLast? with
  | some t => .ret .none ⟨b.r, t, b.e ++ [b.t], b.l.dropLast⟩
  | none => .exc "NothingToUndo"
section
variable {K : PySem.W.Frag} {H : Hp} {Q : VK} {E : XK} {p : Addr}
theorem spAdd_of {v : V} {d : PyData} (hd : atomS d) (dv : forall G, Dq K G v d) (h : spOp K p (opAdd d) H Q E) : spAdd K [.ref p, v] H Q E := by
  obtain ⟨G, a, b, rfl, gh, k, hb, l1, l2, hq⟩ := h
  refine ⟨G, a, b, v, d, rfl, gh, k, hb, hd, dv G, ?_⟩
  unfold opAdd at hq
  cases hs : sgOf d with
  | none => rw [hs] at hq; exact hq
  | some c =>
    rw [hs] at hq
    dsimp only at hq ⊢
    by_cases hle : b.t.length + 1 ≤ 60
    · rw [if_pos hle] at hq ⊢
      exact ⟨by omega, hq.2⟩
    · rw [if_neg hle] at hq ⊢
      exact hq
theorem spRest_of {n : Int} (h : spOp K p (opRest n) H Q E) : spRest K [.ref p, .int n] H Q E := by
  obtain ⟨G, a, b, rfl, gh, k, hb, l1, l2, hq⟩ := h
  refine ⟨G, a, b, .int n, .int n, rfl, gh, k, hb, rfl, .int n, ?_⟩
  unfold opRest at hq
  by_cases hn : n < 1 ∨ 12 < n
  · rw [if_pos hn] at hq
    refine .inl ⟨?_, hq⟩
    show (decide ((1 : Int) ≤ n) && decide (n ≤ 12)) = false
    rw [Bool.and_eq_false_iff, decide_eq_false_iff_not, decide_eq_false_iff_not]
    omega
  · rw [if_neg hn] at hq
    have en : ((n.toNat : Nat) : Int) = n := by omega
    refine .inr ⟨n.toNat, by rw [en], by omega, by omega, ?_⟩
    by_cases hle : b.t.length + n.toNat ≤ 60
    · rw [if_pos hle] at hq ⊢
      exact ⟨by omega, hq.2⟩
    · rw [if_neg hle] at hq ⊢
      exact hq
theorem last_app {l : List (List Nat)} {t : List Nat} (h : l.getLast? = some t) : l = l.dropLast ++ [t] := by
  obtain ⟨ys, e⟩ := List.getLast?_eq_some_iff.mp h
  rw [e, List.dropLast_concat]
theorem spUndo_of (h : spOp K p opUndo H Q E) : spUndo K [.ref p] H Q E := by
  obtain ⟨G, a, b, rfl, gh, k, hb, l1, l2, hq⟩ := h
  refine ⟨G, a, b, rfl, gh, k, hb, ?_⟩
  unfold opUndo at hq
  cases hs : b.e.getLast? with
  | none => rw [hs] at hq; exact .inl ⟨List.getLast?_eq_none_iff.mp hs, hq⟩
  | some t =>
    rw [hs] at hq
    exact .inr ⟨_, t, last_app hs, by omega, fun G' H' a' c => hq.2 _ _ _ _ c .non⟩
theorem spRedo_of (h : spOp K p opRedo H Q E) : spRedo K [.ref p] H Q E := by
  obtain ⟨G, a, b, rfl, gh, k, hb, l1, l2, hq⟩ := h
  refine ⟨G, a, b, rfl, gh, k, hb, ?_⟩
  unfold opRedo at hq
  cases hs : b.l.getLast? with
  | none => rw [hs] at hq; exact .inl ⟨List.getLast?_eq_none_iff.mp hs, hq⟩
  | some t =>
    rw [hs] at hq
    exact .inr ⟨_, t, last_app hs, by omega, fun G' H' a' c => hq.2 _ _ _ _ c .non⟩
end
/-! ### _law_result, of a call that may return -/
section
variable {P : Program} {w : World} {K : PySem.W.Frag} {mg : Str -> Option Value} {base : Heap}
def spResO (P : Program) (w : World) (K : PySem.W.Frag) (mg : Str -> Option Value) (base : Heap) (k : Nat) : Sp := fun vs H Q _ => ∃ (G0 : Hp) (f : Addr) (o : Bk -> BRes) (G : Hp) (a : BA) (b : Bk), vs = [.ref f] ∧ Same G0 H ∧ NoTb G0 ∧ ThV P w K mg base k G0 f (spOp K a.p o) ∧ Same G H ∧ BkN K G H a b ∧ bsz b ∧ b.e.length < 500 ∧ b.l.length < 500 ∧
  match o b with
  | .ret d b' => atom d = true ∧ forall u G' H' a', Chg K G H a G' H' a' b' -> Dq K G' u d -> Q u H'
  | .exc x => x ∈ cls11 ∧ forall u H', Same H H' -> Dq K H' u (.tuple [.str "error", .str x]) -> Q u H'
theorem can_resO (T : Tp K mg) (k : Nat) : CanS P w K mg base (k + 2) "_law_result" (spResO P w K mg base (k + 1)) := by
  obtain ⟨fd, F⟩ := T.fn_law_result
  have nd := sc_law_result.nd
  have F1 : FnOk P w K mg base (L2.CX P w) (k + 2) (He.ga K "_law_result") fd ["call"] (spRes P w K mg base (k + 1)) := by
    refine okC_of F sc_law_result (by rintro vs H Q E ⟨_, _, _, rfl, _⟩; rfl) ?_
    rintro cdv A outer s H vs Q E hr ⟨G, f, x, rfl, gh, nt, hx, th, hq⟩
    refine ⟨G, [.pin (.ref f) fun G0 => Th P w K mg base (k + 1) G0 f (He.ga K x)], .tuple [.str "error", .str x], gh, rfl, fun i y h => ?_, fun i c v h1 h2 => ?_, hq, ?_⟩
    · match i with
      | 0 => cases h
      | i + 1 => cases h
    · match i with
      | 0 =>
        cases h1
        cases h2
        exact ⟨rfl, G, Same.refl G, nt, th⟩
      | i + 1 => cases h1
    refine gs_cons (g1_tryAs 1 (fun D => D = He.ga K x) nd (cv := .ref (He.ga K "RestError")) ⟨rfl, by decide, .inl T.gl_RestError⟩ (fun D hD => ?_) (fun N' pn xe hxo => ?_) (fun N' D hD a oe pn hz hf => ?_))
    · rw [hD]
      exact (exc_exm T.xk (cls_exc x hx) (by decide +kernel)).trans (congrArg some (cls_rest x hx))
    · exact gs_cons (g1_retX (gx_thunk 0 (fun G0 h => h) (k' := k + 1) hr (hxo (He.ga K x) rfl) rfl (Nat.le_refl _)))
    · subst hD
      exact gs_cons (g1_ret (ge_tup (ga_cons ge_str (ga_cons (ge_fnE (i := 1) (k' := k + 1) (fnE_class T hx) hr hz hf (by omega)) ga_nil))) rfl)
  have F2 : FnOk P w K mg base (L2.CX P w) (k + 2) (He.ga K "_law_result") fd ["call"] (fun vs H Q _ => ∃ (G0 : Hp) (f : Addr) (sp : Sp0), vs = [.ref f] ∧ Same G0 H ∧ ThV P w K mg base (k + 1) G0 f sp ∧ sp H Q E0) := by
    refine F.ok sc_law_result (by rintro vs H Q E ⟨_, _, _, rfl, _⟩; rfl) ?_
    rintro cdv A outer s H vs Q E hr ⟨G0, f, sp, rfl, gh, th, hs⟩
    refine ⟨tws _ _, pss_tw, ?_⟩
    exact tws_cons (twp_of (ps_try_thru0 pss_tw) (tws_cons (twp_ret (tw_thunk (i := 0) th (k' := k + 1) hr (Nat.le_refl _) gh rfl hs))))
  refine ⟨_, fd, ["call"], T.gl_law_result, F.kp, F.bindsN (fun _ _ _ _ _ _ us hl => match us, hl with | [_], _ => rfl), ⟨by rintro vs H Q E ⟨_, _, _, _, _, _, rfl, _⟩; rfl, ?_⟩⟩
  rintro A outer s H args us vs Q E hr e0 hb r ⟨G0, f, o, G, a, b, rfl, g0, nt0, th, gh, bk, hb2, l1, l2, hq⟩
  cases ho : o b with
  | ret d b' =>
    rw [ho] at hq
    exact F2.run A outer s H args us _ Q E hr e0 hb r ⟨G0, f, _, rfl, g0, th, G, a, b, rfl, gh, bk, hb2, l1, l2, by rw [ho]; exact hq⟩
  | exc x =>
    rw [ho] at hq
    have none_ : forall x, G x = none -> noT G x = none := fun x e => by
      cases z : noT G x with
      | none => rfl
      | some u =>
        have := (noT_some z).1
        rw [e] at this
        cases this
    refine F1.run A outer s H args us _ Q E hr e0 hb r ⟨noT H, f, x, rfl, fun b u e => (noT_some e).1, fun b ps e => (noT_some e).2 ps rfl, hq.1, th.th (fun b u e => noT_of (g0 _ _ e) fun ps z => nt0 b ps (by rw [← z]; exact e)) fun H2 E2 s2 hE => ?_, fun v G' H' ex dq => hq.2 v H' ex.h (dq.mono ex.gh)⟩
    refine ⟨noT G, a, b, rfl, fun y u e => s2 _ _ (noT_of (gh _ _ (noT_some e).1) (noT_some e).2), ⟨s2 _ _ (noT_of bk.ins fun ps z => nomatch z), s2 _ _ (noT_of bk.own fun ps z => nomatch z), s2 _ _ (noT_of bk.el fun ps z => nomatch z), s2 _ _ (noT_of bk.ll fun ps z => nomatch z), none_ _ bk.gp, none_ _ bk.gd, none_ _ bk.ge, none_ _ bk.gl, bk.ne, bk.ru.less less_noT⟩, hb2, l1, l2, ?_⟩
    rw [ho]
    exact hE
end
end Lw

namespace Gd
open PySem PySem.Spec L2
/-- a lambda and its promise: it has captured the slots js, which hold vs -/
structure GoodV (X : Cx) (kt : Nat) (sp : Sp0) (js : List Nat) (vs : List V) (L : LamT) : Prop where
  ls : LamX.LamS X.env.scope L.sc
  dflt : defaultsOf L.ps X.env = ([], [])
  bind : forall (q : Str) (cl : List (Str × Addr)) (pm cv ctv : Value), bindArgs (PySem.W.kla_fn "<lambda>" q L.ps L.bd L.sc cl pm cv ctv) ⟨[], []⟩ = pure []
  ex : ∃ fr : List Str, NdefX.NScope fr [] fr L.sc ∧ js.map (fun j => X.N[j]?) = fr.map some ∧ vs.length = fr.length ∧ forall (q : Str) (cl : List (Str × Addr)) (c' f : Addr) (A : Around) (outer : List Env) (s : Shared) (H : Hp) (Q : VK) (E : XK), Room kt (lcx X.prog X.w X.K X.mg X.base fr q L.ps L.sc cl c' f A outer s H E).A -> sp H Q E -> tw (lcx X.prog X.w X.K X.mg X.base fr q L.ps L.sc cl c' f A outer s H E) L.bd (vs.map some) H Q
theorem GoodV.th {X : Cx} {kt : Nat} {sp : Sp0} {js : List Nat} {vs : List V} {L : LamT} {σ : L2.St} {G H2 : Hp} {D : Dm} {f : Addr} (g : GoodV X kt sp js vs L) (lf : LamF X L.ps L.bd L.sc G f) (ok : X.Ok) (cd : CellsD X σ H2 D) (hG : forall c o, D c = some o -> G c = some (dR c o)) (hc : forall (i j : Nat) (v : V), js[i]? = some j -> vs[i]? = some v -> σ[j]? = some (some v)) (hD : SpD sp) : ThV X.prog X.w X.K X.mg X.base (kt + 1) G f sp := by
  obtain ⟨fr, S, hjs, hl, hb⟩ := g.ex
  exact lamV_now lf g.ls S hjs g.bind ok cd hG hl hc hD hb
theorem lamF_lessV {X : Cx} {params : Arguments} {body : Expr} {scope : Scope} {G G0 : Hp} {f : Addr} (l : LamF X params body scope G f) (h : forall b u, G b = some u -> (forall ps, u ≠ .tbl ps) -> G0 b = some u) : LamF X params body scope G0 f := by
  obtain ⟨c', pm, ctv, h1, h2⟩ := l.ex
  exact ⟨c', pm, ctv, h _ _ h1 fun ps => tbl_ne ps, h _ _ h2 fun ps => LamX.codeO_ne ps⟩
/-- a made lambda -/
def MadeV (X : Cx) (kt : Nat) (sp : Sp0) (js : List Nat) (vs : List V) (G : Hp) (f : Addr) : Prop := ∃ L, GoodV X kt sp js vs L ∧ LamF X L.ps L.bd L.sc G f
theorem MadeV.mono {X : Cx} {kt : Nat} {sp : Sp0} {js : List Nat} {vs : List V} {G G' : Hp} {f : Addr} (m : MadeV X kt sp js vs G f) (s : Same G G') : MadeV X kt sp js vs G' f := by
  obtain ⟨L, h1, h2⟩ := m
  exact ⟨L, h1, h2.mono s⟩
section
variable {X : Cx} {T : List (Addr × Str)} {params : Arguments} {body : Expr} {scope : Scope} {c P : Addr} {D : Ends} {σ : L2.St} {Gs Hs G H : Hp} {pos pos' lp p1 p2 p3 : Pos} {x : Str} {i : Nat} {q : Addr} {xs : List V} {kt : Nat} {sp : Sp0} {js : List Nat} {vs : List V}
theorem mkV_first (TK : TabK X T c P) (g : GoodV X kt sp js vs ⟨params, body, scope⟩) (hN : X.N.Nodup) (gh : Same G H) (tab : TabG T G H)
    (h : forall f q G1 H1, FnSt T G H G1 H1 q [.ref f] -> MadeV X kt sp js vs G1 f -> D.nx (σ.set i (some (.ref q))) H1)
    (hi : X.N[i]? = some x := by rfl) (hx : Loc X.env.scope x := by first | exact Or.inl rfl | exact Or.inr rfl) (he1 : starEach [.Lambda params body scope lp] X.env = (false, eval (.Lambda params body scope lp) X.env) :: starEach [] X.env := by rfl) (hs : swapsWith (.List [.Lambda params body scope lp] p2) (some (.Name x pos')) pos.line X.env = pure false := by rfl)
    (hf : X.fn x = true ∨ X.env.scope.names.lookup x = some .local := by first | exact .inl rfl | exact .inr rfl | assumption) : twp X (.Assign [.Name x pos'] (.List [.Lambda params body scope lp] p2) pos) D σ H :=
  raw_lam1 TK g.ls g.dflt hN gh tab (fun f q G1 H1 e ht lf h1 h0 => h f q G1 _ (FnSt.start e ht h1 h0) ⟨_, g, lf⟩) hi hx he1 hs hf
theorem mkV_next (m : FnSt T Gs Hs G H q xs) (TK : TabK X T c P) (g : GoodV X kt sp js vs ⟨params, body, scope⟩) (hσ : σ[i]? = some (some (.ref q))) (hz : xs.length < 1000)
    (h : forall f G1 H1, FnSt T Gs Hs G1 H1 q (xs ++ [.ref f]) -> Same G G1 -> MadeV X kt sp js vs G1 f -> D.nx σ H1)
    (hi : X.N[i]? = some x := by rfl) (hv : Vis X.env.scope x := by first | exact Or.inl rfl | exact Or.inr (Or.inl rfl) | exact Or.inr (Or.inr rfl)) (hd : (x == ("__debug__" : Str)) = false := by decide) (hcd : (x == ("__classdict__" : Str)) = false := by decide)
    (hbase : attributeBase (.Name x p1) "append" X.env (eval (.Name x p1) X.env) = eval (.Name x p1) X.env := by rfl)
    (hfew : ((backTo p3 (starEach (.Lambda params body scope lp :: []) X.env)).all (fun x => !x.1) && (backToKw p3 (keywordEach [] X.env)).all (fun x => x.1.isSome) && decide ((Expr.Lambda params body scope lp :: []).length + ([] : List Keyword).length + (if ([] : List Keyword).isEmpty then 0 else 1) < 30)) = true := by rfl)
    (hline : (p2.endLine == p3.line) = true := by rfl) (hs1 : starEach (.Lambda params body scope lp :: []) X.env = (false, eval (.Lambda params body scope lp) X.env) :: starEach [] X.env := by rfl) (hplain : (backTo p3 (starEach [] X.env)).any (·.1) = false := by rfl)
    (hs : swapsWith (.Call (.Attribute (.Name x p1) "append" p2) [.Lambda params body scope lp] [] p3) none pos.line X.env = pure false := by rfl) : twp X (.Expr (.Call (.Attribute (.Name x p1) "append" p2) [.Lambda params body scope lp] [] p3) pos) D σ H :=
  raw_lamA TK g.ls g.dflt m.e.gh m.e.tab hσ m.hq hz (fun f G1 H1 e ht lf h1 => h f G1 _ (m.step e ht) e.g ⟨_, g, lf⟩) hi hv hd hcd hbase hfew hline hs1 hplain hs
end
end Gd
namespace Lw
open PySem PySem.Spec L2 Gd
section
variable {P : Program} {w : World} {K : PySem.W.Frag} {mg : Str -> Option Value} {base : Heap}
theorem tabK_one {X : Cx} (hK : X.K = K) (hmg : X.mg = mg) (hb : X.base = base) (tb : forall p, p ∈ tfL.map (He.cT K) -> LamX.TabB base mg p.1 p.2) {x : Str} (hx : tfL = [(x, none)]) (hc : X.env.code = .ref (He.cT K (x, none)).1) (hq : X.env.qual = x ++ ".<locals>.") : TabK X (tabsN K tfL) (He.cT K (x, none)).1 (He.cT K (x, none)).2 := by
  subst hK
  subst hmg
  subst hb
  refine ⟨tb _ (List.mem_map.mpr ⟨(x, none), by rw [hx]; exact List.mem_singleton.mpr rfl, rfl⟩), hc, ?_, ?_⟩
  · rw [hq, hx]
    exact List.mem_map.mpr ⟨(x, none), List.mem_singleton.mpr rfl, rfl⟩
  · rw [hq, hx]
    intro p hp _
    obtain ⟨d, hd, rfl⟩ := List.mem_map.mp hp
    rw [List.mem_singleton.mp hd]
def spCalls (P : Program) (w : World) (K : PySem.W.Frag) (mg : Str -> Option Value) (base : Heap) (T : List (Addr × Str)) (k : Nat) : Sp := fun vs H Q _ => ∃ (G : Hp) (p : Addr) (z : Str) (n : Int), vs = [.ref p, .str z, .int n] ∧ Same G H ∧ TabG T G H ∧ smol (.str z) = true ∧
  forall l f0 f1 f2 f3 G0 G' H', ExtT T G H G' H' -> (forall p ps, H p = some (.tbl ps) -> ∃ qs, H' p = some (.tbl qs)) -> Same G0 G' -> NoTb G0 -> G0 l = some (.lst [.ref f0, .ref f1, .ref f2, .ref f3]) ->
    ThV P w K mg base k G0 f0 (spOp K p (opAdd (.str z))) -> ThV P w K mg base k G0 f1 (spOp K p (opRest n)) -> ThV P w K mg base k G0 f2 (spOp K p opUndo) -> ThV P w K mg base k G0 f3 (spOp K p opRedo) -> Q (.ref l) H'
theorem can_calls (T : Tp K mg) (tb : forall p, p ∈ tfL.map (He.cT K) -> LamX.TabB base mg p.1 p.2) : CanS P w K mg base 1 "_law_calls" (spCalls P w K mg base (tabsN K tfL) 7) := by
  obtain ⟨fd, F⟩ := T.fn_law_calls
  refine ⟨_, fd, ["some", "sign", "many"], T.gl_law_calls, F.kp, F.bindsN (fun _ _ _ _ _ _ us hl => match us, hl with | [_, _, _], _ => rfl), fn_pub F sc_law_calls rfl (by rintro vs H Q E ⟨_, _, _, _, rfl, _⟩; rfl) ?_⟩
  rintro A outer s H vs Q E hr ⟨G, p, z, n, rfl, gh, tab, hz, hq⟩
  have nd := sc_law_calls.nd
  obtain ⟨fda, hba, Fa⟩ := ok_add (P := P) (w := w) (base := base) T
  obtain ⟨fdr, hbr, Fr⟩ := ok_rest (P := P) (w := w) (base := base) T
  obtain ⟨fdu, hbu, Fu⟩ := ok_undo (P := P) (w := w) (base := base) T
  obtain ⟨fdo, hbo, Fo⟩ := ok_redo (P := P) (w := w) (base := base) T
  have TK : TabK (cxD P w K mg base n_law_calls "_law_calls" s_law_calls (He.ga K "_law_calls") (.ref (He.codeOf K ("_law_calls", none))) A outer s H E) (tabsN K tfL) (He.cT K ("_law_calls", none)).1 (He.cT K ("_law_calls", none)).2 := tabK_one rfl rfl rfl tb rfl rfl rfl
  refine ⟨fun v' σ' H' => ∃ q G' f0 f1 f2 f3, v' = .ref q ∧ σ' = [some (.ref p), some (.str z), some (.int n), some (.ref q)] ∧ FnSt (tabsN K tfL) G H G' H' q [.ref f0, .ref f1, .ref f2, .ref f3] ∧
    MadeV (cxD P w K mg base n_law_calls "_law_calls" s_law_calls (He.ga K "_law_calls") (.ref (He.codeOf K ("_law_calls", none))) A outer s H E) 6 (spOp K p (opAdd (.str z))) [0, 1] [.ref p, .str z] G' f0 ∧ MadeV (cxD P w K mg base n_law_calls "_law_calls" s_law_calls (He.ga K "_law_calls") (.ref (He.codeOf K ("_law_calls", none))) A outer s H E) 6 (spOp K p (opRest n)) [0, 2] [.ref p, .int n] G' f1 ∧
    MadeV (cxD P w K mg base n_law_calls "_law_calls" s_law_calls (He.ga K "_law_calls") (.ref (He.codeOf K ("_law_calls", none))) A outer s H E) 6 (spOp K p opUndo) [0] [.ref p] G' f2 ∧ MadeV (cxD P w K mg base n_law_calls "_law_calls" s_law_calls (He.ga K "_law_calls") (.ref (He.codeOf K ("_law_calls", none))) A outer s H E) 6 (spOp K p opRedo) [0] [.ref p] G' f3, ?_, ?_⟩
  · refine twsP_cons (mkV_first (i := 3) (kt := 6) (sp := spOp K p (opAdd (.str z))) (js := [0, 1]) (vs := [.ref p, .str z]) TK ⟨LamX.lamS_by (by kernel_rfl), rfl, fun _ _ _ _ _ => rfl, ["some", "sign"], NdefX.nscope_by (by kernel_rfl), rfl, rfl, fun q cl c' f A outer s H Q E hr' hs => fun pins s' I => Wp.mk ((pe_meth (E := E) (pv 0) T.cl_Logbook T.me_Logbook_add Fa (hr'.mono (by decide)) hba .nil (passes_call (takes_of rfl rfl rfl rfl) fun _ _ _ _ h => h) (pa_cons (pv 1) pa_nil)).run pins s' _ _ _ I ?_)⟩ nd gh tab fun f0 q G1 H1 m0 v0 => ?_)
    · have hs2 := hs
      obtain ⟨Gx, ax, bx, rfl, _, kx, _⟩ := hs2
      exact ⟨_, rfl, ax.p, ax.dx, _, rfl, kx.ins, bf_no (by decide), _, rfl, spAdd_of ⟨rfl, hz⟩ (fun G => .str z) hs⟩
    refine twsP_cons (mkV_next (i := 3) (kt := 6) (sp := spOp K p (opRest n)) (js := [0, 2]) (vs := [.ref p, .int n]) m0 TK ⟨LamX.lamS_by (by kernel_rfl), rfl, fun _ _ _ _ _ => rfl, ["some", "many"], NdefX.nscope_by (by kernel_rfl), rfl, rfl, fun q cl c' f A outer s H Q E hr' hs => fun pins s' I => Wp.mk ((pe_meth (E := E) (pv 0) T.cl_Logbook T.me_Logbook_rest Fr (hr'.mono (by decide)) hbr .nil (passes_call (takes_of rfl rfl rfl rfl) fun _ _ _ _ h => h) (pa_cons (pv 1) pa_nil)).run pins s' _ _ _ I ?_)⟩ rfl (by show 1 < 1000; decide) fun f1 G2 H2 m1 s1 v1 => ?_)
    · have hs2 := hs
      obtain ⟨Gx, ax, bx, rfl, _, kx, _⟩ := hs2
      exact ⟨_, rfl, ax.p, ax.dx, _, rfl, kx.ins, bf_no (by decide), _, rfl, spRest_of hs⟩
    refine twsP_cons (mkV_next (i := 3) (kt := 6) (sp := spOp K p opUndo) (js := [0]) (vs := [.ref p]) m1 TK ⟨LamX.lamS_by (by kernel_rfl), rfl, fun _ _ _ _ _ => rfl, ["some"], NdefX.nscope_by (by kernel_rfl), rfl, rfl, fun q cl c' f A outer s H Q E hr' hs => fun pins s' I => Wp.mk ((pe_meth0 (E := E) (pv 0) T.cl_Logbook T.me_Logbook_undo Fu (hr'.mono (by decide)) hbu .nil (passes_call (takes_of rfl rfl rfl rfl) fun _ _ _ _ h => h)).run pins s' _ _ _ I ?_)⟩ rfl (by show 2 < 1000; decide) fun f2 G3 H3 m2 s2 v2 => ?_)
    · have hs2 := hs
      obtain ⟨Gx, ax, bx, rfl, _, kx, _⟩ := hs2
      exact ⟨_, rfl, ax.p, ax.dx, _, rfl, kx.ins, bf_no (by decide), spUndo_of hs⟩
    refine twsP_cons (mkV_next (i := 3) (kt := 6) (sp := spOp K p opRedo) (js := [0]) (vs := [.ref p]) m2 TK ⟨LamX.lamS_by (by kernel_rfl), rfl, fun _ _ _ _ _ => rfl, ["some"], NdefX.nscope_by (by kernel_rfl), rfl, rfl, fun q cl c' f A outer s H Q E hr' hs => fun pins s' I => Wp.mk ((pe_meth0 (E := E) (pv 0) T.cl_Logbook T.me_Logbook_redo Fo (hr'.mono (by decide)) hbo .nil (passes_call (takes_of rfl rfl rfl rfl) fun _ _ _ _ h => h)).run pins s' _ _ _ I ?_)⟩ rfl (by show 3 < 1000; decide) fun f3 G4 H4 m3 s3 v3 => ?_)
    · have hs2 := hs
      obtain ⟨Gx, ax, bx, rfl, _, kx, _⟩ := hs2
      exact ⟨_, rfl, ax.p, ax.dx, _, rfl, kx.ins, bf_no (by decide), spRedo_of hs⟩
    exact twsP_ret (fun pins s I => Wp.mk ((pv 3).run pins s _ _ _ I ⟨.ref q, rfl, q, G4, f0, f1, f2, f3, rfl, rfl, m3, v0.mono (s1.trans (s2.trans s3)), v1.mono (s2.trans s3), v2.mono s3, v3⟩))
  · rintro v' σ' H' D ⟨q, G', f0, f1, f2, f3, rfl, rfl, m, ⟨L0, g0, l0⟩, ⟨L1, g1, l1⟩, ⟨L2, g2, l2⟩, ⟨L3, g3, l3⟩⟩ cd ok hD
    refine pub_endV m cd hD fun G0 Gx Hx ex ht s0 nt0 hl hc0 h3 => hq q f0 f1 f2 f3 G0 Gx Hx ex ht s0 nt0 hl (g0.th (lamF_lessV l0 h3) ok cd hc0 (fun i j v e1 e2 => ?_) spOp_del) (g1.th (lamF_lessV l1 h3) ok cd hc0 (fun i j v e1 e2 => ?_) spOp_del) (g2.th (lamF_lessV l2 h3) ok cd hc0 (fun i j v e1 e2 => ?_) spOp_del) (g3.th (lamF_lessV l3 h3) ok cd hc0 (fun i j v e1 e2 => ?_) spOp_del)
    · match i with
      | 0 => cases e1; cases e2; rfl
      | 1 => cases e1; cases e2; rfl
      | i + 2 => cases e1
    · match i with
      | 0 => cases e1; cases e2; rfl
      | 1 => cases e1; cases e2; rfl
      | i + 2 => cases e1
    · match i with
      | 0 => cases e1; cases e2; rfl
      | i + 1 => cases e1
    · match i with
      | 0 => cases e1; cases e2; rfl
      | i + 1 => cases e1
end
end Lw

namespace Lw
open PySem PySem.Spec L2 Gd
/-! ### faults behind a log -/
theorem badAt_snoc (r : Ru) (l : List Nat) (c : Nat) : badAt r (l ++ [c]) l.length = !okNext r (after r l) c := by
  unfold badAt okNext
  have e1 : (l ++ [c])[l.length]? = some c := by simp
  have e2 : (l ++ [c]).take (l.length + 1) = l ++ [c] := List.take_of_length_le (by simp)
  rw [e1, e2, after_snoc]
  cases h : decide (c = 68) <;> simp_all
theorem faults_snoc (r : Ru) (l : List Nat) (c : Nat) : faultsL r (l ++ [c]) = faultsL r l ++ (if okNext r (after r l) c = true then [] else [l.length]) := by
  unfold faultsL
  rw [List.length_append, List.length_singleton, List.range_succ, List.filter_append]
  congr 1
  · refine List.filter_congr fun i hi => ?_
    have hi := List.mem_range.mp hi
    rw [← badAt_take (l := l ++ [c]) hi, List.take_left]
  · have e := badAt_snoc r l c
    rw [List.filter_cons, e]
    cases okNext r (after r l) c <;> rfl
theorem okNext_drive {r : Ru} (v : VR r) (l : List Nat) (n : Nat) : okNext r (after r (l ++ List.replicate n 68)) 68 = decide ((n : Int) < leftOf r (after r l)) := by
  have h := brk_drive v l n
  rw [brk_is v] at h
  have h2 : okNext r (after r (l ++ List.replicate n 68)) 68 = !decide (leftOf r (after r l) ≤ (n : Int)) := by rw [← h, Bool.not_not]
  rw [h2, Bool.eq_iff_iff]
  simp
theorem faults_drives {r : Ru} (v : VR r) (l : List Nat) : forall n : Nat, (n : Int) ≤ leftOf r (after r l) -> faultsL r (l ++ List.replicate n 68) = faultsL r l
  | 0, _ => by rw [List.replicate_zero, List.append_nil]
  | n + 1, h => by
    rw [rep_snoc, ← List.append_assoc, faults_snoc, okNext_drive v, decide_eq_true (by omega), if_pos rfl, List.append_nil]
    exact faults_drives v l n (by omega)
theorem faults_break {r : Ru} (v : VR r) (l : List Nat) {n : Nat} (h : (n : Int) = leftOf r (after r l)) : faultsL r (l ++ List.replicate (n + 1) 68) = faultsL r l ++ [l.length + n] := by
  rw [rep_snoc, ← List.append_assoc, faults_snoc, okNext_drive v, decide_eq_false (by omega), if_neg (by decide), faults_drives v l n (by omega), List.length_append, List.length_replicate]
/-! ### how much rest is needed -/
theorem can_is (r : Ru) (q : Sq) : canDrive r q = (decide (q.st < r.st) && decide (q.da < r.da)) := by
  unfold canDrive isOver
  have s := st_drive r q
  rw [s.1, s.2, Bool.eq_iff_iff]
  simp
  omega
theorem need_zero {r : Ru} (v : VR r) {q : Sq} (h : 0 ≤ q.ru) : decide (((needN r q : Nat) : Int) = 0) = canDrive r q := by
  obtain ⟨a, b, c⟩ := need_ok v h
  by_cases hz : needN r q = 0
  · rw [hz] at a ⊢
    have a : canDrive r q = true := a
    rw [a]
    rfl
  · have := c 0 (by omega)
    have : canDrive r q = false := this
    rw [this, decide_eq_false (by omega)]
theorem need_unique {r : Ru} (v : VR r) {q : Sq} (h : 0 ≤ q.ru) {n : Nat} (h1 : canDrive r (rests r q n) = true) (h2 : forall j, j < n -> canDrive r (rests r q j) = false) : needN r q = n := by
  obtain ⟨a, b, c⟩ := need_ok v h
  by_cases x : needN r q < n
  · rw [h2 _ x] at a; cases a
  · by_cases y : n < needN r q
    · rw [c _ y] at h1; cases h1
    · omega
theorem need_le {r : Ru} (v : VR r) {q : Sq} (h : 0 ≤ q.ru) : ((needN r q : Nat) : Int) ≤ r.ni := by
  obtain ⟨a, b, c⟩ := need_ok v h
  have n1 := v.n1
  have p1 := v.p1
  by_cases x : r.ni.toNat < needN r q
  · have := c _ x
    rw [can_after_night v h] at this
    cases this
  · omega
theorem need_night {r : Ru} (v : VR r) {q : Sq} (h : q.ru = 0) (hd : r.da ≤ q.da) : ((needN r q : Nat) : Int) = r.ni := by
  have n1 := v.n1
  have p1 := v.p1
  have e : needN r q = r.ni.toNat := need_unique v (by omega) (can_after_night v (by omega)) fun j hj => by
    rw [can_is, rests_da v h j (by omega), decide_eq_false (show ¬ q.da < r.da by omega), Bool.and_false]
  rw [e]
  omega
/-- the slots of rest that end a stint -/
def pauseOf (r : Ru) (q : Sq) : Int := if q.mar = true then r.pa - r.sp else r.pa
theorem rests_keep {r : Ru} (v : VR r) {q : Sq} (h : q.ru = 0) (hm : q.mar = true -> 0 < r.sp) : forall n : Nat, (n : Int) < pauseOf r q -> (rests r q n).st = q.st ∧ (rests r q n).mar = q.mar
  | 0, _ => ⟨rfl, rfl⟩
  | n + 1, hn => by
    have ih := rests_keep v h hm n (by omega)
    have e := rests_ru v h (n + 1)
    have n1 := v.n1
    have q1 := v.q1
    have hp : pauseOf r q ≤ r.pa := by unfold pauseOf; split <;> omega
    rw [if_neg (by omega)] at e
    have e' : (restOnce r (rests r q n)).ru = ((n + 1 : Nat) : Int) := e
    have b2 : decide (r.pa ≤ (restOnce r (rests r q n)).ru) = false := decide_eq_false (by rw [e']; omega)
    have b1 : (decide (0 < r.sp) && ((rests r q n).mar && decide (r.pa - r.sp ≤ (restOnce r (rests r q n)).ru))) = false := by
      rw [ih.2, e']
      cases hmm : q.mar with
      | false => simp
      | true =>
        unfold pauseOf at hn
        rw [hmm, if_pos rfl] at hn
        rw [decide_eq_false (show ¬ r.pa - r.sp ≤ ((n + 1 : Nat) : Int) by omega)]
        simp
    refine ⟨?_, ?_⟩
    · show (restOnce r (rests r q n)).st = _
      rw [rest_st, b2, b1]
      exact ih.1
    · show (restOnce r (rests r q n)).mar = _
      rw [rest_mar, b2, b1]
      exact ih.2
theorem rests_pauseOf {r : Ru} (v : VR r) {q : Sq} (h : q.ru = 0) (hm : q.mar = true -> 0 < r.sp) {n : Nat} (hn : (n : Int) = pauseOf r q) : (rests r q n).st = 0 := by
  cases hmm : q.mar with
  | false =>
    unfold pauseOf at hn
    rw [hmm, if_neg Bool.false_ne_true] at hn
    exact (rests_pause v h (by omega)).1
  | true =>
    have hs := hm hmm
    have q2 := v.q2
    have n1 := v.n1
    have hp : pauseOf r q = r.pa - r.sp := by unfold pauseOf; rw [hmm, if_pos rfl]
    cases n with
    | zero => omega
    | succ n =>
      have ih := rests_keep v h hm n (by omega)
      have e := rests_ru v h (n + 1)
      rw [if_neg (by omega)] at e
      have e' : (restOnce r (rests r q n)).ru = ((n + 1 : Nat) : Int) := e
      show (restOnce r (rests r q n)).st = 0
      have b1 : (decide (0 < r.sp) && ((rests r q n).mar && decide (r.pa - r.sp ≤ (restOnce r (rests r q n)).ru))) = true := by
        rw [ih.2, hmm, e', decide_eq_true hs, decide_eq_true (show r.pa - r.sp ≤ ((n + 1 : Nat) : Int) by omega)]
        rfl
      rw [rest_st, b1]
      split <;> rfl
theorem rests_da_le {r : Ru} {q : Sq} (h : 0 ≤ q.da) : forall n : Nat, (rests r q n).da ≤ q.da
  | 0 => Int.le_refl _
  | n + 1 => by
    have ih := rests_da_le (r := r) h n
    show (restOnce r (rests r q n)).da ≤ _
    rw [rest_da]
    split <;> omega
theorem need_pause {r : Ru} (v : VR r) {q : Sq} (sa : Sane r q) (h : q.ru = 0) (hm : q.mar = true -> 0 < r.sp) (hd : q.da < r.da) (hs : r.st ≤ q.st) : ((needN r q : Nat) : Int) = pauseOf r q := by
  have p1 := v.p1
  have q2 := v.q2
  have s1 := v.s1
  have hp : 0 < pauseOf r q := by unfold pauseOf; split <;> omega
  have e : needN r q = (pauseOf r q).toNat := need_unique v (by omega) (by
      rw [can_is, rests_pauseOf v h hm (by omega), decide_eq_true (show (0 : Int) < r.st by omega)]
      have := rests_da_le (r := r) sa.da (pauseOf r q).toNat
      rw [decide_eq_true (by omega)]
      rfl) fun j hj => by
    rw [can_is, (rests_keep v h hm j (by omega)).1, decide_eq_false (show ¬ q.st < r.st by omega)]
    rfl
  rw [e]
  omega
theorem left_fresh {r : Ru} (v : VR r) {q : Sq} (h1 : q.st = 0) (h2 : q.da = 0) : leftOf r q = r.st := by
  have s1 := v.s1
  have d1 := v.d1
  unfold leftOf
  rw [h1, h2]
  split <;> split <;> omega
/-- a log that does not end in rest -/
theorem ru_end {r : Ru} {l : List Nat} (h : cut l (some (-1)) none ≠ [82]) : (after r l).ru = 0 := by
  rcases List.eq_nil_or_concat l with rfl | ⟨m, c, rfl⟩
  · rfl
  · rw [List.concat_eq_append] at h ⊢
    rw [cut_last] at h
    rw [after_snoc]
    exact ru_other fun z => h (by rw [z])
theorem mar_sp {r : Ru} (v : VR r) (l : List Nat) : (after r l).mar = true -> 0 < r.sp := fun h => by
  have q1 := v.q1
  by_cases hs : r.sp = 0
  · rw [mar_after hs] at h; cases h
  · omega
/-! ### counts -/
theorem nextS_len (r : Ru) (q : Sq) : 2 ≤ (nextS r q).length ∧ (nextS r q).length ≤ 3 := by
  unfold nextS signs3
  have h1 : okNext r q 82 = true := rfl
  have h2 : okNext r q 87 = true := rfl
  rw [List.filter_cons, List.filter_cons, List.filter_cons, h1, h2]
  cases okNext r q 68 <;> simp
theorem cnt_one (r : Ru) (q : Sq) : cnt r 1 q = (nextS r q).length := by
  show ((nextS r q).map fun c => (1 : Int)).sum = _
  exact sum_ones _
theorem sum_bounds {α : Type} {f : α -> Int} {a b : Int} : forall {L : List α}, (forall x, x ∈ L -> a ≤ f x ∧ f x ≤ b) -> a * L.length ≤ (L.map f).sum ∧ (L.map f).sum ≤ b * L.length
  | [], _ => by simp
  | x :: L, h => by
    have h1 := h x List.mem_cons_self
    have ih := sum_bounds (L := L) fun y hy => h y (List.mem_cons_of_mem _ hy)
    rw [List.map_cons, List.sum_cons, List.length_cons]
    have e1 : forall c : Int, c * ((L.length + 1 : Nat) : Int) = c * (L.length : Int) + c := fun c => by
      rw [Int.natCast_add, Int.mul_add]; omega
    rw [e1, e1]
    omega
theorem cnt_grow (r : Ru) (n : Nat) : 2 * cnt r n start0 ≤ cnt r (n + 1) start0 ∧ cnt r (n + 1) start0 ≤ 3 * cnt r n start0 := by
  rw [← lawL_cnt r n, ← lawL_sum r n 1]
  refine sum_bounds fun l _ => ?_
  rw [cnt_one]
  have := nextS_len r (after r l)
  omega
theorem cnt_nonneg (r : Ru) : forall n q, 0 ≤ cnt r n q
  | 0, _ => by show (0 : Int) ≤ 1; decide
  | n + 1, q => by
    have : forall L : List Nat, 0 ≤ (L.map fun c => cnt r n (stepF r q c)).sum := fun L => by
      induction L with
      | nil => simp
      | cons c L ih =>
        rw [List.map_cons, List.sum_cons]
        have := cnt_nonneg r n (stepF r q c)
        omega
    exact this _
theorem cnt_succ (r : Ru) (n : Nat) (q : Sq) : cnt r (n + 1) q = (if okNext r q 68 = true then cnt r n (stepF r q 68) else 0) + cnt r n (stepF r q 82) + cnt r n (stepF r q 87) := by
  show ((nextS r q).map fun c => cnt r n (stepF r q c)).sum = _
  unfold nextS signs3
  have h1 : okNext r q 82 = true := rfl
  have h2 : okNext r q 87 = true := rfl
  rw [List.filter_cons, List.filter_cons, List.filter_cons, h1, h2]
  cases okNext r q 68 <;> simp <;> omega
theorem okDrive (r : Ru) (q : Sq) : okNext r q 68 = (decide (q.st < r.st) && decide (q.da < r.da)) := by
  rw [← can_is]
  rfl
theorem cnt_all (r : Ru) : forall (n : Nat) (q : Sq), 0 ≤ q.st -> 0 ≤ q.da -> q.st + n ≤ r.st -> q.da + n ≤ r.da -> cnt r n q = 3 ^ n
  | 0, _, _, _, _, _ => rfl
  | n + 1, q, a, b, h1, h2 => by
    have s := st_drive r q
    have o1 := st_other (r := r) (s := q) (c := 82) (by decide)
    have o2 := st_other (r := r) (s := q) (c := 87) (by decide)
    rw [cnt_succ, okDrive, decide_eq_true (by omega), decide_eq_true (by omega), cnt_all r n (stepF r q 68) (by omega) (by omega) (by omega) (by omega), cnt_all r n (stepF r q 82) (by omega) (by omega) (by omega) (by omega), cnt_all r n (stepF r q 87) (by omega) (by omega) (by omega) (by omega), Int.pow_succ]
    simp
    omega
theorem cnt_most {r : Ru} (v : VR r) : forall (n : Nat) (q : Sq), 0 ≤ q.st -> q.da = q.st -> q.st + (n + 1 : Nat) = r.st + 1 -> cnt r (n + 1) q = 3 ^ (n + 1) - 1
  | 0, q, a, b, h => by
    rw [cnt_succ, okDrive, decide_eq_false (show ¬ q.st < r.st by omega)]
    rfl
  | n + 1, q, a, b, h => by
    have d1 := v.d1
    have s := st_drive r q
    have o1 := st_other (r := r) (s := q) (c := 82) (by decide)
    have o2 := st_other (r := r) (s := q) (c := 87) (by decide)
    rw [cnt_succ, okDrive, decide_eq_true (by omega), decide_eq_true (by omega), cnt_most v n (stepF r q 68) (by omega) (by omega) (by omega), cnt_all r (n + 1) (stepF r q 82) (by omega) (by omega) (by omega) (by omega), cnt_all r (n + 1) (stepF r q 87) (by omega) (by omega) (by omega) (by omega), Int.pow_succ 3 (n + 1)]
    simp
    omega
/-- without split pauses there are no more lawful logs -/
def plainR (r : Ru) : Ru := { r with sp := 0 }
theorem plain_vr {r : Ru} (v : VR r) : VR (plainR r) := ⟨v.s1, v.s2, v.p1, v.p2, v.d1, v.d2, v.n1, v.n2, Int.le_refl 0, by have := v.p1; show (0 : Int) ≤ r.pa - 1; omega⟩
structure PlainB (r : Ru) (q q0 : Sq) : Prop where
  st : q.st ≤ q0.st
  nn : 0 ≤ q0.st
  da : q.da = q0.da
  ru : q.ru = q0.ru
theorem plainB_step {r : Ru} {q q0 : Sq} (h : PlainB r q q0) (c : Nat) : PlainB r (stepF r q c) (stepF (plainR r) q0 c) := by
  obtain ⟨a, n, b, e⟩ := h
  unfold stepF
  split
  · have hru : (restOnce r q).ru = (restOnce (plainR r) q0).ru := by
      rw [restOnce_ru, restOnce_ru, e]
      rfl
    have h0 : (restOnce (plainR r) q0).st = if decide (r.pa ≤ (restOnce r q).ru) = true then 0 else q0.st := by
      rw [rest_st, hru]
      have : (decide (0 < (plainR r).sp) && (q0.mar && decide ((plainR r).pa - (plainR r).sp ≤ (restOnce (plainR r) q0).ru))) = false := rfl
      rw [this]
      rfl
    refine ⟨?_, ?_, ?_, hru⟩
    · rw [h0, rest_st]
      split
      · omega
      · split <;> omega
    · rw [h0]
      split <;> omega
    · rw [rest_da, rest_da, hru, b]
      rfl
  · split
    · exact ⟨by show q.st + 1 ≤ q0.st + 1; omega, by show 0 ≤ q0.st + 1; omega, by show q.da + 1 = q0.da + 1; omega, rfl⟩
    · exact ⟨a, n, b, rfl⟩
theorem cnt_plain {r : Ru} : forall (n : Nat) (q q0 : Sq), PlainB r q q0 -> cnt (plainR r) n q0 ≤ cnt r n q
  | 0, _, _, _ => Int.le_refl _
  | n + 1, q, q0, h => by
    rw [cnt_succ, cnt_succ]
    have a := cnt_plain n _ _ (plainB_step h 68)
    have b := cnt_plain n _ _ (plainB_step h 82)
    have c := cnt_plain n _ _ (plainB_step h 87)
    have z := cnt_nonneg r n (stepF r q 68)
    rw [okDrive, okDrive]
    have e1 := h.st
    have e2 := h.da
    have e3 : (plainR r).st = r.st := rfl
    have e4 : (plainR r).da = r.da := rfl
    rw [e3, e4, e2]
    by_cases c1 : q0.st < r.st
    · rw [decide_eq_true c1, decide_eq_true (show q.st < r.st by omega)]
      cases decide (q0.da < r.da) <;> simp <;> omega
    · rw [decide_eq_false c1]
      simp only [Bool.false_and]
      cases (decide (q.st < r.st) && decide (q0.da < r.da)) <;> simp <;> omega
end Lw

namespace Lw
open PySem PySem.Spec L2 Gd
/-! ### _law_pick -/
def pwh : Nat -> Int -> Int
  | 0, rest => rest
  | t + 1, rest => if 0 < rest then pwh t (rest / 840) else rest
def cellP (ns : List Int) (k : Int) : Int := if ns.isEmpty = true then 0 else cellAt ns k
def divP (ns : List Int) : Int := if 1 > (ns.length : Int) then 1 else ns.length
def mixP (cell k many : Int) : Int :=
  let c := (cell * 31 + 6151 * (k + 1)) * 40692 % 2147483399
  (c * c + c / 31) % 2147483629 % many
def pick (ns : List Int) (k many : Int) : Int :=
  if 0 < pwh (k / divP ns).toNat (cellP ns k / 10 ^ 18) then pwh (k / divP ns).toNat (cellP ns k / 10 ^ 18) % 840 % many else mixP (cellP ns k) k many
theorem pick_range (ns : List Int) (k many : Int) (h : 0 < many) : 0 ≤ pick ns k many ∧ pick ns k many < many := by
  unfold pick mixP
  split
  · exact ⟨Int.emod_nonneg _ (by omega), Int.emod_lt_of_pos _ h⟩
  · exact ⟨Int.emod_nonneg _ (by omega), Int.emod_lt_of_pos _ h⟩
def lawForm (ns : List Int) (at_ most : Int) : Ru :=
  { st := 1 + pick ns at_ most
    pa := 1 + pick ns (at_ + 1) 3
    da := 1 + pick ns at_ most + pick ns (at_ + 2) 4
    ni := 1 + pick ns (at_ + 1) 3 + pick ns (at_ + 3) 3
    sp := pick ns (at_ + 4) (1 + pick ns (at_ + 1) 3) }
theorem lawForm_vr (ns : List Int) (at_ most : Int) (h1 : 1 ≤ most) (h6 : most ≤ 6) : VR (lawForm ns at_ most) := by
  have a := pick_range ns at_ most (by omega)
  have b := pick_range ns (at_ + 1) 3 (by decide)
  have c := pick_range ns (at_ + 2) 4 (by decide)
  have d := pick_range ns (at_ + 3) 3 (by decide)
  have e := pick_range ns (at_ + 4) (1 + pick ns (at_ + 1) 3) (by omega)
  unfold lawForm
  constructor <;> dsimp only <;> omega
/-- a drawn log: the signs of "DDRDRW" -/
def sg6 (n : Int) : Nat := [68, 68, 82, 68, 82, 87].getD n.toNat 68
theorem sg6_sg {n : Int} (h0 : 0 ≤ n) (h : n < 6) : isSg (sg6 n) = true ∧ ([68, 68, 82, 68, 82, 87] : List Nat)[n.toNat]? = some (sg6 n) := by
  have : n = 0 ∨ n = 1 ∨ n = 2 ∨ n = 3 ∨ n = 4 ∨ n = 5 := by omega
  rcases this with rfl | rfl | rfl | rfl | rfl | rfl <;> exact ⟨rfl, rfl⟩
def lawRow (ns : List Int) (at_ most : Int) : List Nat := (List.range (pick ns at_ (most + 1)).toNat).map fun (k : Nat) => sg6 (pick ns (at_ + 1 + (k : Int)) 6)
theorem lawRow_ok (ns : List Int) (at_ most : Int) (h : 0 ≤ most) : ((lawRow ns at_ most).length : Int) ≤ most ∧ (lawRow ns at_ most).all isSg = true := by
  have a := pick_range ns at_ (most + 1) (by omega)
  unfold lawRow
  refine ⟨by rw [List.length_map, List.length_range]; omega, ?_⟩
  rw [List.all_eq_true]
  intro x hx
  obtain ⟨k, _, rfl⟩ := List.mem_map.mp hx
  have b := pick_range ns (at_ + 1 + (k : Int)) 6 (by decide)
  exact (sg6_sg b.1 b.2).1
theorem lawRow_isLog (ns : List Int) (at_ most : Int) (h : 0 ≤ most) (h60 : most ≤ 60) : isLogL (lawRow ns at_ most) = true := by
  have := lawRow_ok ns at_ most h
  unfold isLogL
  rw [this.2, decide_eq_true (by omega)]
  rfl
/-! ### _law_count: run by run -/
structure Qt where
  one : Int
  day : Int
  mar : Bool
/-- whether a row of n slots of rest ends a stint by its second part -/
def usedB (r : Ru) (m : Bool) (n : Nat) : Bool := decide (0 < r.sp) && (m && decide (r.pa - r.sp ≤ (n : Int)))
theorem rests_form {r : Ru} (v : VR r) {q : Sq} (h : q.ru = 0) (ht : q.tk = false) : forall n : Nat,
    (rests r q n).st = (if (decide (r.pa ≤ (n : Int)) || usedB r q.mar n) = true then 0 else q.st) ∧
    (rests r q n).mar = (if (decide (r.pa ≤ (n : Int)) || usedB r q.mar n) = true then false else q.mar) ∧
    (rests r q n).tk = usedB r q.mar n
  | 0 => by
    have p1 := v.p1
    have q2 := v.q2
    have u : usedB r q.mar 0 = false := by
      unfold usedB
      rw [decide_eq_false (show ¬ r.pa - r.sp ≤ ((0 : Nat) : Int) by omega)]
      simp
    rw [u, decide_eq_false (show ¬ r.pa ≤ ((0 : Nat) : Int) by omega)]
    exact ⟨rfl, rfl, ht⟩
  | n + 1 => by
    obtain ⟨a, b, c⟩ := rests_form v h ht n
    have e := rests_ru v h (n + 1)
    have n1 := v.n1
    have q1 := v.q1
    have q2 := v.q2
    have e' : (restOnce r (rests r q n)).ru = if r.ni < ((n + 1 : Nat) : Int) then r.ni else ((n + 1 : Nat) : Int) := e
    have d2 : decide (r.pa ≤ (restOnce r (rests r q n)).ru) = decide (r.pa ≤ ((n + 1 : Nat) : Int)) := by
      rw [e']
      split
      · rw [decide_eq_true (by omega), decide_eq_true (by omega)]
      · rfl
    have d1 : decide (r.pa - r.sp ≤ (restOnce r (rests r q n)).ru) = decide (r.pa - r.sp ≤ ((n + 1 : Nat) : Int)) := by
      rw [e']
      split
      · rw [decide_eq_true (by omega), decide_eq_true (by omega)]
      · rfl
    have s1 : (rests r q (n + 1)).st = if decide (r.pa ≤ ((n + 1 : Nat) : Int)) = true then 0 else if (decide (0 < r.sp) && ((rests r q n).mar && decide (r.pa - r.sp ≤ ((n + 1 : Nat) : Int)))) = true then 0 else (rests r q n).st := by
      show (restOnce r (rests r q n)).st = _
      rw [rest_st, d2, d1]
    have s2 : (rests r q (n + 1)).mar = if decide (r.pa ≤ ((n + 1 : Nat) : Int)) = true then false else if (decide (0 < r.sp) && ((rests r q n).mar && decide (r.pa - r.sp ≤ ((n + 1 : Nat) : Int)))) = true then false else (rests r q n).mar := by
      show (restOnce r (rests r q n)).mar = _
      rw [rest_mar, d2, d1]
    have s3 : (rests r q (n + 1)).tk = if (decide (0 < r.sp) && ((rests r q n).mar && decide (r.pa - r.sp ≤ ((n + 1 : Nat) : Int)))) = true then true else (rests r q n).tk := by
      show (if (decide (0 < r.sp) && ((rests r q n).mar && decide (r.pa - r.sp ≤ (restOnce r (rests r q n)).ru))) = true then true else (rests r q n).tk) = _
      rw [d1]
    rw [s1, s2, s3, a, b, c]
    unfold usedB
    have hz : ((n + 1 : Nat) : Int) = (n : Int) + 1 := by omega
    generalize ((n + 1 : Nat) : Int) = z at hz
    clear s1 s2 s3 a b c e e' d1 d2
    generalize (n : Int) = y at hz
    cases hm : q.mar with
    | false =>
      simp
      split <;> (try split) <;> simp_all <;> omega
    | true =>
      by_cases h1 : 0 < r.sp
      · by_cases h2 : r.pa - r.sp ≤ y
        · have h3 : r.pa - r.sp ≤ z := by omega
          simp [h1, h2, h3]
        · by_cases h3 : r.pa - r.sp ≤ z
          · have h4 : ¬ r.pa ≤ y := by omega
            simp [h1, h2, h3, h4]
          · have h4 : ¬ r.pa ≤ y := by omega
            have h5 : ¬ r.pa ≤ z := by omega
            simp [h1, h2, h3, h4, h5]
      · simp [h1]
        split <;> (try split) <;> simp_all <;> omega
theorem rests_daN {r : Ru} (v : VR r) {q : Sq} (h : q.ru = 0) (n : Nat) : (rests r q n).da = if r.ni ≤ (n : Int) then 0 else q.da := by
  split
  · exact rests_night v h (by assumption)
  · exact rests_da v h n (by omega)
/-- the mark as _law_count keeps it: behind a row of rest that has ended -/
def markAt (r : Ru) (q : Sq) (more : Bool) : Bool := if more = true then (endRun r q).mar else q.mar
theorem endRun_mar0 {r : Ru} {q : Sq} (h : q.ru = 0) : (endRun r q).mar = q.mar := by
  show (q.mar || (decide (0 < r.sp) && ((decide (r.sp ≤ q.ru) && decide (q.ru < r.pa)) && !q.tk))) = _
  rw [h]
  by_cases h1 : 0 < r.sp
  · rw [decide_eq_false (show ¬ r.sp ≤ 0 by omega)]
    simp
  · rw [decide_eq_false h1]
    simp
theorem mark_run {r : Ru} (v : VR r) {q : Sq} (h : q.ru = 0) (ht : q.tk = false) {n : Nat} (hn : 0 < n) : (endRun r (rests r q n)).mar =
    if (decide (0 < r.sp) && (!usedB r q.mar n && (decide (r.sp ≤ (n : Int)) && decide ((n : Int) < r.pa)))) = true then true else (rests r q n).mar := by
  obtain ⟨a, b, c⟩ := rests_form v h ht n
  have e := rests_ru v h n
  have n1 := v.n1
  have q2 := v.q2
  show ((rests r q n).mar || (decide (0 < r.sp) && ((decide (r.sp ≤ (rests r q n).ru) && decide ((rests r q n).ru < r.pa)) && !(rests r q n).tk))) = _
  have d1 : decide (r.sp ≤ (rests r q n).ru) = decide (r.sp ≤ (n : Int)) := by
    rw [e]
    split
    · rw [decide_eq_true (by omega), decide_eq_true (by omega)]
    · rfl
  have d2 : decide ((rests r q n).ru < r.pa) = decide ((n : Int) < r.pa) := by
    rw [e]
    split
    · rw [decide_eq_false (by omega), decide_eq_false (by omega)]
    · rfl
  rw [d1, d2, c]
  cases (rests r q n).mar <;> cases decide (0 < r.sp) <;> cases usedB r q.mar n <;> cases decide (r.sp ≤ (n : Int)) <;> cases decide ((n : Int) < r.pa) <;> rfl
theorem tk_other {r : Ru} {s : Sq} {c : Nat} (h2 : c ≠ 82) : (stepF r s c).tk = false := by
  unfold stepF
  rw [if_neg h2]
  split <;> rfl
theorem run_start {r : Ru} {l : List Nat} {s : Nat} (hs : s ≤ l.length) (h : s = 0 ∨ l[s - 1]? ≠ some 82) : (after r (l.take s)).ru = 0 ∧ (after r (l.take s)).tk = false := by
  refine ⟨ru_start hs h, ?_⟩
  cases s with
  | zero => rfl
  | succ s =>
    have hlt : s < l.length := by omega
    have hg : l[s]? = some l[s] := List.getElem?_eq_getElem hlt
    rw [after_take hg]
    refine tk_other fun z => ?_
    rcases h with h | h
    · omega
    · rw [Nat.add_sub_cancel, hg, z] at h
      exact h rfl
theorem mark_end (r : Ru) (s : Sq) {c : Nat} (h : c ≠ 82) : (stepF r s c).mar = (endRun r s).mar := by
  unfold stepF
  rw [if_neg h]
  split <;> rfl
end Lw

namespace Lw
open PySem PySem.Spec L2 Gd
section
variable {P : Program} {w : World} {K : PySem.W.Frag} {mg : Str -> Option Value} {base : Heap}
/-! ### _law_pick -/
def R_pick : Rel := fun ds o => ∃ ns k many, ns.length ≤ 63 ∧ 0 ≤ k ∧ 0 < many ∧ ds = [scrD ns, .int k, .int many] ∧ o = .ret (.int (pick ns k many))
theorem can_pick (T : Tp K mg) : Can P w K mg base 1 "_law_pick" R_pick := by
  obtain ⟨fd, F⟩ := T.fn_law_pick
  refine can_of F T.gl_law_pick sc_law_pick (fun _ _ _ _ _ _ us hl => match us, hl with | [_, _, _], _ => rfl) (by rintro ds o ⟨_, _, _, _, _, _, rfl, rfl⟩; rfl) ?_
  rintro cdv A outer s H E N ds o hr ⟨ns, k, many, h63, hk, hm, rfl, rfl⟩ hx
  have nd := sc_law_pick.nd
  have hu := hr.units
  have m1 : forall x : Int, 0 ≤ x % 2147483399 ∧ x % 2147483399 < 2147483399 := fun x => ⟨Int.emod_nonneg _ (by decide), Int.emod_lt_of_pos _ (by decide)⟩
  have hdv : 0 < divP ns ∧ divP ns < 1000 := by
    unfold divP
    split <;> omega
  have hcell : GE (cxD P w K mg base n_law_pick "_law_pick" s_law_pick (He.ga K "_law_pick") cdv A outer s H E) (match (defBody s_law_pick) with | .Assign _ e _ :: _ => e | _ :: .Assign _ e _ :: _ => e | _ => .Constant .none 0 ⟨0, 0, 0, 0⟩) (startR n_law_pick.length [scrD ns, .int k, .int many]) (.int (cellP ns k)) := by
    refine ge_if (gt_cmp (gv 0) (ge_lst ga_nil) (c_scrNe hu (shap_s (shap_of 1 (shN_list ns fun _ _ => rfl))))) (fun z => ?_) fun z => ?_
    · have hne : ns ≠ [] := by
        intro e
        subst e
        simp [eqv_nil] at z
      have hl : 0 < ns.length := List.length_pos_iff.mpr hne
      have he : ns.isEmpty = false := by cases ns with
        | nil => exact absurd rfl hne
        | cons _ _ => rfl
      have hp : cellP ns k = cellAt ns k := by unfold cellP; rw [he, if_neg Bool.false_ne_true]
      rw [hp]
      exact ge_ix (gv 0) (ge_bin (gv 1) (ge_cb T.fr_len bt_len k_lenScr (ga_cons (gv 0) ga_nil)) (b_mod (by omega))) (x_scr (cellAt_at hne hk))
    · rw [eqv_nil, List.isEmpty_map] at z
      have : ns.isEmpty = true := by simpa using z
      have hp : cellP ns k = 0 := by unfold cellP; rw [this, if_pos rfl]
      rw [hp]
      exact ge_int
  refine gs_cons (g1_set 3 hcell ?_ nd)
  have ht0 : 0 ≤ k / divP ns := Int.ediv_nonneg hk (by omega)
  refine gs_cons (g1_par 4 5 (ga_cons (ge_bin (gv 3) (ge_bin ge_int ge_int (b_pow ⟨by decide, by decide, by decide⟩)) (b_divW (wide_div (b := 64) (by decide) (by decide) (by decide) (by decide)))) (ga_cons (ge_bin (gv 1) (ge_is (d1 := .int (divP ns)) (ge_cb T.fr_max bt_max (k_max2 rfl) (ga_cons (ge_cb T.fr_len bt_len k_lenScr (ga_cons (gv 0) ga_nil)) (ga_cons ge_int ga_nil))) rfl) (b_div ⟨hdv.1, by omega⟩)) ga_nil)) ?_ nd)
  refine gs_cons (g1_while (fun m ρ => ∃ (rest : Int) (t : Nat), m = t ∧ pwh t rest = pwh (k / divP ns).toNat (cellP ns k / 10 ^ 18) ∧ ρ = [.dat (scrD ns), .dat (.int k), .dat (.int many), .dat (.int (cellP ns k)), .dat (.int rest), .dat (.int (t : Nat)), .any]) (k / divP ns).toNat ⟨_, _, rfl, rfl, ?_⟩ ?_ (passes_of rfl))
  · have : (((k / divP ns).toNat : Nat) : Int) = k / divP ns := by omega
    rw [this]
    rfl
  rintro m ρ1 ⟨rest, t, rfl, hd, rfl⟩
  refine ⟨_, gt_w (gw_and (gt_cmp (gv 4) ge_int c_gt) fun _ => gw_and1 (gt_cmp (gv 5) ge_int c_gt)), fun y => ?_, fun y => ?_⟩
  · obtain ⟨y1, y2⟩ := Bool.and_eq_true_iff.mp y
    have y1 := of_decide_eq_true y1
    have y2 := of_decide_eq_true y2
    obtain ⟨t', rfl⟩ : ∃ t', m = t' + 1 := ⟨m - 1, by omega⟩
    refine gs_cons (g1_par 4 5 (ga_cons (ge_bin (gv 4) ge_int (b_div ⟨by decide, by decide⟩)) (ga_cons (ge_bin (gv 5) ge_int b_sub) ga_nil)) (gs_nil ⟨t', by omega, rest / 840, t', rfl, ?_, ?_⟩) nd)
    · rw [← hd]
      show _ = if 0 < rest then pwh t' (rest / 840) else rest
      rw [if_pos y1]
    · have : ((t' + 1 : Nat) : Int) - 1 = (t' : Nat) := by omega
      rw [this]
      rfl
  · have fe : rest = pwh (k / divP ns).toNat (cellP ns k / 10 ^ 18) := by
      rw [← hd]
      cases m with
      | zero => rfl
      | succ t' =>
        have : ¬ 0 < rest := by
          intro h
          have e2 : decide ((0 : Int) < ((t' + 1 : Nat) : Int)) = true := decide_eq_true (by omega)
          rw [decide_eq_true h, e2] at y
          cases y
        show _ = if 0 < rest then _ else rest
        rw [if_neg this]
    refine gs_cons (g1_if (gt_cmp (gv 4) ge_int c_gt) (fun u => ?_) fun u => gs_nil ?_)
    · refine gs_cons (g1_ret (ge_bin (ge_bin (gv 4) ge_int (b_mod (by decide))) (gv 2) (b_mod hm)) ?_)
      have u := of_decide_eq_true u
      show Out.ret (.int (pick ns k many)) = _
      unfold pick
      rw [← fe, if_pos u]
    · have u := of_decide_eq_false u
      have hp : pick ns k many = mixP (cellP ns k) k many := by
        unfold pick
        rw [← fe, if_neg u]
      rw [hp]
      refine gs_cons (g1_set 6 (ge_bin (ge_bin (ge_bin (ge_bin (gv 3) ge_int (b_mul (.inr ⟨by decide, by decide⟩))) (ge_bin ge_int (ge_bin (gv 1) ge_int b_add) (b_mul (.inl ⟨by decide, by decide⟩))) b_add) ge_int (b_mul (.inr ⟨by decide, by decide⟩))) ge_int (b_mod (by decide))) ?_ nd)
      unfold mixP
      dsimp only
      have r1 := m1 ((cellP ns k * 31 + 6151 * (k + 1)) * 40692)
      generalize (cellP ns k * 31 + 6151 * (k + 1)) * 40692 % 2147483399 = c1 at r1
      exact gs_cons (g1_ret (ge_bin (ge_bin (ge_bin (ge_bin (gv 6) (gv 6) (b_mul (.inl ⟨by omega, by omega⟩))) (ge_bin (gv 6) ge_int (b_div ⟨by decide, by decide⟩)) b_add) ge_int (b_mod (by decide))) (gv 2) (b_mod hm)) rfl)
/-! ### _law_form, _law_row -/
def R_form : Rel := fun ds o => ∃ ns k most, ns.length ≤ 63 ∧ 0 ≤ k ∧ 1 ≤ most ∧ ds = [scrD ns, .int k, .int most] ∧ o = .ret (ruD (lawForm ns k most))
theorem can_form (T : Tp K mg) : Can P w K mg base 2 "_law_form" R_form := by
  obtain ⟨fd, F⟩ := T.fn_law_form
  refine can_of F T.gl_law_form sc_law_form (fun _ _ _ _ _ _ us hl => match us, hl with | [_, _, _], _ => rfl) (by rintro ds o ⟨_, _, _, _, _, _, rfl, rfl⟩; rfl) ?_
  rintro cdv A outer s H E N ds o hr ⟨ns, k, most, h63, hk, hm, rfl, rfl⟩ hx
  have nd := sc_law_form.nd
  have pr := pick_range ns (k + 1) 3 (by decide)
  refine gs_cons (g1_par 3 4 (ga_cons (ge_bin ge_int (ge_call (can_pick T) hr (ga_cons (gv 0) (ga_cons (gv 1) (ga_cons (gv 2) ga_nil))) ⟨ns, k, most, h63, hk, by omega, rfl, rfl⟩) b_add) (ga_cons (ge_bin ge_int (ge_call (can_pick T) hr (ga_cons (gv 0) (ga_cons (ge_bin (gv 1) ge_int b_add) (ga_cons ge_int ga_nil))) ⟨ns, k + 1, 3, h63, by omega, by decide, rfl, rfl⟩) b_add) ga_nil)) ?_ nd)
  refine gs_cons (g1_set 5 (ge_bin (gv 3) (ge_call (can_pick T) hr (ga_cons (gv 0) (ga_cons (ge_bin (gv 1) ge_int b_add) (ga_cons ge_int ga_nil))) ⟨ns, k + 2, 4, h63, by omega, by decide, rfl, rfl⟩) b_add) ?_ nd)
  refine gs_cons (g1_set 6 (ge_bin (gv 4) (ge_call (can_pick T) hr (ga_cons (gv 0) (ga_cons (ge_bin (gv 1) ge_int b_add) (ga_cons ge_int ga_nil))) ⟨ns, k + 3, 3, h63, by omega, by decide, rfl, rfl⟩) b_add) ?_ nd)
  exact gs_cons (g1_ret (ge_tup (ga_cons (gv 3) (ga_cons (gv 4) (ga_cons (gv 5) (ga_cons (gv 6) (ga_cons (ge_call (can_pick T) hr (ga_cons (gv 0) (ga_cons (ge_bin (gv 1) ge_int b_add) (ga_cons (gv 4) ga_nil))) ⟨ns, k + 4, _, h63, by omega, by omega, rfl, rfl⟩) ga_nil)))))) rfl)
def R_lrow : Rel := fun ds o => ∃ ns k most, ns.length ≤ 63 ∧ 0 ≤ k ∧ 0 ≤ most ∧ most ≤ 1000 ∧ ds = [scrD ns, .int k, .int most] ∧ o = .ret (.str (S (lawRow ns k most)))
end
end Lw

namespace Lw
open PySem PySem.Spec L2 Gd
theorem ints_is2 (L : List Nat) : intsD L = PyData.list ((L.map fun (i : Nat) => (i : Int)).map PyData.int) := by
  unfold intsD
  rw [List.map_map]
  rfl
theorem mem_ints2 {L : List Nat} {i : Nat} : ((i : Int) ∈ L.map fun (i : Nat) => (i : Int)) ↔ i ∈ L := by
  constructor
  · intro h
    obtain ⟨j, hj, e⟩ := List.mem_map.mp h
    have : j = i := by omega
    subst this
    exact hj
  · exact fun h => List.mem_map.mpr ⟨i, h, rfl⟩
section
variable {P : Program} {w : World} {K : PySem.W.Frag} {mg : Str -> Option Value} {base : Heap}
/-! ### _law_count -/
def R_count : Rel := fun ds o => ∃ r l, VR r ∧ l.length ≤ 1000 ∧ ds = [ruD r, .str (S l)] ∧ o = .ret (shD (after r l))
theorem can_count (T : Tp K mg) : Can P w K mg base 1 "_law_count" R_count := by
  obtain ⟨fd, F⟩ := T.fn_law_count
  refine can_of F T.gl_law_count sc_law_count (fun _ _ _ _ _ _ us hl => match us, hl with | [_, _], _ => rfl) (by rintro ds o ⟨_, _, _, _, rfl, rfl⟩; rfl) ?_
  rintro cdv A outer s H E N ds o hr ⟨r, l, v, hl, rfl, rfl⟩ hx
  have nd := sc_law_count.nd
  refine gs_cons (g1_asg (tg_tp (is := [2, 3, 4, 5, 6]) (tgs_cons 2 nd (tgs_cons 3 nd (tgs_cons 4 nd (tgs_cons 5 nd (tgs_cons 6 nd tgs_nil)))))) (gv 0) rfl ?_)
  refine gs_cons (g1_asg (tg_tp (is := [7, 8, 9, 10]) (tgs_cons 7 nd (tgs_cons 8 nd (tgs_cons 9 nd (tgs_cons 10 nd tgs_nil))))) (ge_tup (ga_cons ge_int (ga_cons ge_int (ga_cons ge_bl (ga_cons ge_int ga_nil))))) rfl ?_)
  refine gs_eq [.dat (ruD r), .dat (.str (S l)), .dat (.int r.st), .dat (.int r.pa), .dat (.int r.da), .dat (.int r.ni), .dat (.int r.sp), .dat (.int 0), .dat (.int 0), .dat (.bool false), .dat (.int 0), .any, .any] ?_
  refine gs_cons (g1_while (fun m ρ => ∃ (i : Nat) (x11 x12 : Cell), i + m = l.length ∧ (l[i]? = some 82 -> i = 0 ∨ l[i - 1]? ≠ some 82) ∧
    ρ = [.dat (ruD r), .dat (.str (S l)), .dat (.int r.st), .dat (.int r.pa), .dat (.int r.da), .dat (.int r.ni), .dat (.int r.sp), .dat (.int (after r (l.take i)).st), .dat (.int (after r (l.take i)).da), .dat (.bool (markAt r (after r (l.take i)) (decide (i < l.length)))), .dat (.int (i : Nat)), x11, x12]) l.length ⟨0, .any, .any, by omega, fun _ => .inl rfl, ?_⟩ ?_ (passes_of rfl))
  · have : markAt r (after r (l.take 0)) (decide (0 < l.length)) = false := by
      unfold markAt
      split
      · rw [endRun_mar0 (by rfl)]
        rfl
      · rfl
    rw [this]
    rfl
  rintro m ρ1 ⟨i, x11, x12, hi, hst, rfl⟩
  refine ⟨_, gt_cmp (gv 10) (ge_lenS T.fr_len (gv 1) (by omega)) c_lt, fun z => ?_, fun z => ?_⟩
  · have z : i < l.length := by have := of_decide_eq_true z; omega
    have hat : atI l ((i : Nat) : Int) = some l[i] := atI_nat (List.getElem?_eq_getElem z)
    have hg : l[i]? = some l[i] := List.getElem?_eq_getElem z
    have hmk : markAt r (after r (l.take i)) (decide (i < l.length)) = (endRun r (after r (l.take i))).mar := by
      unfold markAt
      rw [decide_eq_true z, if_pos rfl]
    rw [hmk]
    refine gs_cons (g1_if (gt_cmp (ge_ix (gv 1) (gv 10) (x_str (by omega) hat)) (gsS [82]) c_neSS) (fun y => ?_) fun y => ?_)
    · have hc : l[i] ≠ 82 := by simpa using y
      have hone : forall (a : Int), (if decide ([l[i]] = [68]) = true then PyData.int 1 else .int 0) = .int (if l[i] = 68 then 1 else 0) := fun a => by
        by_cases h : l[i] = 68 <;> simp [h]
      have e1 := after_take (r := r) hg
      refine gs_cons (g1_par 7 8 (ga_cons (ge_bin (gv 7) (ge_is (ge_ite (x := .Constant .none 0 ⟨0, 0, 0, 0⟩) (gt_cmp (ge_ix (gv 1) (gv 10) (x_str (by omega) hat)) (gsS [68]) c_eqSS) (fun _ => ge_int) fun _ => ge_int) (hone 0)) b_add) (ga_cons (ge_bin (gv 8) (ge_is (ge_ite (x := .Constant .none 0 ⟨0, 0, 0, 0⟩) (gt_cmp (ge_ix (gv 1) (gv 10) (x_str (by omega) hat)) (gsS [68]) c_eqSS) (fun _ => ge_int) fun _ => ge_int) (hone 0)) b_add) ga_nil)) ?_ nd)
      refine gs_cons (g1_set 10 (ge_bin (gv 10) ge_int b_add) (gs_nil (gs_nil ⟨m - 1, by omega, i + 1, x11, x12, by omega, fun h => .inr ?_, ?_⟩)) nd)
      · rw [Nat.add_sub_cancel, hg]
        exact fun h => hc (Option.some.inj h)
      · have k1 : (after r (l.take (i + 1))).st = (after r (l.take i)).st + (if l[i] = 68 then 1 else 0) ∧ (after r (l.take (i + 1))).da = (after r (l.take i)).da + (if l[i] = 68 then 1 else 0) := by
          rw [e1]
          by_cases h : l[i] = 68
          · rw [h, if_pos rfl]
            exact st_drive r _
          · have := st_work (r := r) (s := after r (l.take i)) h hc
            rw [this.1, this.2, if_neg h]
            omega
        have k2 : markAt r (after r (l.take (i + 1))) (decide (i + 1 < l.length)) = (endRun r (after r (l.take i))).mar := by
          have : (endRun r (after r (l.take (i + 1)))).mar = (after r (l.take (i + 1))).mar := endRun_mar0 (by rw [e1]; exact ru_other hc)
          unfold markAt
          rw [this, ite_self, e1, mark_end r _ hc]
        rw [k1.1, k1.2, k2]
        rfl
    · have hc : l[i] = 82 := by simpa using y
      rw [hc] at hg
      obtain ⟨r0, t0⟩ := run_start (r := r) (l := l) (s := i) (by omega) (hst hg)
      rw [endRun_mar0 r0]
      generalize hq : after r (l.take i) = q at *
      refine gs_cons (g1_set 11 ge_int ?_ nd)
      refine gs_cons (g1_while (fun m2 ρ => ∃ n : Nat, i + n + m2 = l.length ∧ (forall j, i ≤ j -> j < i + n -> l[j]? = some 82) ∧
        ρ = [.dat (ruD r), .dat (.str (S l)), .dat (.int r.st), .dat (.int r.pa), .dat (.int r.da), .dat (.int r.ni), .dat (.int r.sp), .dat (.int q.st), .dat (.int q.da), .dat (.bool q.mar), .dat (.int (i : Nat)), .dat (.int (n : Nat)), x12]) (l.length - i) ⟨0, by omega, fun j h1 h2 => by omega, rfl⟩ ?_ (passes_of rfl))
      rintro m2 ρ1 ⟨n, hn, hall, rfl⟩
      have hb : ∃ k, GT (cxD P w K mg base n_law_count "_law_count" s_law_count (He.ga K "_law_count") cdv A outer s H E) (match (defBody s_law_count) with | [_, _, .While _ [.If _ _ (_ :: .While c _ _ _ :: _) _] _ _, _] => c | _ => .Constant .none 0 ⟨0, 0, 0, 0⟩) [.dat (ruD r), .dat (.str (S l)), .dat (.int r.st), .dat (.int r.pa), .dat (.int r.da), .dat (.int r.ni), .dat (.int r.sp), .dat (.int q.st), .dat (.int q.da), .dat (.bool q.mar), .dat (.int (i : Nat)), .dat (.int (n : Nat)), x12] k ∧ k = decide (l[i + n]? = some 82) := by
        by_cases h : i + n < l.length
        · have hat2 : atI l (((i : Nat) : Int) + ((n : Nat) : Int)) = some l[i + n] := atI_z (by omega) (by
            have : (((i : Nat) : Int) + ((n : Nat) : Int)).toNat = i + n := by omega
            rw [this]
            exact List.getElem?_eq_getElem h)
          refine ⟨_, gt_w (gw_and (gt_cmp (ge_bin (gv 10) (gv 11) b_add) (ge_lenS T.fr_len (gv 1) (by omega)) c_lt) fun _ => gw_and1 (gt_cmp (ge_ix (gv 1) (ge_bin (gv 10) (gv 11) b_add) (x_str (by omega) hat2)) (gsS [82]) c_eqSS)), ?_⟩
          rw [decide_eq_true (by omega), List.getElem?_eq_getElem h]
          simp
        · refine ⟨_, gt_w (gw_and (c' := true) (gt_cmp (ge_bin (gv 10) (gv 11) b_add) (ge_lenS T.fr_len (gv 1) (by omega)) c_lt) fun z => ?_), ?_⟩
          · have := of_decide_eq_true z
            omega
          · rw [decide_eq_false (by omega), List.getElem?_eq_none (by omega)]
            rfl
      obtain ⟨kb, hb1, hb2⟩ := hb
      refine ⟨kb, hb1, fun u => ?_, fun u => ?_⟩
      · have u : l[i + n]? = some 82 := by rw [hb2] at u; exact of_decide_eq_true u
        have hlt := (List.getElem?_eq_some_iff.mp u).1
        refine gs_cons (g1_set 11 (ge_bin (gv 11) ge_int b_add) (gs_nil ⟨m2 - 1, by omega, n + 1, by omega, fun j h1 h2 => ?_, rfl⟩) nd)
        by_cases hj : j = i + n
        · rw [hj]; exact u
        · exact hall j h1 (by omega)
      have u : l[i + n]? ≠ some 82 := by rw [hb2] at u; exact of_decide_eq_false u
      have hn0 : 0 < n := by
        by_cases h : 0 < n
        · exact h
        · have : n = 0 := by omega
          subst this
          exact absurd hg u
      have hle : i + n ≤ l.length := by omega
      have hq' : after r (l.take (i + n)) = rests r q n := by rw [after_rests n hall, hq]
      obtain ⟨f1, f2, f3⟩ := rests_form v r0 t0 n
      have f4 := rests_daN v r0 n
      have f5 := mark_run v r0 t0 hn0
      refine gs_cons (g1_set 12 (ge_is (d1 := .bool (usedB r q.mar n)) (ge_and (ge_cmp (gv 6) ge_int c_gt) fun _ => ge_and (gv 9) fun _ => ge_one (ge_cmp (gv 11) (ge_bin (gv 3) (gv 6) b_sub) c_ge)) rfl) ?_ nd)
      refine gs_eq [.dat (ruD r), .dat (.str (S l)), .dat (.int r.st), .dat (.int r.pa), .dat (.int r.da), .dat (.int r.ni), .dat (.int r.sp), .dat (.int q.st), .dat (.int q.da), .dat (.bool q.mar), .dat (.int (i : Nat)), .dat (.int (n : Nat)), .dat (.bool (usedB r q.mar n))] ?_
      refine gs_cons (g1_ifJ [.dat (ruD r), .dat (.str (S l)), .dat (.int r.st), .dat (.int r.pa), .dat (.int r.da), .dat (.int r.ni), .dat (.int r.sp), .dat (.int (rests r q n).st), .dat (.int q.da), .dat (.bool (rests r q n).mar), .dat (.int (i : Nat)), .dat (.int (n : Nat)), .dat (.bool (usedB r q.mar n))] (gt_w (gw_or (gt_cmp (gv 11) (gv 3) c_ge) fun _ => gw_or1 (gt_val (gv 12)))) (fun y => ?_) (fun y => gs_nil ?_) ?_)
      · rw [f1, f2, y]
        exact gs_cons (g1_asg (tg_tp (is := [7, 9]) (tgs_cons 7 nd (tgs_cons 9 nd tgs_nil))) (ge_tup (ga_cons ge_int (ga_cons ge_bl ga_nil))) rfl (gs_nil rfl))
      · rw [f1, f2, y]
        rfl
      refine gs_cons (g1_ifJ [.dat (ruD r), .dat (.str (S l)), .dat (.int r.st), .dat (.int r.pa), .dat (.int r.da), .dat (.int r.ni), .dat (.int r.sp), .dat (.int (rests r q n).st), .dat (.int (rests r q n).da), .dat (.bool (rests r q n).mar), .dat (.int (i : Nat)), .dat (.int (n : Nat)), .dat (.bool (usedB r q.mar n))] (gt_cmp (gv 11) (gv 5) c_ge) (fun y => ?_) (fun y => gs_nil ?_) ?_)
      · rw [f4, if_pos (of_decide_eq_true y)]
        exact gs_cons (g1_set 8 ge_int (gs_nil rfl) nd)
      · rw [f4, if_neg (of_decide_eq_false y)]
      have eat : ((i : Nat) : Int) + ((n : Nat) : Int) = ((i + n : Nat) : Int) := by omega
      refine gs_cons (g1_set 10 (ge_is (ge_bin (gv 10) (gv 11) b_add) (congrArg PyData.int eat)) ?_ nd)
      have fin : forall (mk : Bool), mk = markAt r (rests r q n) (decide (i + n < l.length)) -> ∃ m', m' < m ∧ ∃ (j : Nat) (x11 x12 : Cell), j + m' = l.length ∧ (l[j]? = some 82 -> j = 0 ∨ l[j - 1]? ≠ some 82) ∧
          [Cell.dat (ruD r), .dat (.str (S l)), .dat (.int r.st), .dat (.int r.pa), .dat (.int r.da), .dat (.int r.ni), .dat (.int r.sp), .dat (.int (rests r q n).st), .dat (.int (rests r q n).da), .dat (.bool mk), .dat (.int ((i + n : Nat) : Int)), .dat (.int (n : Nat)), .dat (.bool (usedB r q.mar n))] = [.dat (ruD r), .dat (.str (S l)), .dat (.int r.st), .dat (.int r.pa), .dat (.int r.da), .dat (.int r.ni), .dat (.int r.sp), .dat (.int (after r (l.take j)).st), .dat (.int (after r (l.take j)).da), .dat (.bool (markAt r (after r (l.take j)) (decide (j < l.length)))), .dat (.int (j : Nat)), x11, x12] := fun mk hmk2 =>
        ⟨m - n, by omega, i + n, .dat (.int (n : Nat)), .dat (.bool (usedB r q.mar n)), by omega, fun h => absurd h u, by rw [hq', hmk2]⟩
      refine gs_cons (g1_if (gt_w (gw_and (gt_cmp (gv 10) (ge_lenS T.fr_len (gv 1) (by omega)) c_lt) fun _ => gw_and (gt_cmp (gv 6) ge_int c_gt) fun _ => gw_and (gt_not (gt_val (gv 12))) fun _ => gw_and (gt_cmp (gv 6) (gv 11) c_le) fun _ => gw_and1 (gt_cmp (gv 11) (gv 3) c_lt))) (fun y => ?_) fun y => gs_nil (gs_nil (gs_nil (fin _ ?_))))
      · refine gs_cons (g1_set 9 ge_bl (gs_nil (gs_nil (gs_nil (fin true ?_)))) nd)
        obtain ⟨y1, y2⟩ := Bool.and_eq_true_iff.mp y
        have y1 : i + n < l.length := by have := of_decide_eq_true y1; omega
        unfold markAt
        rw [decide_eq_true y1, if_pos rfl, f5, y2, if_pos rfl]
      · unfold markAt
        by_cases hlt : i + n < l.length
        · rw [decide_eq_true hlt, if_pos rfl, f5]
          have e2 : (decide (((i + n : Nat) : Int) < (l.length : Int))) = true := decide_eq_true (by omega)
          rw [e2, Bool.true_and] at y
          rw [y, if_neg Bool.false_ne_true]
        · rw [decide_eq_false hlt, if_neg Bool.false_ne_true]
  · have z : i = l.length := by have := of_decide_eq_false z; omega
    subst z
    have : markAt r (after r (l.take l.length)) (decide (l.length < l.length)) = (after r l).mar := by
      unfold markAt
      rw [decide_eq_false (by omega), if_neg Bool.false_ne_true, List.take_length]
    rw [this, List.take_length]
    exact gs_cons (g1_ret (ge_tup (ga_cons (gv 7) (ga_cons (gv 8) (ga_cons (gv 9) ga_nil)))) rfl)
/-! ### _law_bad -/
def R_bad : Rel := fun ds o => ∃ r l, VR r ∧ l.length ≤ 1000 ∧ ds = [ruD r, .str (S l)] ∧ o = .ret (intsD (faultsL r l))
theorem faults_upto {r : Ru} {l : List Nat} (i : Nat) : (List.range (i + 1)).filter (fun j => badAt r l j) = (List.range i).filter (fun j => badAt r l j) ++ (if badAt r l i = true then [i] else []) := by
  rw [List.range_succ, List.filter_append]
  cases h : badAt r l i <;> simp [h]
theorem can_bad (T : Tp K mg) : Can P w K mg base 2 "_law_bad" R_bad := by
  obtain ⟨fd, F⟩ := T.fn_law_bad
  refine can_of F T.gl_law_bad sc_law_bad (fun _ _ _ _ _ _ us hl => match us, hl with | [_, _], _ => rfl) (by rintro ds o ⟨_, _, _, _, rfl, rfl⟩; rfl) ?_
  rintro cdv A outer s H E N ds o hr ⟨r, l, v, hl, rfl, rfl⟩ hx
  have nd := sc_law_bad.nd
  refine gs_cons (g1_own 2 ga_nil ?_ nd)
  refine gs_cons (g1_for (List.range l.length) (fun i => .int (i : Nat)) (T := .nm 3) (gi_rng1 (n := (l.length : Nat)) T.fr_range (ga_cons (ge_lenS T.fr_len (gv 1) (by omega)) ga_nil) (by omega) (by omega)) (tg_nm 3 nd)
    (fun i ρ => ∃ x3 x4 x5 x6, ρ = [.dat (ruD r), .dat (.str (S l)), .own (((List.range i).filter fun j => badAt r l j).map fun j => .int (j : Nat)), x3, x4, x5, x6]) ⟨.any, .any, .any, .any, rfl⟩ ?_ ?_ (passes_of rfl))
  · rintro i j ρ1 hj ⟨x3, x4, x5, x6, rfl⟩
    obtain ⟨hlt, e⟩ := List.getElem?_eq_some_iff.mp hj
    rw [List.getElem_range] at e
    subst e
    rw [List.length_range] at hlt
    refine ⟨_, rfl, ?_⟩
    have et : (((i : Nat) : Int) + 1).toNat = i + 1 := by omega
    have hat : atI l ((i : Nat) : Int) = some l[i] := atI_nat (List.getElem?_eq_getElem hlt)
    have he := faults_upto (r := r) (l := l) i
    have hb : badAt r l i = (decide (l[i] = 68) && (decide (r.st < (after r (l.take (i + 1))).st) || decide (r.da < (after r (l.take (i + 1))).da))) := by
      unfold badAt isOver
      rw [List.getElem?_eq_getElem hlt]
      congr 1
      simp
    refine gs_cons (g1_if (gt_cmp (ge_ix (gv 1) (gv 3) (x_str (by omega) hat)) (gsS [68]) c_eqSS) (fun z => ?_) fun z => gs_nil (gs_nil ?_))
    · have z : l[i] = 68 := by simpa using z
      rw [decide_eq_true z, Bool.true_and] at hb
      refine gs_cons (g1_asg (tg_tp (is := [4, 5, 6]) (tgs_cons 4 nd (tgs_cons 5 nd (tgs_cons 6 nd tgs_nil)))) (ge_call (can_count T) hr (ga_cons (gv 0) (ga_cons (ge_toS (gv 1) (ge_bin (gv 3) ge_int b_add) (by omega) (by omega)) ga_nil)) ⟨r, l.take (((i : Nat) : Int) + 1).toNat, v, by rw [List.length_take]; omega, rfl, rfl⟩) rfl ?_)
      rw [et]
      refine gs_cons (g1_if (gt_w (gw_or (gt_cmp (gv 4) (ge_ix (gv 0) ge_int (x_tup rfl)) c_gt) fun _ => gw_or1 (gt_cmp (gv 5) (ge_ix (gv 0) ge_int (x_tup rfl)) c_gt))) (fun y => ?_) fun y => gs_nil (gs_nil (gs_nil ?_)))
      · rw [hb, y, if_pos rfl] at he
        refine gs_cons (g1_append 2 rfl (gv 3) ?_ (gs_nil (gs_nil (gs_nil ?_))))
        · rw [List.length_map]
          have := List.length_filter_le (fun j => badAt r l j) (List.range i)
          rw [List.length_range] at this
          omega
        · rw [he, List.map_append]
          exact ⟨_, _, _, _, rfl⟩
      · rw [hb, y, if_neg Bool.false_ne_true, List.append_nil] at he
        rw [he]
        exact ⟨_, _, _, _, rfl⟩
    · have z : ¬ l[i] = 68 := by simpa using z
      rw [hb, decide_eq_false z, Bool.false_and, if_neg Bool.false_ne_true, List.append_nil] at he
      rw [he]
      exact ⟨_, _, _, _, rfl⟩
  · rintro ρ1 ⟨x3, x4, x5, x6, rfl⟩
    rw [List.length_range]
    exact gs_freeze 2 rfl (gs_cons (g1_ret (gv 2) rfl))
/-! ### _law_rows -/
def rD (l : List Nat) : PyData := .str (S l)
theorem filterMap_ifs {α β : Type} (p : α -> Bool) (f : α -> β) : forall L : List α, L.filterMap (fun c => if p c = true then some (f c) else none) = (L.filter p).map f
  | [] => rfl
  | c :: L => by
    by_cases hc : p c = true
    · rw [List.filterMap_cons_some (b := f c) (by rw [if_pos hc]), filterMap_ifs p f L, List.filter_cons_of_pos hc, List.map_cons]
    · rw [List.filterMap_cons_none (by rw [if_neg hc]), filterMap_ifs p f L, List.filter_cons_of_neg hc]
def R_rows : Rel := fun ds o => ∃ r n, VR r ∧ n ≤ 8 ∧ ds = [ruD r, .int (n : Nat)] ∧ o = .ret (.list ((lawL r n).map rD))
end
end Lw

namespace Gd
open PySem PySem.Spec L2
section
variable {X : Cx} {a b : Expr} {ρ : Rho} {pos p pr : Pos}
theorem strs_flat (zs : List Str) : (zs.map V.str).all flatV = true := by
  rw [List.all_map, List.all_eq_true]
  intro _ _
  rfl
theorem inV_strs (x : Str) (zs : List Str) : inV (.str x) (zs.map V.str) = zs.any fun z => z == x := by
  unfold inV
  rw [List.any_map]
  rfl
theorem c_notInTS {x : Str} {zs : List Str} : CmpD X .NotIn (.str x) (.tuple (zs.map PyData.str)) (!zs.any fun z => z == x) := ⟨_, op_notIn_seq, fun v1 v2 G H Q gh h1 h2 q => by
  cases h1
  cases h2 with
  | @tup p xs _ s1 a1 =>
    rw [a1.strs] at s1
    refine ⟨p, _, rfl, .inr (sqT_mono gh s1), rfl, strs_flat zs, ?_⟩
    rw [if_pos rfl, inV_strs]
    exact q _ G H (.refl gh) (.bl _)⟩
theorem cr_range1 : CallR X (.type "range") (fun vs H Q => ∃ j, vs = [V.int j] ∧ ∀ p, H p = none → Q (.ref p) (upd H p (.rng 0 j))) := by
  intro pins s σ H vs us Q I r h
  obtain ⟨j, rfl, q⟩ := h
  obtain ⟨u1, rfl, rj⟩ := vals1 r
  obtain ⟨u, rfl⟩ := rj
  refine call_range_1 ⟨.ref s.heap.objs.size, upd H s.heap.objs.size (.rng 0 j), I.laid (t' := s.toks + 1 + 1) (fun b o e => Heap.get?_push_of_some _ e) (Nat.le_refl _) ?_, rfl, q _ (I.hok.fresh (Nat.le_refl _))⟩
  exact ⟨s.toks, u, s.toks + 1, Heap.get?_push_size _ rfl⟩
/-- a in range(b) -/
theorem gt_inRng {i n : Int} (hm : X.mg "range" = none) (ha : GE X a ρ (.int i)) (hb : GE X b ρ (.int n)) (hg : Gl X "range" := by rfl) (he : starEach [b] X.env = (false, eval b X.env) :: starEach [] X.env := by rfl) (hpl : (backTo p (starEach [] X.env)).any (·.1) = false := by rfl) :
    GT X (.Compare a [.In] [.Call (.Name "range" pr) [b] [] p] pos) ρ (decide (0 ≤ i ∧ i < n)) :=
  gt_of (pt_cmpR op_in_rng pe_tw (pe_callTy (x := "range") cr_range1 hg hm (by decide +kernel) (pa_cons pe_tw pa_nil he) (by decide) (by decide) he hpl) rfl) fun σ G H Q s q =>
    ha σ G H _ s fun v1 G1 H1 e1 d1 => hb σ G1 H1 _ (s.ext e1) fun v2 G2 H2 e2 d2 => by
      cases d1
      cases d2
      refine ⟨n, rfl, fun p hp => ⟨i, p, 0, n, rfl, rfl, upd_same, decide (0 ≤ i ∧ i < n), rfl, q _ _ ((e1.trans e2).trans (.new e2.gh hp))⟩⟩
end
end Gd

namespace Lw
open PySem PySem.Spec L2 Gd
section
variable {P : Program} {w : World} {K : PySem.W.Frag} {mg : Str -> Option Value} {base : Heap}
/-! ### _law_due -/
def resD : BRes -> PyData
  | .ret d _ => d
  | .exc x => .tuple [.str "error", .str x]
def stD : BRes -> PyData
  | .ret _ b => .str (S b.t)
  | .exc _ => .none
def dueOf (o : BRes) : PyData := .tuple [resD o, stD o]
def R_due : Rel := fun ds o => ∃ (b : Bk) (c : Nat) (n : Int), VR b.r ∧ isLogL b.t = true ∧ 0 ≤ n ∧ n ≤ 100 ∧ ((ds = [ruD b.r, .str (S b.t), .int 0, .str (S [c]), .int n] ∧ o = .ret (dueOf (opAdd (.str (S [c])) b))) ∨ (ds = [ruD b.r, .str (S b.t), .int 1, .str (S [c]), .int n] ∧ o = .ret (dueOf (opRest n b))))
theorem sgOf1 (c : Nat) : sgOf (.str (S [c])) = if isSg c = true then some c else none := by
  show sgL (S [c]).cps.toList = _
  rw [S_cps]
  rfl
theorem S1_beq (d c : Nat) : (S [d] == S [c]) = decide (d = c) := by
  have e : (S [d] == S [c]) = decide ((S [d]).cps.toList = (S [c]).cps.toList) := SX.S_beq_eq (a := (S [d]).cps.toList) (b := (S [c]).cps.toList)
  rw [e, S_cps, S_cps, Bool.eq_iff_iff, decide_eq_true_eq, decide_eq_true_eq]
  exact ⟨fun h => (List.cons.inj h).1, fun h => by rw [h]⟩
theorem in3 (c : Nat) : ([S [68], S [82], S [87]].any fun z => z == S [c]) = isSg c := by
  unfold isSg
  rw [List.any_cons, List.any_cons, List.any_cons, List.any_nil, S1_beq, S1_beq, S1_beq, Bool.eq_iff_iff]
  simp only [Bool.or_eq_true, decide_eq_true_eq, List.mem_cons, List.not_mem_nil, or_false]
  constructor
  · rintro (h | h | h | h)
    · exact .inl h.symm
    · exact .inr (.inl h.symm)
    · exact .inr (.inr h.symm)
    · cases h
  · rintro (h | h | h)
    · exact .inl h.symm
    · exact .inr (.inl h.symm)
    · exact .inr (.inr (.inl h.symm))
theorem can_due (T : Tp K mg) : Can P w K mg base 3 "_law_due" R_due := by
  obtain ⟨fd, F⟩ := T.fn_law_due
  refine can_of F T.gl_law_due sc_law_due (fun _ _ _ _ _ _ us hl => match us, hl with | [_, _, _, _, _], _ => rfl) (by rintro ds o ⟨_, _, _, _, _, _, _, ⟨rfl, _⟩ | ⟨rfl, _⟩⟩ <;> rfl) ?_
  rintro cdv A outer s H E N ds o hr ⟨b, c, n, v, hl, hn0, hn1, ⟨rfl, rfl⟩ | ⟨rfl, rfl⟩⟩ hx
  · have nd := sc_law_due.nd
    have h60 := (log60 hl).1
    have hop : opAdd (.str (S [c])) b = if isSg c = true then (if b.t.length + 1 ≤ 60 then .ret (.bool (decide (b.t.length ∈ faultsL b.r (b.t ++ [c])))) ⟨b.r, b.t ++ [c], b.e ++ [b.t], []⟩ else .exc "TooLong") else .exc "InvalidLog" := by
      unfold opAdd
      rw [sgOf1]
      by_cases h : isSg c = true
      · rw [if_pos h, if_pos h]
      · rw [if_neg h, if_neg h]
    refine gs_cons (g1_if (k := !isSg c) (gt_is (gt_w (gw_and (gt_cmp (gv 2) ge_int c_eqI) fun _ => gw_and1 (gt_cmp (gv 3) (ge_is (d1 := .tuple ([S [68], S [82], S [87]].map PyData.str)) (ge_tup (ga_cons (gsS [68]) (ga_cons (gsS [82]) (ga_cons (gsS [87]) ga_nil)))) rfl) c_notInTS))) (by rw [in3]; rfl)) (fun z => ?_) fun z => gs_nil ?_)
    · have z : isSg c = false := by simpa using z
      have e : opAdd (.str (S [c])) b = .exc "InvalidLog" := by rw [hop, z]; rfl
      rw [e]
      exact gs_cons (g1_ret (ge_tup (ga_cons (ge_tup (ga_cons ge_str (ga_cons ge_str ga_nil))) (ga_cons ge_non ga_nil))) rfl)
    have z : isSg c = true := by simpa using z
    rw [if_pos z] at hop
    refine gs_cons (g1_if (k := false) (gt_is (gt_w (gw_and (c' := true) (gt_cmp (gv 2) ge_int c_eqI) fun z => by cases z)) rfl) (fun z => by cases z) fun _ => gs_nil ?_)
    refine gs_cons (g1_set 5 (ge_bin (gv 1) (ge_if (k := true) (gt_is (gt_cmp (gv 2) ge_int c_eqI) rfl) (fun _ => gv 3) fun z => by cases z) (b_addS (by show b.t.length + 1 ≤ _; omega))) ?_ nd)
    have hlen : (b.t ++ [c]).length = b.t.length + 1 := by rw [List.length_append]; rfl
    refine gs_cons (g1_if (k := !decide (b.t.length + 1 ≤ 60)) (gt_is (gt_cmp (ge_lenS T.fr_len (gv 5) (by omega)) ge_int c_gt) ?_) (fun y => ?_) fun y => gs_nil ?_)
    · rw [Bool.eq_iff_iff, decide_eq_true_eq, Bool.not_eq_true', decide_eq_false_iff_not, hlen]
      omega
    · have y : ¬ b.t.length + 1 ≤ 60 := by simpa using y
      rw [if_neg y] at hop
      rw [hop]
      exact gs_cons (g1_ret (ge_tup (ga_cons (ge_tup (ga_cons ge_str (ga_cons ge_str ga_nil))) (ga_cons ge_non ga_nil))) rfl)
    have y : b.t.length + 1 ≤ 60 := by simpa using y
    rw [if_pos y] at hop
    rw [hop]
    refine gs_cons (g1_asg (tg_tp (is := [6, 7, 8]) (tgs_cons 6 nd (tgs_cons 7 nd (tgs_cons 8 nd tgs_nil)))) (ge_call (can_count T) hr (ga_cons (gv 0) (ga_cons (gv 5) ga_nil)) ⟨b.r, b.t ++ [c], v, by omega, rfl, rfl⟩) rfl ?_)
    refine gs_cons (g1_set 9 (ge_max T.fr_max ge_int (ge_min T.fr_min (ge_bin (ge_ix (gv 0) ge_int (x_tup rfl)) (gv 6) b_sub) (ge_bin (ge_ix (gv 0) ge_int (x_tup rfl)) (gv 7) b_sub))) ?_ nd)
    refine gs_cons (g1_ret (ge_tup (ga_cons (ge_if (k := true) (gt_is (gt_cmp (gv 2) ge_int c_eqI) rfl) (fun _ => ge_is (ge_cmp (ge_bin (ge_lenS T.fr_len (gv 5) (by omega)) ge_int b_sub) (ge_is (ge_call (can_bad T) hr (ga_cons (gv 0) (ga_cons (gv 5) ga_nil)) ⟨b.r, b.t ++ [c], v, by omega, rfl, rfl⟩) (ints_is2 _)) c_inL) (d1 := .bool (decide (b.t.length ∈ faultsL b.r (b.t ++ [c])))) ?_) fun z => by cases z) (ga_cons (gv 5) ga_nil))) rfl)
    refine congrArg PyData.bool ?_
    have e2 : (((b.t ++ [c]).length : Nat) : Int) - 1 = (b.t.length : Nat) := by rw [hlen]; omega
    rw [e2, Bool.eq_iff_iff, decide_eq_true_eq, decide_eq_true_eq]
    exact mem_ints2
  · have nd := sc_law_due.nd
    have h60 := (log60 hl).1
    have hop : opRest n b = if n < 1 ∨ 12 < n then .exc "InvalidMany" else if b.t.length + n.toNat ≤ 60 then .ret (.int (leftOf b.r (after b.r (b.t ++ List.replicate n.toNat 82)))) ⟨b.r, b.t ++ List.replicate n.toNat 82, b.e ++ [b.t], []⟩ else .exc "TooLong" := rfl
    refine gs_cons (g1_if (k := false) (gt_is (gt_w (gw_and (c' := true) (gt_cmp (gv 2) ge_int c_eqI) fun z => by cases z)) rfl) (fun z => by cases z) fun _ => gs_nil ?_)
    refine gs_cons (g1_if (k := decide (n < 1 ∨ 12 < n)) (gt_is (gt_w (gw_and (gt_cmp (gv 2) ge_int c_eqI) fun _ => gw_and1 (gt_w (gw_or (gt_cmp (gv 4) ge_int c_lt) fun _ => gw_or1 (gt_cmp (gv 4) ge_int c_gt))))) ?_) (fun z => ?_) fun z => gs_nil ?_)
    · rw [Bool.eq_iff_iff, decide_eq_true_eq]
      simp
    · have z := of_decide_eq_true z
      rw [if_pos z] at hop
      rw [hop]
      exact gs_cons (g1_ret (ge_tup (ga_cons (ge_tup (ga_cons ge_str (ga_cons ge_str ga_nil))) (ga_cons ge_non ga_nil))) rfl)
    have z := of_decide_eq_false z
    rw [if_neg z] at hop
    refine gs_cons (g1_set 5 (ge_bin (gv 1) (ge_if (k := false) (gt_is (gt_cmp (gv 2) ge_int c_eqI) rfl) (fun z => by cases z) fun _ => ge_is (ge_bin (gsS [82]) (gv 4) (b_mulS (by show 1 * n.toNat ≤ _; omega) (by omega) (by omega))) (d1 := .str (S (List.replicate n.toNat 82))) (by rw [rep_flat])) (b_addS (by rw [List.length_replicate]; omega))) ?_ nd)
    have hlen : (b.t ++ List.replicate n.toNat 82).length = b.t.length + n.toNat := by rw [List.length_append, List.length_replicate]
    refine gs_cons (g1_if (k := !decide (b.t.length + n.toNat ≤ 60)) (gt_is (gt_cmp (ge_lenS T.fr_len (gv 5) (by omega)) ge_int c_gt) ?_) (fun y => ?_) fun y => gs_nil ?_)
    · rw [Bool.eq_iff_iff, decide_eq_true_eq, Bool.not_eq_true', decide_eq_false_iff_not, hlen]
      omega
    · have y : ¬ b.t.length + n.toNat ≤ 60 := by simpa using y
      rw [if_neg y] at hop
      rw [hop]
      exact gs_cons (g1_ret (ge_tup (ga_cons (ge_tup (ga_cons ge_str (ga_cons ge_str ga_nil))) (ga_cons ge_non ga_nil))) rfl)
    have y : b.t.length + n.toNat ≤ 60 := by simpa using y
    rw [if_pos y] at hop
    rw [hop]
    refine gs_cons (g1_asg (tg_tp (is := [6, 7, 8]) (tgs_cons 6 nd (tgs_cons 7 nd (tgs_cons 8 nd tgs_nil)))) (ge_call (can_count T) hr (ga_cons (gv 0) (ga_cons (gv 5) ga_nil)) ⟨b.r, b.t ++ List.replicate n.toNat 82, v, by omega, rfl, rfl⟩) rfl ?_)
    refine gs_cons (g1_set 9 (ge_max T.fr_max ge_int (ge_min T.fr_min (ge_bin (ge_ix (gv 0) ge_int (x_tup rfl)) (gv 6) b_sub) (ge_bin (ge_ix (gv 0) ge_int (x_tup rfl)) (gv 7) b_sub))) ?_ nd)
    exact gs_cons (g1_ret (ge_tup (ga_cons (ge_if (k := false) (gt_is (gt_cmp (gv 2) ge_int c_eqI) rfl) (fun z => by cases z) fun _ => gv 9) (ga_cons (gv 5) ga_nil))) rfl)
end
end Lw

namespace Gd
open PySem PySem.Spec L2
theorem Sta.put {K : PySem.W.Frag} {G H : Hp} {σ : St} {ρ : Rho} {j : Nat} {v : V} {d : PyData} (s : Sta K G H σ ρ) (hσ : σ[j]? = some (some v)) (h : Dq K G v d) : Sta K G H σ (ρ.set j (.dat d)) := by
  refine ⟨s.gh, by rw [List.length_set]; exact s.len, fun i c hc => ?_, fun a b p x y h1 h2 h3 h4 => ?_⟩
  · rw [List.getElem?_set] at hc
    by_cases hj : j = i
    · rw [if_pos hj] at hc
      split at hc
      · cases hc
        subst hj
        exact ⟨_, hσ, v, rfl, h⟩
      · cases hc
    · rw [if_neg hj] at hc
      exact s.at_ i c hc
  · have na : forall (a : Nat) (x : Own), (ρ.set j (.dat d))[a]? = some (.owx x) -> ρ[a]? = some (.owx x) := fun a x h1 => by
      rw [List.getElem?_set] at h1
      by_cases hj : j = a
      · rw [if_pos hj] at h1
        split at h1 <;> cases h1
      · rw [if_neg hj] at h1
        exact h1
    exact s.apart a b p x y (na a x h1) (na b y h2) h3 h4
/-- with no list of its own, a frame may see tables grow -/
theorem Sta.extT {K : PySem.W.Frag} {T : List (Addr × Str)} {G H G' H' : Hp} {σ : St} {ρ : Rho} (s : Sta K G H σ ρ) (no : NoOwn ρ) (e : ExtT T G H G' H') : Sta K G' H' σ ρ := by
  refine ⟨e.gh, s.len, fun i c hc => ?_, fun i j p x y h1 => absurd h1 (no i x)⟩
  obtain ⟨ov, o1, o2⟩ := s.at_ i c hc
  refine ⟨ov, o1, ?_⟩
  cases c with
  | any => trivial
  | raw v => exact o2
  | dat d =>
    obtain ⟨v, r1, r2⟩ := o2
    exact ⟨v, r1, r2.mono e.g⟩
  | owx x => exact absurd hc (no i x)
  | fdc hs kvs =>
    obtain ⟨q, o, r1, r2, r3⟩ := o2
    exact ⟨q, o, r1, e.g _ _ r2, r3.mono e.g⟩
  | pin v φ =>
    obtain ⟨r1, G0, r2, r3⟩ := o2
    exact ⟨r1, G0, r2.trans e.g, r3⟩
/-- .. and the data grow -/
theorem Sta.grow {K : PySem.W.Frag} {G H G' H' : Hp} {σ : St} {ρ : Rho} (s : Sta K G H σ ρ) (no : NoOwn ρ) (g : Same G G') (gh : Same G' H') : Sta K G' H' σ ρ := by
  refine ⟨gh, s.len, fun i c hc => ?_, fun i j p x y h1 => absurd h1 (no i x)⟩
  obtain ⟨ov, o1, o2⟩ := s.at_ i c hc
  refine ⟨ov, o1, ?_⟩
  cases c with
  | any => trivial
  | raw v => exact o2
  | dat d =>
    obtain ⟨v, r1, r2⟩ := o2
    exact ⟨v, r1, r2.mono g⟩
  | owx x => exact absurd hc (no i x)
  | fdc hs kvs =>
    obtain ⟨q, o, r1, r2, r3⟩ := o2
    exact ⟨q, o, r1, g _ _ r2, r3.mono g⟩
  | pin v φ =>
    obtain ⟨r1, G0, r2, r3⟩ := o2
    exact ⟨r1, G0, r2.trans g, r3⟩
section
variable {X : Cx} {a b c e tg iter : Expr} {rest : List Expr} {body orelse : List Stmt} {σ : L2.St} {G H : Hp} {K : Bool -> Hp -> Prop} {pos : Pos} {D : Ends} {Q : VK} {ρ : Rho} {k : Bool}
theorem twW_and1 (h : twT X a σ H K) : twW X (.BoolOp .And [a] pos) σ H K := fun wh pins s I => Wp.mk <| (pw_and1 pt_tw).run wh pins s σ H _ I h
theorem twW_andT (h : twT X a σ H fun k H' => k = true ∧ twW X (.BoolOp .And (b :: rest) pos) σ H' K) : twW X (.BoolOp .And (a :: b :: rest) pos) σ H K := fun wh pins s I => Wp.mk <|
  (pw_and pt_tw pw_tw).run wh pins s σ H _ I (twT_mono h fun k H' ⟨h1, h2⟩ => by
    rw [h1, if_pos rfl]
    exact h2)
theorem twE_andT (h : tw X a σ H fun v H' => v = .bl true ∧ tw X (.BoolOp .And (b :: rest) pos) σ H' Q) : tw X (.BoolOp .And (a :: b :: rest) pos) σ H Q := fun pins s I => Wp.mk <|
  (pe_and pe_tw pe_tw).run pins s σ H _ I fun pins' s' I' => ⟨thn (h pins' s' I').run fun u s1 ⟨v, H1, I1, r1, z1, z2⟩ => ⟨v, H1, I1, r1, true, z1, by rw [if_pos rfl]; exact z2⟩⟩
theorem twE_one (h : tw X a σ H Q) : tw X (.BoolOp .And [a] pos) σ H Q := fun pins s I => Wp.mk <| (pe_one pe_tw).run pins s σ H _ I h
/-- a test of the data's in a frame by hand -/
theorem twT_data (h : GT X c ρ k) (s : Sta X.K G H σ ρ) (hk : forall G' H', Ext G H G' H' -> K k H') : twT X c σ H K := h σ G H K s hk
theorem tw_data {d : PyData} (h : GE X e ρ d) (s : Sta X.K G H σ ρ) (hk : forall v G' H', Ext G H G' H' -> Dq X.K G' v d -> Q v H') : tw X e σ H Q := h σ G H Q s hk
/-- a for by hand, the walked thing among the data; the turn's value is told -/
theorem raw_for2 {α : Type} (L : List α) (g : α -> PyData) {j n : Nat} (hi : GI X tg iter ρ (L.map g)) (ht : GTg X tg (.nm j)) (sta : Sta X.K G H σ ρ) (hl : σ.length = n) (Iv : Nat -> L2.St -> Hp -> Hp -> Prop) (hlen : forall i σ G H, Iv i σ G H -> σ.length = n) (hgh : forall i σ G H, Iv i σ G H -> Same G H)
    (hext : forall i σ G H G' H', Ext G H G' H' -> Iv i σ G H -> Iv i σ G' H') (hput : forall i σ σ' G H, Iv i σ G H -> σ'.length = σ.length -> (forall m, m ≠ j -> σ'[m]? = σ[m]?) -> Iv i σ' G H) (h0 : Iv 0 σ G H)
    (hs : forall i x σ1 G1 H1 v, L[i]? = some x -> Iv i σ1 G1 H1 -> σ1[j]? = some (some v) -> Dq X.K G1 v (g x) -> tws X body { nx := fun σ' H' => ∃ G2, Same G1 G2 ∧ Iv (i + 1) σ' G2 H', rt := D.rt, bk := D.nx, ct := fun σ' H' => ∃ G2, Same G1 G2 ∧ Iv (i + 1) σ' G2 H' } σ1 H1) (hd : forall σ1 G1 H1, Iv L.length σ1 G1 H1 -> D.nx σ1 H1)
    (hjn : j < n) (hp : PassesOwn (model X.prog X.w) X.A X.env X.xe) (hc : X.calm = true := by rfl) (hfs : forall x, foldedSetIterable iter X.env x = pure x := by intro _; rfl) : twp X (.For tg iter body [] pos) D σ H := fun pins s J0 => Wp.mk <| by
  obtain ⟨wi, hpi, hw⟩ := hi
  refine (ps_for hp hc hpi ht pss_tw hfs).run pins s σ H _ J0 ?_
  refine hw σ G H _ sta fun J G' H' e1 wk => ?_
  refine ⟨fun i m σ H => m = L.length - i ∧ i ≤ L.length ∧ ∃ G1, Same G' G1 ∧ Iv i σ G1 H, ⟨_, rfl, Nat.zero_le _, G', Same.refl _, hext _ _ _ _ _ _ e1 h0⟩, fun i m σ1 H1 hW => ?_⟩
  obtain ⟨rfl, hle, G1, s1, hI⟩ := hW
  obtain ⟨wgo, wstop⟩ := wk G1 H1 s1 (hgh _ _ _ _ hI)
  by_cases hlt : i < L.length
  · have hx : L[i]? = some L[i] := List.getElem?_eq_getElem hlt
    obtain ⟨go, yl⟩ := wgo i (g L[i]) (by rw [List.getElem?_map, hx]; rfl)
    refine .inr ⟨go, fun σ' H' => ∃ G2, Same G' G2 ∧ Iv (i + 1) σ' G2 H', fun σ' H' ⟨G2, s2, i2⟩ => ⟨L.length - (i + 1), by omega, rfl, hlt, G2, s2, i2⟩, fun x H3 hy => ?_⟩
    obtain ⟨G3, e3, dv⟩ := yl x H3 hy
    have hI3 := hext _ _ _ _ _ _ e3 hI
    refine Tg.rd_ok (ρ := List.replicate n .any) rfl (sta_any (hgh _ _ _ _ hI3) (hlen _ _ _ _ hI3)) dv fun σ' s' hj => ?_
    have hl' : σ'.length = σ1.length := by
      have := s'.len
      rw [List.length_set, List.length_replicate] at this
      rw [hlen _ _ _ _ hI3]
      exact this
    obtain ⟨v, hv1, hv2⟩ := s'.dat (i := j) (d := g L[i]) (by rw [List.getElem?_set_self (by rw [List.length_replicate]; exact hjn)])
    refine tws_mono ?_ (hs i L[i] σ' G3 H3 v hx (hput _ _ _ _ _ hI3 hl' fun m hm => hj m (by simp [Tg.sl, hm])) hv1 hv2)
    exact ⟨fun σ2 H2 ⟨G2, a1, a2⟩ => ⟨G2, (s1.trans e3.g).trans a1, a2⟩, fun _ _ q => q, fun _ _ q => q, fun σ2 H2 ⟨G2, a1, a2⟩ => ⟨G2, (s1.trans e3.g).trans a1, a2⟩⟩
  · have ei : i = L.length := by omega
    exact .inl ⟨wstop i (by rw [List.length_map]; omega), hd σ1 G1 H1 (by rw [← ei]; exact hI)⟩
end
end Gd

namespace Lw
open PySem PySem.Spec L2 Gd
/-! ### a history of logs, and the book -/
structure Hist (b : Bk) (st : List (List Nat)) (at_ : Nat) : Prop where
  t : st[at_]? = some b.t
  e : b.e = st.take at_
  l : b.l = (st.drop (at_ + 1)).reverse
section
variable {b : Bk} {st : List (List Nat)} {at_ : Nat}
theorem Hist.lt (h : Hist b st at_) : at_ < st.length := (List.getElem?_eq_some_iff.mp h.t).1
theorem Hist.new (h : Hist b st at_) (t' : List Nat) : Hist ⟨b.r, t', b.e ++ [b.t], []⟩ (st.take (at_ + 1) ++ [t']) (at_ + 1) := by
  have hlt := h.lt
  have hl : (st.take (at_ + 1)).length = at_ + 1 := by rw [List.length_take]; omega
  refine ⟨?_, ?_, ?_⟩
  · rw [List.getElem?_append_right (by omega), hl, Nat.sub_self]
    rfl
  · show b.e ++ [b.t] = _
    rw [List.take_append_of_le_length (by omega), List.take_of_length_le (by omega), List.take_succ, h.t, h.e]
    rfl
  · show ([] : List (List Nat)) = _
    rw [List.drop_of_length_le (by rw [List.length_append, hl]; simp)]
    rfl
theorem Hist.undo {j : Nat} (h : Hist b st (j + 1)) : ∃ t, opUndo b = .ret .none ⟨b.r, t, b.e.dropLast, b.l ++ [b.t]⟩ ∧ Hist ⟨b.r, t, b.e.dropLast, b.l ++ [b.t]⟩ st j := by
  have hlt := h.lt
  have hj : j < st.length := by omega
  have e1 : b.e = st.take j ++ [st[j]] := by rw [h.e, List.take_succ, List.getElem?_eq_getElem hj]; rfl
  have e2 : b.e.getLast? = some st[j] := by rw [e1, List.getLast?_concat]
  refine ⟨st[j], ?_, List.getElem?_eq_getElem hj, ?_, ?_⟩
  · unfold opUndo
    rw [e2]
  · show b.e.dropLast = _
    rw [e1, List.dropLast_concat]
  · show b.l ++ [b.t] = _
    have e3 : st[j + 1] = b.t := by
      have := h.t
      rw [List.getElem?_eq_getElem hlt] at this
      exact Option.some.inj this
    rw [List.drop_eq_getElem_cons hlt, List.reverse_cons, h.l, e3]
theorem Hist.undo0 (h : Hist b st 0) : opUndo b = .exc "NothingToUndo" := by
  unfold opUndo
  rw [h.e, List.take_zero]
  rfl
theorem Hist.redo (h : Hist b st at_) (hlt : at_ + 1 < st.length) : ∃ t, opRedo b = .ret .none ⟨b.r, t, b.e ++ [b.t], b.l.dropLast⟩ ∧ Hist ⟨b.r, t, b.e ++ [b.t], b.l.dropLast⟩ st (at_ + 1) := by
  have e1 : b.l = (st.drop (at_ + 2)).reverse ++ [st[at_ + 1]] := by rw [h.l, List.drop_eq_getElem_cons hlt, List.reverse_cons]
  have e2 : b.l.getLast? = some st[at_ + 1] := by rw [e1, List.getLast?_concat]
  refine ⟨st[at_ + 1], ?_, List.getElem?_eq_getElem hlt, ?_, ?_⟩
  · unfold opRedo
    rw [e2]
  · show b.e ++ [b.t] = _
    rw [List.take_succ, h.t, h.e]
    rfl
  · show b.l.dropLast = _
    rw [e1, List.dropLast_concat]
theorem Hist.redo0 (h : Hist b st at_) (hge : ¬ at_ + 1 < st.length) : opRedo b = .exc "NothingToUndo" := by
  unfold opRedo
  rw [h.l, List.drop_of_length_le (by omega)]
  rfl
def okSt (st : List (List Nat)) : Prop := forall y, y ∈ st -> isLogL y = true
theorem Hist.bsz (h : Hist b st at_) (hr : isRules (ruD b.r) = true) (ok : okSt st) : bsz b :=
  ⟨hr, ok _ (List.mem_of_getElem? h.t), fun y hy => ok y (by rw [h.e] at hy; exact List.mem_of_mem_take hy), fun y hy => ok y (by rw [h.l, List.mem_reverse] at hy; exact List.mem_of_mem_drop hy)⟩
theorem Hist.small (h : Hist b st at_) (hs : st.length < 500) : b.e.length < 500 ∧ b.l.length < 500 := by
  rw [h.e, h.l, List.length_take, List.length_reverse, List.length_drop]
  omega
end
def statesD (st : List (List Nat)) : PyData := .list (st.map fun y => .str (S y))
/-! ### the law's frame: data, tables, a book -/
structure LS (K : PySem.W.Frag) (T : List (Addr × Str)) (B G H : Hp) (σ : L2.St) (ρ : Rho) (a : BA) (b : Bk) : Prop where
  sta : Sta K G H σ ρ
  tab : TabG T G H
  bk : BkN K G H a b
  gb : Same B G
section
variable {X : Cx} {K : PySem.W.Frag} {T : List (Addr × Str)} {B G H G' H' : Hp} {σ : L2.St} {ρ ρ1 : Rho} {a a' a2 : BA} {b b' b2 : Bk}
theorem BkN.keptU (k : BkN K G H a b) (e : ExtT T G H G' H') : BkN K G' H' a b :=
  ⟨e.h _ _ k.ins (fun ps z => nomatch z), e.h _ _ k.own (fun ps z => nomatch z), e.h _ _ k.el (fun ps z => nomatch z), e.h _ _ k.ll (fun ps z => nomatch z), by rw [e.old _ (by rw [k.ins]; exact fun z => nomatch z)]; exact k.gp, by rw [e.old _ (by rw [k.own]; exact fun z => nomatch z)]; exact k.gd, by rw [e.old _ (by rw [k.el]; exact fun z => nomatch z)]; exact k.ge, by rw [e.old _ (by rw [k.ll]; exact fun z => nomatch z)]; exact k.gl, k.ne, k.ru.mono e.g⟩
theorem LS.ext (s : LS K T B G H σ ρ a b) (e : Gd.Ext G H G' H') : LS K T B G' H' σ ρ a b := ⟨s.sta.ext e, s.tab.ext e, s.bk.kept e.h e.g e.old, s.gb.trans e.g⟩
theorem LS.same (s : LS K T B G H σ ρ a b) (sm : Same H H') : LS K T B G H' σ ρ a b := s.ext ⟨Same.refl _, sm, s.sta.gh.trans sm, fun _ _ => rfl⟩
theorem LS.extT (s : LS K T B G H σ ρ a b) (no : NoOwn ρ) (e : ExtT T G H G' H') : LS K T B G' H' σ ρ a b := ⟨s.sta.extT no e, e.tab, s.bk.keptU e, s.gb.trans e.g⟩
theorem TabG.chg (t : TabG T G H) (k : BkN K G H a b) (c : Chg K G H a G' H' a' b') : TabG T G' H' := fun p hp => by
  obtain ⟨ps, a1, a2, a3, a4⟩ := t p hp
  refine ⟨ps, c.keep _ _ (fun z => by rw [z, k.ins] at a1; cases a1) (fun z => by rw [z, k.el] at a1; cases a1) (fun z => by rw [z, k.ll] at a1; cases a1) a1, by rw [c.old _ (by rw [a1]; exact fun z => nomatch z)]; exact a2, a3, fun pos cv hc => ?_⟩
  obtain ⟨c0, b1, b2⟩ := a4 pos cv hc
  exact ⟨c0, b1, c.g _ _ b2⟩
theorem LS.chg (s : LS K T B G H σ ρ a b) (no : NoOwn ρ) (c : Chg K G H a G' H' a' b') : LS K T B G' H' σ ρ a' b' := ⟨s.sta.grow no c.g c.gh, TabG.chg s.tab s.bk c, c.bk, s.gb.trans c.g⟩
/-- two books that share nothing -/
structure Aprt (a a2 : BA) : Prop where
  p : a.p ≠ a2.p ∧ a.p ≠ a2.e ∧ a.p ≠ a2.l
  d : a.dx ≠ a2.p ∧ a.dx ≠ a2.e ∧ a.dx ≠ a2.l
  e : a.e ≠ a2.p ∧ a.e ≠ a2.e ∧ a.e ≠ a2.l
  l : a.l ≠ a2.p ∧ a.l ≠ a2.e ∧ a.l ≠ a2.l
theorem aprt_new (k : BkN K G H a b) (n : NewB K G H G' H' a2 b2) : Aprt a a2 := by
  have key : forall x u, H x = some u -> x ≠ a2.p ∧ x ≠ a2.e ∧ x ≠ a2.l := fun x u e => ⟨ne_of_none e n.fp, ne_of_none e n.fe, ne_of_none e n.fl⟩
  exact ⟨key _ _ k.ins, key _ _ k.own, key _ _ k.el, key _ _ k.ll⟩
/-- the other book is changed -/
theorem BkN.other (k : BkN K G H a b) (ap : Aprt a a2) (c : Chg K G H a2 G' H' a' b') : BkN K G' H' a b :=
  ⟨c.keep _ _ ap.p.1 ap.p.2.1 ap.p.2.2 k.ins, c.keep _ _ ap.d.1 ap.d.2.1 ap.d.2.2 k.own, c.keep _ _ ap.e.1 ap.e.2.1 ap.e.2.2 k.el, c.keep _ _ ap.l.1 ap.l.2.1 ap.l.2.2 k.ll, by rw [c.old _ (by rw [k.ins]; exact fun z => nomatch z)]; exact k.gp, by rw [c.old _ (by rw [k.own]; exact fun z => nomatch z)]; exact k.gd, by rw [c.old _ (by rw [k.el]; exact fun z => nomatch z)]; exact k.ge, by rw [c.old _ (by rw [k.ll]; exact fun z => nomatch z)]; exact k.gl, k.ne, k.ru.mono c.g⟩
theorem Aprt.chg (k : BkN K G H a b) (ap : Aprt a a2) (c : Chg K G H a2 G' H' a' b') : Aprt a a' := by
  have key : forall x u, H x = some u -> x ≠ a2.p ∧ x ≠ a2.e ∧ x ≠ a2.l -> x ≠ a'.p ∧ x ≠ a'.e ∧ x ≠ a'.l := fun x u e h => by
    refine ⟨by rw [c.pp.1]; exact h.1, ?_, ?_⟩
    · rcases c.ne.1 with z | z
      · rw [z]; exact h.2.1
      · exact ne_of_none e z
    · rcases c.ne.2 with z | z
      · rw [z]; exact h.2.2
      · exact ne_of_none e z
  exact ⟨key _ _ k.ins ap.p, key _ _ k.own ap.d, key _ _ k.el ap.e, key _ _ k.ll ap.l⟩
theorem LS.other (s : LS K T B G H σ ρ a b) (no : NoOwn ρ) (k2 : BkN K G H a2 b2) (ap : Aprt a a2) (c : Chg K G H a2 G' H' a' b') : LS K T B G' H' σ ρ a b := ⟨s.sta.grow no c.g c.gh, TabG.chg s.tab k2 c, s.bk.other ap c, s.gb.trans c.g⟩
/-- a statement of the data's -/
theorem LS.data {st : Stmt} {D : Ends} (s : LS X.K T B G H σ ρ a b) (no : NoOwn ρ) (h : forall N, G1 X N st ρ { nx := fun ρ' => ρ' = ρ1, rt := fun _ => False }) (k : forall σ1 G1 H1, Gd.Ext G H G1 H1 -> LS X.K T B G1 H1 σ1 ρ1 a b -> D.nx σ1 H1) : twp X st D σ H :=
  twp_data (h _) s.sta no (fun σ' H' ρ' G' e s' q => by
    subst q
    exact k σ' G' H' e ⟨s', s.tab.ext e, s.bk.kept e.h e.g e.old, s.gb.trans e.g⟩) (fun _ _ _ _ _ _ z => z.elim) (fun _ z => z) fun _ z => z
theorem LS.ite {c : Expr} {k : Bool} {body orelse : List Stmt} {pos : Pos} {D : Ends} (s : LS X.K T B G H σ ρ a b) (h : GT X c ρ k) (ht : k = true -> forall G1 H1, Gd.Ext G H G1 H1 -> LS X.K T B G1 H1 σ ρ a b -> tws X body D σ H1) (hf : k = false -> forall G1 H1, Gd.Ext G H G1 H1 -> LS X.K T B G1 H1 σ ρ a b -> tws X orelse D σ H1) : twp X (.If c body orelse pos) D σ H :=
  twp_if (twT_data h s.sta fun G1 H1 e => by
    cases k with
    | true => rw [if_pos rfl]; exact ht rfl G1 H1 e (s.ext e)
    | false => rw [if_neg Bool.false_ne_true]; exact hf rfl G1 H1 e (s.ext e))
/-- the book's name, while all that is tracked stays -/
def phM (K : PySem.W.Frag) (a : BA) (b : Bk) : Hp -> Prop := fun G0 => ∃ Gd, Same Gd G0 ∧ BkN K Gd G0 a b
theorem pin_M (gh : Same G H) (k : BkN K G H a b) : CellOk K H H (some (.ref a.p)) (.pin (.ref a.p) (phM K a b)) := by
  have none_ : forall x, G x = none -> noT G x = none := fun x e => by
    cases z : noT G x with
    | none => rfl
    | some u =>
      have := (noT_some z).1
      rw [e] at this
      cases this
  exact ⟨rfl, noT H, fun x u e => (noT_some e).1, fun x ps e => (noT_some e).2 ps rfl, noT G, fun x u e => noT_of (gh _ _ (noT_some e).1) (noT_some e).2, ⟨noT_of k.ins (fun ps z => nomatch z), noT_of k.own (fun ps z => nomatch z), noT_of k.el (fun ps z => nomatch z), noT_of k.ll (fun ps z => nomatch z), none_ _ k.gp, none_ _ k.gd, none_ _ k.ge, none_ _ k.gl, k.ne, k.ru.less less_noT⟩⟩
/-- a test that reads the book in slot i -/
theorem LS.read {c : Expr} {k : Bool} {Kk : Bool -> Hp -> Prop} (i : Nat) (s : LS X.K T B G H σ ρ a b) (no : NoOwn ρ) (hσ : σ[i]? = some (some (.ref a.p))) (h : GT X c (ρ.set i (.pin (.ref a.p) (phM X.K a b))) k) (hk : forall H1, Same H H1 -> LS X.K T B G H1 σ ρ a b -> Kk k H1) : twT X c σ H Kk := by
  have s0 := s.sta.grow no s.sta.gh (Same.refl H)
  have st : Sta X.K H H σ (ρ.set i (.pin (.ref a.p) (phM X.K a b))) := by
    have na : forall (j : Nat) (x : Own), (ρ.set i (.pin (.ref a.p) (phM X.K a b)))[j]? ≠ some (.owx x) := fun j x h1 => by
      rw [List.getElem?_set] at h1
      by_cases hj : i = j
      · rw [if_pos hj] at h1
        split at h1 <;> cases h1
      · rw [if_neg hj] at h1
        exact no j x h1
    refine ⟨Same.refl H, by rw [List.length_set]; exact s0.len, fun j c hc => ?_, fun i j p x y h1 => absurd h1 (na i x)⟩
    rw [List.getElem?_set] at hc
    by_cases hj : i = j
    · rw [if_pos hj] at hc
      split at hc
      · cases hc
        subst hj
        exact ⟨_, hσ, pin_M s.sta.gh s.bk⟩
      · cases hc
    · rw [if_neg hj] at hc
      exact s0.at_ j c hc
  exact twT_data h st fun G1 H1 e => hk H1 e.h (s.same e.h)
end
/-! ### reading expressions -/
section
variable {X : Cx} {ρ : Rho} {a : BA} {b : Bk} {x : Str} {k' i : Nat} {p1 apos pos p2 p3 : Pos}
theorem BkN.upM {K : PySem.W.Frag} {Gd G0 H : Hp} {a : BA} {b : Bk} (k : BkN K Gd G0 a b) (s : Same G0 H) : BkN K Gd H a b := ⟨s _ _ k.ins, s _ _ k.own, s _ _ k.el, s _ _ k.ll, k.gp, k.gd, k.ge, k.gl, k.ne, k.ru⟩
theorem ge_log {pl : Sem Bool} (T : Tp X.K X.mg) (hr : Room k' X.A) (hk : 1 ≤ k') (hc : ρ[i]? = some (.pin (.ref a.p) (phM X.K a b)) := by rfl) (hN : X.N[i]? = some x := by rfl) (hv : Vis X.env.scope x := by first | exact Or.inl rfl | exact Or.inr (Or.inl rfl) | exact Or.inr (Or.inr rfl)) (h1 : (x == ("__debug__" : Str)) = false := by decide) (h2 : (x == ("__classdict__" : Str)) = false := by decide)
    (ht : eval (.Call (.Attribute (.Name x p1) "log" apos) [] [] pos) X.env = (do
      let ov ← eval (.Name x p1) X.env
      standAt apos.atName
      let (f, first) ← holding [ov] (getMethod ov "log" pl)
      callWith pos f first (backTo pos (starEach [] X.env)) (backToKw pos (keywordEach [] X.env))) := by rfl) : GE X (.Call (.Attribute (.Name x p1) "log" apos) [] [] pos) ρ (.str (S b.t)) := by
  obtain ⟨fd, hb, F⟩ := ok_log (P := X.prog) (w := X.w) (base := X.base) T
  refine ge_of (pe_meth0 (E := E0) (pl := pl) (pe_var hN hv h1 h2) T.cl_Logbook T.me_Logbook_log F (hr.mono hk) hb .nil passL ht) fun σ G H Q s q => ?_
  obtain ⟨ov, o1, o2, G0, o3, _, Gd, o5, k⟩ := s.at_ i _ hc
  subst o2
  have k2 := k.upM (o3.trans s.gh)
  exact ⟨_, o1, a.p, a.dx, _, rfl, k2.ins, bf_no (by decide), Gd, a, b, rfl, o5.trans (o3.trans s.gh), k2, fun H' sm => q _ G H' ⟨Same.refl _, sm, s.gh.trans sm, fun _ _ => rfl⟩ (.str _)⟩
theorem ge_cnt {pl : Sem Bool} (T : Tp X.K X.mg) (hr : Room k' X.A) (hk : 6 ≤ k') (hbz : bsz b) (hc : ρ[i]? = some (.pin (.ref a.p) (phM X.K a b)) := by rfl) (hN : X.N[i]? = some x := by rfl) (hv : Vis X.env.scope x := by first | exact Or.inl rfl | exact Or.inr (Or.inl rfl) | exact Or.inr (Or.inr rfl)) (h1 : (x == ("__debug__" : Str)) = false := by decide) (h2 : (x == ("__classdict__" : Str)) = false := by decide)
    (ht : eval (.Call (.Attribute (.Name x p1) "counters" apos) [] [] pos) X.env = (do
      let ov ← eval (.Name x p1) X.env
      standAt apos.atName
      let (f, first) ← holding [ov] (getMethod ov "counters" pl)
      callWith pos f first (backTo pos (starEach [] X.env)) (backToKw pos (keywordEach [] X.env))) := by rfl) : GE X (.Call (.Attribute (.Name x p1) "counters" apos) [] [] pos) ρ (shD (after b.r b.t)) := by
  obtain ⟨fd, hb, F⟩ := ok_cnt (P := X.prog) (w := X.w) (base := X.base) T
  refine ge_of (pe_meth0 (E := E0) (pl := pl) (pe_var hN hv h1 h2) T.cl_Logbook T.me_Logbook_counters F (hr.mono hk) hb .nil passL ht) fun σ G H Q s q => ?_
  obtain ⟨ov, o1, o2, G0, o3, _, Gd, o5, k⟩ := s.at_ i _ hc
  subst o2
  have k2 := k.upM (o3.trans s.gh)
  refine ⟨_, o1, a.p, a.dx, _, rfl, k2.ins, bf_no (by decide), Gd, a, b, rfl, o5.trans (o3.trans s.gh), k2, hbz, fun v G' H' e dq => ?_⟩
  obtain ⟨G2, e2, s2⟩ := e.widen (o5.trans o3) s.gh
  exact q v G2 H' e2 (dq.mono s2)
theorem ge_lenM (T : Tp X.K X.mg) (hr : Room k' X.A) (hk : 2 ≤ k') (hl : b.t.length ≤ 1000) (hc : ρ[i]? = some (.pin (.ref a.p) (phM X.K a b)) := by rfl) (hN : X.N[i]? = some x := by rfl) (hv : Vis X.env.scope x := by first | exact Or.inl rfl | exact Or.inr (Or.inl rfl) | exact Or.inr (Or.inr rfl)) (hg : Gl X "len" := by rfl) (h1 : (x == ("__debug__" : Str)) = false := by decide) (h2 : (x == ("__classdict__" : Str)) = false := by decide)
    (he : starEach [.Name x p1] X.env = (false, eval (.Name x p1) X.env) :: starEach [] X.env := by rfl) (hpl : (backTo pos (starEach [] X.env)).any (·.1) = false := by rfl) : GE X (.Call (.Name "len" p2) [.Name x p1] [] pos) ρ (.int (b.t.length : Nat)) := by
  obtain ⟨fd, hb, F⟩ := ok_lenB (P := X.prog) (w := X.w) (base := X.base) T
  refine ge_of (pe_callB (x := "len") (call_lenI T.me_Logbook_len F (hr.mono hk) hb) hg T.fr_len boot_len (pa_cons (pe_var hN hv h1 h2) pa_nil he) (by decide) (by decide) he hpl) fun σ G H Q s q => ?_
  obtain ⟨ov, o1, o2, G0, o3, _, Gd, o5, k⟩ := s.at_ i _ hc
  subst o2
  have k2 := k.upM (o3.trans s.gh)
  exact ⟨_, o1, a.p, a.dx, _, b.t.length, rfl, k2.ins, hl, Gd, a, b, rfl, o5.trans (o3.trans s.gh), k2, hl, fun H' sm => ⟨rfl, q _ G H' ⟨Same.refl _, sm, s.gh.trans sm, fun _ _ => rfl⟩ (.int _)⟩⟩
end
end Lw

namespace Gd
open PySem PySem.Spec L2
theorem Sta.setR {K : PySem.W.Frag} {G H : Hp} {σ : St} {ρ : Rho} {v : V} (s : Sta K G H σ ρ) (no : NoOwn ρ) (i : Nat) : Sta K G H (σ.set i (some v)) (ρ.set i (.raw v)) := by
  have na : forall (j : Nat) (x : Own), (ρ.set i (.raw v))[j]? ≠ some (.owx x) := fun j x h1 => by
    rw [List.getElem?_set] at h1
    by_cases hj : i = j
    · rw [if_pos hj] at h1
      split at h1 <;> cases h1
    · rw [if_neg hj] at h1
      exact no j x h1
  refine ⟨s.gh, by rw [List.length_set, List.length_set]; exact s.len, fun j c hc => ?_, fun i j p x y h1 => absurd h1 (na i x)⟩
  by_cases hj : i = j
  · subst hj
    have hl : i < ρ.length := by
      have := (List.getElem?_eq_some_iff.mp hc).1
      rwa [List.length_set] at this
    rw [List.getElem?_set_self hl] at hc
    cases hc
    exact ⟨_, List.getElem?_set_self (by rw [s.len]; exact hl), rfl⟩
  · rw [List.getElem?_set_ne hj] at hc ⊢
    exact s.at_ j c hc
theorem pick_at {α : Type} (L : List α) (f : α -> PyData) {q : Int} (h0 : 0 ≤ q) (h1 : q < (L.length : Nat)) : ∃ x, x ∈ L ∧ atI (L.map f) q = some (f x) := by
  have hq : q.toNat < L.length := by omega
  exact ⟨L[q.toNat], List.getElem_mem hq, atI_z h0 (by rw [List.getElem?_map, List.getElem?_eq_getElem hq]; rfl)⟩
end Gd
namespace Lw
open PySem PySem.Spec L2 Gd
def lawB (i : Nat) : Stmt := (defBody s_law).getD i (.Pass ⟨0, 0, 0, 0⟩)
def forB : Stmt -> List Stmt
  | .For _ _ b _ _ => b
  | _ => []
def bodyB (i : Nat) : Stmt := (forB (lawB 2)).getD i (.Pass ⟨0, 0, 0, 0⟩)
def opsK (kd : Nat) (c : Nat) (n : Int) : Bk -> BRes := match kd with
  | 0 => opAdd (.str (S [c]))
  | 1 => opRest n
  | 2 => opUndo
  | _ => opRedo
/-- the book behind a call -/
def nextB (o : BRes) (b : Bk) : Bk := match o with
  | .ret _ b' => b'
  | .exc _ => b
/-- the slots -/
def rhoL (ns : List Int) (r : Ru) (p : Addr) (st : List (List Nat)) (at_ : Nat) (x5 x6 x7 x8 x9 x10 x11 x12 : Cell) : Rho := [.dat (scrD ns), .dat (ruD r), .raw (.ref p), .dat (statesD st), .dat (.int (at_ : Nat)), x5, x6, x7, x8, x9, x10, x11, x12]
def free1 (c : Cell) : Prop := forall x, c ≠ .owx x
theorem no_rho {ns : List Int} {r : Ru} {p : Addr} {st : List (List Nat)} {at_ : Nat} {x5 x6 x7 x8 x9 x10 x11 x12 : Cell} (h : owB x5 = false ∧ owB x6 = false ∧ owB x7 = false ∧ owB x8 = false ∧ owB x9 = false ∧ owB x10 = false ∧ owB x11 = false ∧ owB x12 = false) : NoOwn (rhoL ns r p st at_ x5 x6 x7 x8 x9 x10 x11 x12) := noOwn_of (by
  obtain ⟨h1, h2, h3, h4, h5, h6, h7, h8⟩ := h
  unfold rhoL
  simp only [List.all_cons, List.all_nil, h1, h2, h3, h4, h5, h6, h7, h8]
  rfl)
section
variable {P : Program} {w : World} {K : PySem.W.Frag} {mg : Str -> Option Value} {base : Heap} {cdv : Value} {A : Around} {outer : List Env} {s0 : Shared} {H0 : Hp} {E : XK}
abbrev lx (P : Program) (w : World) (K : PySem.W.Frag) (mg : Str -> Option Value) (base : Heap) (cdv : Value) (A : Around) (outer : List Env) (s0 : Shared) (H0 : Hp) (E : XK) : Cx := cxD P w K mg base n_law "law" s_law (He.ga K "law") cdv A outer s0 H0 E
variable {B G H : Hp} {σ : L2.St} {a : BA} {b : Bk} {ns : List Int} {r : Ru} {st : List (List Nat)} {at_ : Nat} {D : Ends} {x5 x6 x7 x8 x9 x10 x11 x12 : Cell}
/-! ### the call and its result -/
theorem law_call (T : Tp K mg) (tb : forall p, p ∈ tfL.map (He.cT K) -> LamX.TabB base mg p.1 p.2) (hr : Room 9 (lx P w K mg base cdv A outer s0 H0 E).A) {kd c : Nat} {n : Int} {d5 : PyData} {x10 x11 x12 : Cell} (hx : owB x10 = false ∧ owB x11 = false ∧ owB x12 = false) (hkd : kd < 4)
    (s : LS K (tabsN K tfL) B G H σ (rhoL ns r a.p st at_ (.dat d5) (.dat (.int (kd : Nat))) (.dat (.str (S [c]))) (.dat (.int n)) (.dat (resD (opsK kd c n b))) x10 x11 x12) a b)
    (hb : bsz b) (hl : b.e.length < 500 ∧ b.l.length < 500) (hat : forall d b', opsK kd c n b = .ret d b' -> atom d = true) (hex : forall x, opsK kd c n b = .exc x -> x ∈ cls11) (hsh : shap (resD (opsK kd c n b)) = true)
    (k : forall G1 H1 a1, a1.p = a.p -> LS K (tabsN K tfL) B G1 H1 σ (rhoL ns r a.p st at_ (.dat d5) (.dat (.int (kd : Nat))) (.dat (.str (S [c]))) (.dat (.int n)) (.dat (resD (opsK kd c n b))) x10 x11 x12) a1 (nextB (opsK kd c n b) b) -> D.nx σ H1) : twp (lx P w K mg base cdv A outer s0 H0 E) (bodyB 6) D σ H := by
  have no : NoOwn (rhoL ns r a.p st at_ (.dat d5) (.dat (.int (kd : Nat))) (.dat (.str (S [c]))) (.dat (.int n)) (.dat (resD (opsK kd c n b))) x10 x11 x12) := no_rho ⟨rfl, rfl, rfl, rfl, rfl, hx.1, hx.2.1, hx.2.2⟩
  obtain ⟨fr, fdr, psr, hmr, kpr, hbr, Fr⟩ := (can_resO (P := P) (w := w) (base := base) T 6).ex
  obtain ⟨fc, fdc, psc, hmc, kpc, hbc, Fc⟩ := (can_calls (P := P) (w := w) (base := base) T tb).ex
  obtain ⟨rr, op, hop⟩ := c_neD (X := lx P w K mg base cdv A outer s0 H0 E) hr.units hsh hsh
  have hlt : decide (((kd : Nat) : Int) < 4) = true := decide_eq_true (by omega)
  refine twp_ifF (twT_w (twW_andT (twT_data (gt_is (gt_cmp (gv 6) ge_int c_lt) hlt) s.sta fun G1 H1 e1 => ⟨rfl, ?_⟩)))
  have s1 := s.ext e1
  refine twW_and1 fun pins ss I => Wp.mk ((pt_cmpR op (pe_call (x := "_law_result") Fr (hr.mono (by decide)) rfl hmr kpr hbr .nil passL (pa_cons (pe_ix ix_list (pe_call (x := "_law_calls") Fc (hr.mono (by decide)) rfl hmc kpc hbc .nil passL (pa_cons (pv 2) (pa_cons (pv 7) (pa_cons (pv 8) pa_nil)))) (pv 6) (fun _ _ => rfl)) pa_nil)) (pv 9) rfl).run pins ss _ _ _ I ?_)
  obtain ⟨ov2, h2, e2⟩ := s1.sta.at_ 2 (.raw (.ref a.p)) rfl
  subst e2
  obtain ⟨v6, h6, d6⟩ := s1.sta.dat (i := 6) (d := .int (kd : Nat)) rfl
  cases d6
  obtain ⟨v7, h7, d7⟩ := s1.sta.dat (i := 7) (d := .str (S [c])) rfl
  cases d7
  obtain ⟨v8, h8, d8⟩ := s1.sta.dat (i := 8) (d := .int n) rfl
  cases d8
  refine ⟨_, h2, _, h7, _, h8, G1, a.p, S [c], n, rfl, s1.sta.gh, s1.tab, by exact rfl, fun l f0 f1 f2 f3 G0 G2 H2 ex ht sm0 nt0 hl0 t0 t1 t2 t3 => ?_⟩
  have s2 := s1.extT no ex
  have hth : ∃ f, atI [V.ref f0, .ref f1, .ref f2, .ref f3] ((kd : Nat) : Int) = some (.ref f) ∧ ThV P w K mg base 7 G0 f (spOp K a.p (opsK kd c n)) := by
    match kd, hkd with
    | 0, _ => exact ⟨f0, rfl, t0⟩
    | 1, _ => exact ⟨f1, rfl, t1⟩
    | 2, _ => exact ⟨f2, rfl, t2⟩
    | 3, _ => exact ⟨f3, rfl, t3⟩
    | _ + 4, h => exact absurd h (by omega)
  obtain ⟨f, hf, th⟩ := hth
  refine ⟨_, h6, l, _, _, .ref f, rfl, rfl, .inl (.inl (ex.gh _ _ (sm0 _ _ hl0))), hf, G0, f, opsK kd c n, G2, a, b, rfl, sm0.trans ex.gh, nt0, th, ex.gh, s2.bk, hb, hl.1, hl.2, ?_⟩
  have fin : forall u G3 H3 a3 b3, a3.p = a.p -> LS K (tabsN K tfL) B G3 H3 σ (rhoL ns r a.p st at_ (.dat d5) (.dat (.int (kd : Nat))) (.dat (.str (S [c]))) (.dat (.int n)) (.dat (resD (opsK kd c n b))) x10 x11 x12) a3 b3 -> b3 = nextB (opsK kd c n b) b -> Dq K H3 u (resD (opsK kd c n b)) ->
      ∃ v9, σ[9]? = some (some v9) ∧ rr u v9 H3 fun x H' => ∃ k, x = V.bl k ∧ (k = false ∧ tws (lx P w K mg base cdv A outer s0 H0 E) [] D σ H') := fun u G3 H3 a3 b3 ep s3 eb du => by
    obtain ⟨v9, h9, d9⟩ := s3.sta.dat (i := 9) (d := resD (opsK kd c n b)) rfl
    refine ⟨v9, h9, hop u v9 H3 H3 _ (Same.refl _) du (d9.mono s3.sta.gh) fun v G4 H4 e4 dv => ?_⟩
    cases dv
    refine ⟨_, rfl, by rw [eqv_refl _ (shap_n hsh)]; rfl, tws_nil ?_⟩
    subst eb
    exact k G3 H4 a3 ep (s3.same e4.h)
  cases ho : opsK kd c n b with
  | ret d b' =>
    refine ⟨hat d b' ho, fun u G3 H3 a3 ch du => ?_⟩
    exact fin u G3 H3 a3 b' ch.pp.1 (s2.chg no ch) (by rw [ho]; rfl) (by rw [ho]; exact du.mono ch.gh)
  | exc x =>
    refine ⟨hex x ho, fun u H3 sm du => ?_⟩
    exact fin u G2 H3 a b rfl (s2.same sm) (by rw [ho]; rfl) (by rw [ho]; exact du)
/-! ### what must hold of the book -/
theorem law_check (T : Tp K mg) (hr : Room 9 (lx P w K mg base cdv A outer s0 H0 E).A) (hx : owB x5 = false ∧ owB x6 = false ∧ owB x7 = false ∧ owB x8 = false ∧ owB x9 = false ∧ owB x10 = false ∧ owB x11 = false ∧ owB x12 = false)
    (s : LS K (tabsN K tfL) B G H σ (rhoL ns r a.p st at_ x5 x6 x7 x8 x9 x10 x11 x12) a b) (hb : bsz b) (hh : Hist b st at_) (hbr : b.r = r)
    (k : forall H1, LS K (tabsN K tfL) B G H1 σ (rhoL ns r a.p st at_ x5 x6 x7 x8 x9 x10 x11 x12) a b -> D.nx σ H1) : twp (lx P w K mg base cdv A outer s0 H0 E) (bodyB 7) D σ H := by
  have no := no_rho (ns := ns) (r := r) (p := a.p) (st := st) (at_ := at_) hx
  have h60 := (log60 hb.t).1
  have v := (isRules_iff b.r).mp hb.r
  have hat : atI (st.map fun y => PyData.str (S y)) ((at_ : Nat) : Int) = some (.str (S b.t)) := atI_nat (by rw [List.getElem?_map, hh.t]; rfl)
  obtain ⟨ov2, h2, e2⟩ := s.sta.at_ 2 (.raw (.ref a.p)) rfl
  subst e2
  subst hbr
  refine twp_ifF (LS.read (X := lx P w K mg base cdv A outer s0 H0 E) (k := false) 2 s no h2 ?_ fun H1 sm s1 => ⟨rfl, tws_nil (k H1 s1)⟩)
  have gs : forall {p1 p2 p3 : Pos}, GE (lx P w K mg base cdv A outer s0 H0 E) (.Subscript (.Name "states" p1) (.Name "at" p2) p3) ((rhoL ns b.r a.p st at_ x5 x6 x7 x8 x9 x10 x11 x12).set 2 (.pin (.ref a.p) (phM K a b))) (.str (S b.t)) := fun {p1 p2 p3} => ge_ix (gv 3) (gv 4) (x_lst hat)
  have hsh : shap (shD (after b.r b.t)) = true := shap_of 1 rfl
  refine gt_is (gt_w (gw_or (gt_cmp (ge_log (i := 2) (a := a) (b := b) T hr (by decide)) gs c_neSS) fun _ => gw_or (gt_cmp (ge_lenM (i := 2) (a := a) (b := b) T hr (by decide) (by omega)) (ge_lenS T.fr_len gs (by omega)) c_neI) fun _ => gw_or1 (gt_cmp (ge_cnt (i := 2) (a := a) (b := b) T hr (by decide) hb) (ge_call (can_count T) hr (ga_cons (gv 1) (ga_cons gs ga_nil)) ⟨b.r, b.t, v, by omega, rfl, rfl⟩) (c_neD hr.units hsh hsh)))) ?_
  rw [decide_eq_true rfl, decide_eq_true rfl, eqv_refl _ rfl]
  rfl
end
end Lw

namespace Lw
open PySem PySem.Spec L2 Gd
section
variable {P : Program} {w : World} {K : PySem.W.Frag} {mg : Str -> Option Value} {base : Heap} {cdv : Value} {A : Around} {outer : List Env} {s0 : Shared} {H0 : Hp} {E : XK}
variable {B G H : Hp} {σ : L2.St} {a : BA} {b : Bk} {ns : List Int} {r : Ru} {st : List (List Nat)} {at_ : Nat} {D : Ends} {x5 x6 x7 x8 x9 x10 x11 x12 : Cell}
theorem law_due1 (T : Tp K mg) (hr : Room 9 (lx P w K mg base cdv A outer s0 H0 E).A) {kd c : Nat} {n : Int} {d5 : PyData} (hx : owB x9 = false ∧ owB x10 = false ∧ owB x11 = false ∧ owB x12 = false) (hkd : kd = 0 ∨ kd = 1)
    (s : LS K (tabsN K tfL) B G H σ (rhoL ns r a.p st at_ (.dat d5) (.dat (.int (kd : Nat))) (.dat (.str (S [c]))) (.dat (.int n)) x9 x10 x11 x12) a b) (hb : bsz b) (hh : Hist b st at_) (hbr : b.r = r) (hn : 0 ≤ n ∧ n ≤ 100)
    (k : forall σ1 G1 H1, LS K (tabsN K tfL) B G1 H1 σ1 (rhoL ns r a.p st at_ (.dat d5) (.dat (.int (kd : Nat))) (.dat (.str (S [c]))) (.dat (.int n)) (.dat (resD (opsK kd c n b))) (.dat (stD (opsK kd c n b))) x11 x12) a b -> D.nx σ1 H1) : twp (lx P w K mg base cdv A outer s0 H0 E) (bodyB 4) D σ H := by
  have no : NoOwn (rhoL ns r a.p st at_ (.dat d5) (.dat (.int (kd : Nat))) (.dat (.str (S [c]))) (.dat (.int n)) x9 x10 x11 x12) := no_rho ⟨rfl, rfl, rfl, rfl, hx⟩
  have nd := sc_law.nd
  have v := (isRules_iff b.r).mp hb.r
  have hlt : decide (((kd : Nat) : Int) < 2) = true := decide_eq_true (by omega)
  have hat : atI (st.map fun y => PyData.str (S y)) ((at_ : Nat) : Int) = some (.str (S b.t)) := atI_nat (by rw [List.getElem?_map, hh.t]; rfl)
  have hR : R_due [ruD r, .str (S b.t), .int (kd : Nat), .str (S [c]), .int n] (.ret (dueOf (opsK kd c n b))) := by
    refine ⟨b, c, n, v, hb.t, hn.1, hn.2, ?_⟩
    rcases hkd with rfl | rfl
    · exact .inl ⟨by rw [hbr]; rfl, rfl⟩
    · exact .inr ⟨by rw [hbr]; rfl, rfl⟩
  refine LS.ite (X := lx P w K mg base cdv A outer s0 H0 E) s (gt_is (gt_cmp (gv 6) ge_int c_lt) hlt) (fun _ G1 H1 e s1 => ?_) fun z => by cases z
  exact tws_cons (LS.data (X := lx P w K mg base cdv A outer s0 H0 E) s1 no (fun N => g1_asg (tg_tp (is := [9, 10]) (tgs_cons 9 nd (tgs_cons 10 nd tgs_nil))) (ge_call (can_due T) hr (ga_cons (gv 1) (ga_cons (ge_ix (gv 3) (gv 4) (x_lst hat)) (ga_cons (gv 6) (ga_cons (gv 7) (ga_cons (gv 8) ga_nil))))) hR) rfl rfl) fun σ1 G2 H2 _ s2 => tws_nil (k σ1 G2 H2 s2))
theorem law_undo (T : Tp K mg) (hr : Room 9 (lx P w K mg base cdv A outer s0 H0 E).A) {kd c at' : Nat} {n tz : Int} {d5 : PyData} (hx : owB x9 = false ∧ owB x10 = false ∧ owB x11 = false ∧ owB x12 = false) (hkd : (kd = 2 ∧ tz = ((at_ : Nat) : Int) - 1) ∨ (kd = 3 ∧ tz = ((at_ : Nat) : Int) + 1))
    (hat' : (at' : Int) = if (0 ≤ tz ∧ tz < (st.length : Nat)) then tz else ((at_ : Nat) : Int))
    (s : LS K (tabsN K tfL) B G H σ (rhoL ns r a.p st at_ (.dat d5) (.dat (.int (kd : Nat))) (.dat (.str (S [c]))) (.dat (.int n)) x9 x10 x11 x12) a b)
    (k : forall σ1 G1 H1, LS K (tabsN K tfL) B G1 H1 σ1 (rhoL ns r a.p st at' (.dat d5) (.dat (.int (kd : Nat))) (.dat (.str (S [c]))) (.dat (.int n)) (.dat (if (0 ≤ tz ∧ tz < (st.length : Nat)) then PyData.none else .tuple [.str "error", .str "NothingToUndo"])) x10 (.dat (.int tz)) x12) a b -> D.nx σ1 H1) : twp (lx P w K mg base cdv A outer s0 H0 E) (bodyB 4) D σ H := by
  have no : NoOwn (rhoL ns r a.p st at_ (.dat d5) (.dat (.int (kd : Nat))) (.dat (.str (S [c]))) (.dat (.int n)) x9 x10 x11 x12) := no_rho ⟨rfl, rfl, rfl, rfl, hx⟩
  have nd := sc_law.nd
  have hlt : decide (((kd : Nat) : Int) < 2) = false := decide_eq_false (by omega)
  have hlt4 : decide (((kd : Nat) : Int) < 4) = true := decide_eq_true (by omega)
  refine LS.ite (X := lx P w K mg base cdv A outer s0 H0 E) s (gt_is (gt_cmp (gv 6) ge_int c_lt) hlt) (fun z => by cases z) fun _ G1 H1 e s1 => ?_
  refine tws_cons (LS.ite (X := lx P w K mg base cdv A outer s0 H0 E) s1 (gt_is (gt_cmp (gv 6) ge_int c_lt) hlt4) (fun _ G2 H2 e2 s2 => ?_) fun z => by cases z)
  have no1 : NoOwn (rhoL ns r a.p st at_ (.dat d5) (.dat (.int (kd : Nat))) (.dat (.str (S [c]))) (.dat (.int n)) x9 x10 (.dat (.int tz)) x12) := no_rho ⟨rfl, rfl, rfl, rfl, hx.1, hx.2.1, rfl, hx.2.2.2⟩
  have hto : GE (lx P w K mg base cdv A outer s0 H0 E) (match bodyB 4 with | .If _ _ [.If _ (.Assign _ e _ :: _) _ _] _ => e | _ => .Constant .none 0 ⟨0, 0, 0, 0⟩) (rhoL ns r a.p st at_ (.dat d5) (.dat (.int (kd : Nat))) (.dat (.str (S [c]))) (.dat (.int n)) x9 x10 x11 x12) (.int tz) := by
    rcases hkd with ⟨rfl, rfl⟩ | ⟨rfl, rfl⟩
    · exact ge_if (k := true) (gt_is (gt_cmp (gv 6) ge_int c_eqI) rfl) (fun _ => ge_bin (gv 4) ge_int b_sub) fun z => by cases z
    · exact ge_if (k := false) (gt_is (gt_cmp (gv 6) ge_int c_eqI) rfl) (fun z => by cases z) fun _ => ge_bin (gv 4) ge_int b_add
  refine tws_cons (LS.data (X := lx P w K mg base cdv A outer s0 H0 E) (ρ1 := rhoL ns r a.p st at_ (.dat d5) (.dat (.int (kd : Nat))) (.dat (.str (S [c]))) (.dat (.int n)) x9 x10 (.dat (.int tz)) x12) s2 no (fun N => g1_set 11 hto rfl nd) fun σ1 G3 H3 _ s3 => ?_)
  have hlen : (((st.map fun y => PyData.str (S y)).length : Nat) : Int) = (st.length : Nat) := by rw [List.length_map]
  refine tws_cons (LS.data (X := lx P w K mg base cdv A outer s0 H0 E) (ρ1 := rhoL ns r a.p st at_ (.dat d5) (.dat (.int (kd : Nat))) (.dat (.str (S [c]))) (.dat (.int n)) (.dat (if (0 ≤ tz ∧ tz < (st.length : Nat)) then PyData.none else .tuple [.str "error", .str "NothingToUndo"])) x10 (.dat (.int tz)) x12) s3 no1 (fun N => g1_set 9 (ge_is (ge_ite (x := .Constant .none 0 ⟨0, 0, 0, 0⟩) (gt_inRng T.fr_range (gv 11) (ge_lenL T.fr_len (gv 3))) (fun _ => ge_non) fun _ => ge_tup (ga_cons ge_str (ga_cons ge_str ga_nil))) ?_) rfl nd) fun σ2 G4 H4 _ s4 => ?_)
  · rw [hlen]
    by_cases h : 0 ≤ tz ∧ tz < (st.length : Nat)
    · rw [if_pos h, decide_eq_true h, if_pos rfl]
    · rw [if_neg h, decide_eq_false h, if_neg Bool.false_ne_true]
  have no2 : NoOwn (rhoL ns r a.p st at_ (.dat d5) (.dat (.int (kd : Nat))) (.dat (.str (S [c]))) (.dat (.int n)) (.dat (if (0 ≤ tz ∧ tz < (st.length : Nat)) then PyData.none else .tuple [.str "error", .str "NothingToUndo"])) x10 (.dat (.int tz)) x12) := no_rho ⟨rfl, rfl, rfl, rfl, rfl, hx.2.1, rfl, hx.2.2.2⟩
  refine tws_cons (LS.data (X := lx P w K mg base cdv A outer s0 H0 E) s4 no2 (fun N => g1_set 4 (ge_is (d1 := .int (at' : Nat)) (ge_ite (x := .Constant .none 0 ⟨0, 0, 0, 0⟩) (gt_inRng T.fr_range (gv 11) (ge_lenL T.fr_len (gv 3))) (fun _ => gv 11) fun _ => gv 4) ?_) rfl nd) fun σ3 G5 H5 _ s5 => tws_nil (tws_nil (k σ3 G5 H5 s5)))
  rw [hlen, hat']
  by_cases h : 0 ≤ tz ∧ tz < (st.length : Nat)
  · rw [if_pos h, decide_eq_true h, if_pos rfl]
  · rw [if_neg h, decide_eq_false h, if_neg Bool.false_ne_true]
theorem law_none (hx : owB x5 = false ∧ owB x6 = false ∧ owB x7 = false ∧ owB x8 = false ∧ owB x9 = false ∧ owB x11 = false ∧ owB x12 = false)
    (s : LS K (tabsN K tfL) B G H σ (rhoL ns r a.p st at_ x5 x6 x7 x8 x9 (.dat .none) x11 x12) a b)
    (k : forall G1 H1, LS K (tabsN K tfL) B G1 H1 σ (rhoL ns r a.p st at_ x5 x6 x7 x8 x9 (.dat .none) x11 x12) a b -> D.nx σ H1) : twp (lx P w K mg base cdv A outer s0 H0 E) (bodyB 5) D σ H :=
  LS.ite (X := lx P w K mg base cdv A outer s0 H0 E) s (gt_is (c' := false) (gt_cmp (gv 10) ge_non c_notN) rfl) (fun z => by cases z) fun _ G1 H1 e s1 => tws_nil (k G1 H1 s1)
theorem law_more {t' : List Nat} (hx : owB x5 = false ∧ owB x6 = false ∧ owB x7 = false ∧ owB x8 = false ∧ owB x9 = false ∧ owB x11 = false ∧ owB x12 = false) (hst : st.length ≤ 1000)
    (s : LS K (tabsN K tfL) B G H σ (rhoL ns r a.p st at_ x5 x6 x7 x8 x9 (.dat (.str (S t'))) x11 x12) a b)
    (k : forall σ1 G1 H1, LS K (tabsN K tfL) B G1 H1 σ1 (rhoL ns r a.p (st.take (at_ + 1) ++ [t']) (at_ + 1) x5 x6 x7 x8 x9 (.dat (.str (S t'))) x11 x12) a b -> D.nx σ1 H1) : twp (lx P w K mg base cdv A outer s0 H0 E) (bodyB 5) D σ H := by
  have no : NoOwn (rhoL ns r a.p st at_ x5 x6 x7 x8 x9 (.dat (.str (S t'))) x11 x12) := no_rho ⟨hx.1, hx.2.1, hx.2.2.1, hx.2.2.2.1, hx.2.2.2.2.1, rfl, hx.2.2.2.2.2⟩
  have nd := sc_law.nd
  refine LS.ite (X := lx P w K mg base cdv A outer s0 H0 E) s (gt_is (c' := true) (gt_cmp (gv 10) ge_non c_notN) rfl) (fun _ G1 H1 e s1 => ?_) fun z => by cases z
  have e1 : ((at_ : Nat) : Int) + 1 = ((at_ + 1 : Nat) : Int) := by omega
  refine tws_cons (LS.data (X := lx P w K mg base cdv A outer s0 H0 E) s1 no (fun N => g1_par 3 4 (ga_cons (ge_is (d1 := statesD (st.take (at_ + 1) ++ [t'])) (ge_bin (ge_slL (vl := none) (vh := some (((at_ : Nat) : Int) + 1)) (gv 3) trivial (ge_bin (gv 4) ge_int b_add)) (ge_lst (ga_cons (gv 10) ga_nil)) (b_cat ?_)) ?_) (ga_cons (ge_is (ge_bin (gv 4) ge_int b_add) (congrArg PyData.int e1)) ga_nil)) rfl nd) fun σ1 G2 H2 _ s2 => tws_nil (k σ1 G2 H2 s2))
  · rw [cut_to _ _ (by omega), List.length_take, List.length_map]
    show _ + 1 ≤ _
    omega
  · rw [cut_to _ _ (by omega), e1, Int.toNat_natCast]
    unfold statesD
    rw [List.map_append, List.map_take]
    rfl
end
end Lw

namespace Lw
open PySem PySem.Spec L2 Gd
section
variable {P : Program} {w : World} {K : PySem.W.Frag} {mg : Str -> Option Value} {base : Heap} {cdv : Value} {A : Around} {outer : List Env} {s0 : Shared} {H0 : Hp} {E : XK}
variable {B G H : Hp} {σ : L2.St} {a : BA} {b : Bk} {ns : List Int} {r : Ru} {st : List (List Nat)} {at_ : Nat} {D : Ends} {x5 x6 x7 x8 x9 x10 x11 x12 : Cell}
theorem sg_W : sgOf (.str "W") = some 87 := by
  have e : ("W" : Str) = S [87] := rfl
  rw [e, sgOf1]
  rfl
/-! ### copies -/
theorem law_copy (T : Tp K mg) (hr : Room 9 (lx P w K mg base cdv A outer s0 H0 E).A) {d5 d6 d7 d8 : PyData} (hx : owB x9 = false ∧ owB x10 = false ∧ owB x11 = false ∧ owB x12 = false) (hd6 : d6 = .int 4)
    (s : LS K (tabsN K tfL) B G H σ (rhoL ns r a.p st at_ (.dat d5) (.dat d6) (.dat d7) (.dat d8) x9 x10 x11 x12) a b) (hb : bsz b) (hl : b.e.length < 500 ∧ b.l.length < 500)
    (k : forall σ1 G1 H1 a1 p, LS K (tabsN K tfL) B G1 H1 σ1 (rhoL ns r a1.p st at_ (.dat d5) (.dat d6) (.dat d7) (.dat d8) x9 x10 x11 (.raw (.ref p))) a1 b -> D.nx σ1 H1) : twp (lx P w K mg base cdv A outer s0 H0 E) (bodyB 4) D σ H := by
  have no : NoOwn (rhoL ns r a.p st at_ (.dat d5) (.dat d6) (.dat d7) (.dat d8) x9 x10 x11 x12) := no_rho ⟨rfl, rfl, rfl, rfl, hx⟩
  have nd := sc_law.nd
  subst hd6
  obtain ⟨fdc, hbc, Fc⟩ := ok_copy (P := P) (w := w) (base := base) T
  obtain ⟨fda, hba, Fa⟩ := ok_add (P := P) (w := w) (base := base) T
  have h60 := (log60 hb.t).1
  refine LS.ite (X := lx P w K mg base cdv A outer s0 H0 E) s (gt_is (c' := false) (gt_cmp (gv 6) ge_int c_lt) rfl) (fun z => by cases z) fun _ G1 H1 e1 s1 => ?_
  refine tws_cons (LS.ite (X := lx P w K mg base cdv A outer s0 H0 E) s1 (gt_is (c' := false) (gt_cmp (gv 6) ge_int c_lt) rfl) (fun z => by cases z) fun _ G2 H2 e2 s2 => ?_)
  obtain ⟨ov2, h2, q2⟩ := s2.sta.at_ 2 (.raw (.ref a.p)) rfl
  subst q2
  -- twin = some.copy()
  refine tws_cons (twp_of (ps_set (i := 12) nd rfl (Or.inl rfl) (pe_meth0 (E := E0) (pv 2) T.cl_Logbook T.me_Logbook_copy Fc (hr.mono (by decide)) hbc .nil passL) rfl (.inl rfl)) ⟨_, h2, a.p, a.dx, _, rfl, s2.bk.ins, bf_no (by decide), G2, a, b, rfl, s2.sta.gh, s2.bk, hb, fun G3 H3 a2 nb => ?_⟩)
  have s3 := s2.ext nb.ext
  have ap := aprt_new s2.bk nb
  have no3 : NoOwn (rhoL ns r a.p st at_ (.dat d5) (.dat (.int 4)) (.dat d7) (.dat d8) x9 x10 x11 (.raw (.ref a2.p))) := no_rho ⟨rfl, rfl, rfl, rfl, hx.1, hx.2.1, hx.2.2.1, rfl⟩
  have st3 : Sta K G3 H3 (σ.set 12 (some (.ref a2.p))) (rhoL ns r a.p st at_ (.dat d5) (.dat (.int 4)) (.dat d7) (.dat d8) x9 x10 x11 (.raw (.ref a2.p))) := s3.sta.setR no 12
  have l3 : LS K (tabsN K tfL) B G3 H3 (σ.set 12 (some (.ref a2.p))) (rhoL ns r a.p st at_ (.dat d5) (.dat (.int 4)) (.dat d7) (.dat d8) x9 x10 x11 (.raw (.ref a2.p))) a b := ⟨st3, s3.tab, s3.bk, s3.gb⟩
  have m3 : LS K (tabsN K tfL) B G3 H3 (σ.set 12 (some (.ref a2.p))) (rhoL ns r a.p st at_ (.dat d5) (.dat (.int 4)) (.dat d7) (.dat d8) x9 x10 x11 (.raw (.ref a2.p))) a2 b := ⟨st3, s3.tab, nb.bk, s3.gb⟩
  have hs12 : (σ.set 12 (some (V.ref a2.p)))[12]? = some (some (.ref a2.p)) := by
    obtain ⟨ov, q1, q3⟩ := st3.at_ 12 (.raw (.ref a2.p)) rfl
    subst q3
    exact q1
  clear st3 s3
  -- some = some.copy()
  have last : forall G4 H4, LS K (tabsN K tfL) B G4 H4 (σ.set 12 (some (.ref a2.p))) (rhoL ns r a.p st at_ (.dat d5) (.dat (.int 4)) (.dat d7) (.dat d8) x9 x10 x11 (.raw (.ref a2.p))) a b -> tws (lx P w K mg base cdv A outer s0 H0 E) (match bodyB 4 with | .If _ _ [.If _ _ (_ :: _ :: r) _] _ => r | _ => []) { D with nx := fun σ' H' => tws (lx P w K mg base cdv A outer s0 H0 E) [] D σ' H' } (σ.set 12 (some (.ref a2.p))) H4 := fun G4 H4 s4 => by
    obtain ⟨ov2, h2, q2⟩ := s4.sta.at_ 2 (.raw (.ref a.p)) rfl
    subst q2
    refine tws_cons (twp_of (ps_set (i := 2) nd rfl (Or.inl rfl) (pe_meth0 (E := E0) (pv 2) T.cl_Logbook T.me_Logbook_copy Fc (hr.mono (by decide)) hbc .nil passL) rfl (.inl rfl)) ⟨_, h2, a.p, a.dx, _, rfl, s4.bk.ins, bf_no (by decide), G4, a, b, rfl, s4.sta.gh, s4.bk, hb, fun G5 H5 a3 nb5 => tws_nil (tws_nil (k _ G5 H5 a3 a2.p ?_))⟩)
    have s5 := s4.ext nb5.ext
    exact ⟨s5.sta.setR no3 2, s5.tab, nb5.bk, s5.gb⟩
  -- if len(twin) < 60: twin.add("W")
  have hcond : GT (lx P w K mg base cdv A outer s0 H0 E) (match bodyB 4 with | .If _ _ [.If _ _ (_ :: .If c _ _ _ :: _) _] _ => c | _ => .Constant .none 0 ⟨0, 0, 0, 0⟩) ((rhoL ns r a.p st at_ (.dat d5) (.dat (.int 4)) (.dat d7) (.dat d8) x9 x10 x11 (.raw (.ref a2.p))).set 12 (.pin (.ref a2.p) (phM K a2 b))) (decide (((b.t.length : Nat) : Int) < 60)) :=
    gt_cmp (ge_lenM (i := 12) (a := a2) (b := b) T hr (by decide) (by omega)) ge_int c_lt
  refine tws_cons (twp_if (LS.read (X := lx P w K mg base cdv A outer s0 H0 E) 12 m3 no3 hs12 hcond fun H4 sm m4 => ?_))
  have l4 := l3.same sm
  by_cases hlt : ((b.t.length : Nat) : Int) < 60
  · rw [decide_eq_true hlt, if_pos rfl]
    refine tws_cons (twp_of (ps_expr (pe_meth (E := E0) (pv 12) T.cl_Logbook T.me_Logbook_add Fa (hr.mono (by decide)) hba .nil passL (pa_cons pe_str pa_nil))) ⟨_, hs12, a2.p, a2.dx, _, rfl, m4.bk.ins, bf_no (by decide), G3, a2, b, _, .str "W", rfl, m4.sta.gh, m4.bk, hb, ⟨rfl, by decide +kernel⟩, .str _, ?_⟩)
    rw [sg_W]
    dsimp only
    rw [if_pos (by omega)]
    refine ⟨by omega, fun u G5 H5 a5 ch _ => tws_nil (last G5 H5 ?_)⟩
    exact l4.other no3 m4.bk ap ch
  · rw [decide_eq_false hlt, if_neg Bool.false_ne_true]
    exact tws_nil (last G3 H4 l4)
end
end Lw

namespace Gd
open PySem PySem.Spec L2
theorem Sta.other {K : PySem.W.Frag} {G H : Hp} {σ σ' : St} {ρ : Rho} {j : Nat} (s : Sta K G H σ ρ) (no : NoOwn ρ) (hj : ρ[j]? = some .any) (hl : σ'.length = σ.length) (he : forall m, m ≠ j -> σ'[m]? = σ[m]?) : Sta K G H σ' ρ := by
  refine ⟨s.gh, by rw [hl]; exact s.len, fun i c hc => ?_, fun i j p x y h1 => absurd h1 (no i x)⟩
  by_cases hi : i = j
  · subst hi
    rw [hj] at hc
    cases hc
    have : i < σ'.length := by
      rw [hl, s.len]
      exact (List.getElem?_eq_some_iff.mp hj).1
    exact ⟨_, List.getElem?_eq_getElem this, True.intro⟩
  · rw [he i hi]
    exact s.at_ i c hc
end Gd
namespace Lw
open PySem PySem.Spec L2 Gd
/-! ### plain facts -/
def ResOk : BRes -> Prop
  | .ret d _ => atom d = true ∧ shap d = true
  | .exc x => x ∈ cls11
theorem ops_ok (kd c : Nat) (n : Int) (b : Bk) : ResOk (opsK kd c n b) := by
  have e1 : ("TooLong" : Str) ∈ cls11 := by decide +kernel
  have e2 : ("InvalidLog" : Str) ∈ cls11 := by decide +kernel
  have e3 : ("InvalidMany" : Str) ∈ cls11 := by decide +kernel
  have e4 : ("NothingToUndo" : Str) ∈ cls11 := by decide +kernel
  have u : ResOk (opUndo b) := by
    unfold opUndo
    cases b.e.getLast? with
    | none => exact e4
    | some t => exact ⟨rfl, shap_of 1 rfl⟩
  have r : ResOk (opRedo b) := by
    unfold opRedo
    cases b.l.getLast? with
    | none => exact e4
    | some t => exact ⟨rfl, shap_of 1 rfl⟩
  match kd with
  | 0 =>
    show ResOk (opAdd (.str (S [c])) b)
    unfold opAdd
    cases sgOf (.str (S [c])) with
    | none => exact e2
    | some c' =>
      dsimp only
      split
      · exact ⟨rfl, shap_of 1 rfl⟩
      · exact e1
  | 1 =>
    show ResOk (opRest n b)
    unfold opRest
    split
    · exact e3
    · split
      · exact ⟨rfl, shap_of 1 rfl⟩
      · exact e1
  | 2 => exact u
  | _ + 3 => exact r
theorem res_shap {o : BRes} (h : ResOk o) : shap (resD o) = true := by
  cases o with
  | ret d b => exact h.2
  | exc x => exact cls_shap x h
theorem log_one {l : List Nat} {c : Nat} (h : isLogL l = true) (hc : isSg c = true) (hn : l.length + 1 ≤ 60) : isLogL (l ++ [c]) = true := by
  unfold isLogL at h ⊢
  rw [Bool.and_eq_true, List.all_eq_true] at h
  rw [Bool.and_eq_true, decide_eq_true_eq, List.all_eq_true, List.length_append]
  refine ⟨by show ((l.length + 1 : Nat) : Int) ≤ 60; omega, fun x hx => ?_⟩
  rcases List.mem_append.mp hx with hx | hx
  · exact h.2 x hx
  · rw [List.mem_singleton.mp hx]; exact hc
theorem op_new {kd c : Nat} {n : Int} {b b' : Bk} {d : PyData} (hkd : kd = 0 ∨ kd = 1) (hb : isLogL b.t = true) (h : opsK kd c n b = .ret d b') : ∃ t', b' = ⟨b.r, t', b.e ++ [b.t], []⟩ ∧ isLogL t' = true := by
  rcases hkd with rfl | rfl
  · have h : opAdd (.str (S [c])) b = .ret d b' := h
    unfold opAdd at h
    rw [sgOf1] at h
    by_cases hs : isSg c = true
    · rw [if_pos hs] at h
      dsimp only at h
      by_cases hl : b.t.length + 1 ≤ 60
      · rw [if_pos hl] at h
        cases h
        exact ⟨_, rfl, log_one hb hs hl⟩
      · rw [if_neg hl] at h
        cases h
    · rw [if_neg hs] at h
      cases h
  · have h : opRest n b = .ret d b' := h
    unfold opRest at h
    split at h
    · cases h
    · split at h
      · rename_i hl
        cases h
        exact ⟨_, rfl, log_rest hb hl⟩
      · cases h
def kL : List Nat := [0, 0, 0, 0, 0, 1, 1, 2, 3, 2, 3, 4]
def sL : List Nat := [68, 68, 68, 82, 87, 88]
def mL : List Int := [1, 2, 3, 12, 0, 1, 2, 13]
theorem kL_le : forall x, x ∈ kL -> x ≤ 4 := by decide
theorem mL_le : forall x, x ∈ mL -> 0 ≤ x ∧ x ≤ 100 := by decide
def rhoA (ns : List Int) (r : Ru) (p : Addr) (st : List (List Nat)) (at_ : Nat) : Rho := rhoL ns r p st at_ .any .any .any .any .any .any .any .any
theorem no_A {ns : List Int} {r : Ru} {p : Addr} {st : List (List Nat)} {at_ : Nat} : NoOwn (rhoA ns r p st at_) := no_rho ⟨rfl, rfl, rfl, rfl, rfl, rfl, rfl, rfl⟩
section
variable {P : Program} {w : World} {K : PySem.W.Frag} {mg : Str -> Option Value} {base : Heap} {cdv : Value} {A : Around} {outer : List Env} {s0 : Shared} {H0 : Hp} {E : XK}
variable {B G H : Hp} {σ : L2.St} {a : BA} {b : Bk} {ns : List Int} {r : Ru} {st : List (List Nat)} {at_ : Nat} {D : Ends} {x5 x6 x7 x8 x9 x10 x11 x12 : Cell}
theorem LS.forget (s : LS K (tabsN K tfL) B G H σ (rhoL ns r a.p st at_ x5 x6 x7 x8 x9 x10 x11 x12) a b) : LS K (tabsN K tfL) (fun _ => none) G H σ (rhoA ns r a.p st at_) a b := by
  refine ⟨s.sta.weak rfl fun i c hc => ?_, s.tab, s.bk, fun _ _ z => nomatch z⟩
  match i with
  | 0 => exact .inr hc
  | 1 => exact .inr hc
  | 2 => exact .inr hc
  | 3 => exact .inr hc
  | 4 => exact .inr hc
  | 5 => cases hc; exact .inl rfl
  | 6 => cases hc; exact .inl rfl
  | 7 => cases hc; exact .inl rfl
  | 8 => cases hc; exact .inl rfl
  | 9 => cases hc; exact .inl rfl
  | 10 => cases hc; exact .inl rfl
  | 11 => cases hc; exact .inl rfl
  | 12 => cases hc; exact .inl rfl
  | i + 13 => cases hc
/-- what holds ahead of the i-th turn -/
def IvL (K : PySem.W.Frag) (ns : List Int) (r : Ru) (i : Nat) (σ : L2.St) (G H : Hp) : Prop := ∃ st at_ a b, LS K (tabsN K tfL) (fun _ => none) G H σ (rhoA ns r a.p st at_) a b ∧ Hist b st at_ ∧ b.r = r ∧ okSt st ∧ st.length ≤ i + 1
theorem okSt_new {t' : List Nat} (ok : okSt st) (h : isLogL t' = true) (m : Nat) : okSt (st.take m ++ [t']) := fun y hy => by
  rcases List.mem_append.mp hy with z | z
  · exact ok y (List.mem_of_mem_take z)
  · rw [List.mem_singleton.mp z]; exact h
/-- the call, the check, the turn's end -/
theorem law_end (T : Tp K mg) (tb : forall p, p ∈ tfL.map (He.cT K) -> LamX.TabB base mg p.1 p.2) (hr : Room 9 (lx P w K mg base cdv A outer s0 H0 E).A) {kd c i : Nat} {n : Int} {d5 : PyData} {st0 : List (List Nat)} {at0 : Nat} (hx : owB x10 = false ∧ owB x11 = false ∧ owB x12 = false) (hkd : kd < 4) (hi : i < 22)
    (s : LS K (tabsN K tfL) B G H σ (rhoL ns r a.p st at_ (.dat d5) (.dat (.int (kd : Nat))) (.dat (.str (S [c]))) (.dat (.int n)) (.dat (resD (opsK kd c n b))) x10 x11 x12) a b)
    (h0 : Hist b st0 at0) (ok0 : okSt st0) (hl0 : st0.length ≤ i + 1) (hrr : isRules (ruD r) = true) (hbr : b.r = r) (hh : Hist (nextB (opsK kd c n b) b) st at_) (hbr' : (nextB (opsK kd c n b) b).r = r) (ok : okSt st) (hl : st.length ≤ i + 2) (hD : forall σ' H', (∃ G2, Same B G2 ∧ IvL K ns r (i + 1) σ' G2 H') -> D.nx σ' H') :
    tws (lx P w K mg base cdv A outer s0 H0 E) [bodyB 6, bodyB 7] D σ H := by
  have ro := ops_ok kd c n b
  have hb := h0.bsz (by rw [hbr]; exact hrr) ok0
  have sm := h0.small (by omega)
  refine tws_cons (law_call T tb hr hx hkd s hb sm (fun d b' e => by rw [e] at ro; exact ro.1) (fun x e => by rw [e] at ro; exact ro) (res_shap ro) fun G1 H1 a1 ep s1 => ?_)
  rw [← ep] at s1
  have hb1 := hh.bsz (by rw [hbr']; exact hrr) ok
  exact tws_cons (law_check T hr ⟨rfl, rfl, rfl, rfl, rfl, hx⟩ s1 hb1 hh hbr' fun H2 s2 => tws_nil (hD _ _ ⟨G1, s2.gb, st, at_, a1, _, s2.forget, hh, hbr', ok, hl⟩))
theorem law_turn (T : Tp K mg) (tb : forall p, p ∈ tfL.map (He.cT K) -> LamX.TabB base mg p.1 p.2) (hr : Room 9 (lx P w K mg base cdv A outer s0 H0 E).A) (h63 : ns.length ≤ 63) (hrr : isRules (ruD r) = true) {i : Nat} (hi : i < 22) {v : V} (hI : IvL K ns r i σ G H) (hv : σ[5]? = some (some v)) (dv : Dq K G v (.int (i : Nat))) (hD : forall σ' H', (∃ G2, Same G G2 ∧ IvL K ns r (i + 1) σ' G2 H') -> D.nx σ' H') :
    tws (lx P w K mg base cdv A outer s0 H0 E) (forB (lawB 2)) D σ H := by
  obtain ⟨st, at_, a, b, s, hh, hbr, ok, hlen⟩ := hI
  have nd := sc_law.nd
  have hlt := hh.lt
  have s1 : LS K (tabsN K tfL) G G H σ (rhoL ns r a.p st at_ (.dat (.int (i : Nat))) .any .any .any .any .any .any .any) a b := ⟨s.sta.put hv dv, s.tab, s.bk, Same.refl _⟩
  clear s
  have pk : forall (z m : Int), 0 ≤ z -> 0 < m -> R_pick [scrD ns, .int (z + 4 * ((i : Nat) : Int)), .int m] (.ret (.int (pick ns (z + 4 * ((i : Nat) : Int)) m))) := fun z m hz hm => ⟨ns, _, m, h63, by omega, hm, rfl, rfl⟩
  obtain ⟨kd, hk1, hk2⟩ := pick_at kL (fun k => PyData.int ((k : Nat) : Int)) (pick_range ns (10 + 4 * ((i : Nat) : Int)) 12 (by decide)).1 (by have := (pick_range ns (10 + 4 * ((i : Nat) : Int)) 12 (by decide)).2; exact this)
  obtain ⟨c, hc1, hc2⟩ := pick_at sL (fun k => PyData.str (S [k])) (pick_range ns (11 + 4 * ((i : Nat) : Int)) 6 (by decide)).1 (by have := (pick_range ns (11 + 4 * ((i : Nat) : Int)) 6 (by decide)).2; exact this)
  obtain ⟨n, hn1, hn2⟩ := pick_at mL (fun k => PyData.int k) (pick_range ns (12 + 4 * ((i : Nat) : Int)) 8 (by decide)).1 (by have := (pick_range ns (12 + 4 * ((i : Nat) : Int)) 8 (by decide)).2; exact this)
  have hn := mL_le n hn1
  have hk4 := kL_le kd hk1
  refine tws_cons (LS.data (X := lx P w K mg base cdv A outer s0 H0 E) (ρ1 := rhoL ns r a.p st at_ (.dat (.int (i : Nat))) (.dat (.int (kd : Nat))) .any .any .any .any .any .any) s1 (no_rho ⟨rfl, rfl, rfl, rfl, rfl, rfl, rfl, rfl⟩) (fun N => g1_set 6 (ge_ix (ge_lit (.tuple (kL.map fun k => PyData.int ((k : Nat) : Int)))) (ge_call (can_pick T) hr (ga_cons (gv 0) (ga_cons (ge_bin ge_int (ge_bin ge_int (gv 5) (b_mul (.inl ⟨by decide, by decide⟩))) b_add) (ga_cons ge_int ga_nil))) (pk 10 12 (by decide) (by decide))) (x_tup hk2)) rfl nd) fun σ2 G2 H2 _ s2 => ?_)
  refine tws_cons (LS.data (X := lx P w K mg base cdv A outer s0 H0 E) (ρ1 := rhoL ns r a.p st at_ (.dat (.int (i : Nat))) (.dat (.int (kd : Nat))) (.dat (.str (S [c]))) .any .any .any .any .any) s2 (no_rho ⟨rfl, rfl, rfl, rfl, rfl, rfl, rfl, rfl⟩) (fun N => g1_set 7 (ge_ix (ge_lit (.tuple (sL.map fun k => PyData.str (S [k])))) (ge_call (can_pick T) hr (ga_cons (gv 0) (ga_cons (ge_bin ge_int (ge_bin ge_int (gv 5) (b_mul (.inl ⟨by decide, by decide⟩))) b_add) (ga_cons ge_int ga_nil))) (pk 11 6 (by decide) (by decide))) (x_tup hc2)) rfl nd) fun σ3 G3 H3 _ s3 => ?_)
  refine tws_cons (LS.data (X := lx P w K mg base cdv A outer s0 H0 E) (ρ1 := rhoL ns r a.p st at_ (.dat (.int (i : Nat))) (.dat (.int (kd : Nat))) (.dat (.str (S [c]))) (.dat (.int n)) .any .any .any .any) s3 (no_rho ⟨rfl, rfl, rfl, rfl, rfl, rfl, rfl, rfl⟩) (fun N => g1_set 8 (ge_ix (ge_lit (.tuple (mL.map fun k => PyData.int k))) (ge_call (can_pick T) hr (ga_cons (gv 0) (ga_cons (ge_bin ge_int (ge_bin ge_int (gv 5) (b_mul (.inl ⟨by decide, by decide⟩))) b_add) (ga_cons ge_int ga_nil))) (pk 12 8 (by decide) (by decide))) (x_tup hn2)) rfl nd) fun σ4 G4 H4 _ s4 => ?_)
  refine tws_cons (LS.data (X := lx P w K mg base cdv A outer s0 H0 E) (ρ1 := rhoL ns r a.p st at_ (.dat (.int (i : Nat))) (.dat (.int (kd : Nat))) (.dat (.str (S [c]))) (.dat (.int n)) (.dat .none) (.dat .none) .any .any) s4 (no_rho ⟨rfl, rfl, rfl, rfl, rfl, rfl, rfl, rfl⟩) (fun N => g1_asg (tg_tp (is := [9, 10]) (tgs_cons 9 nd (tgs_cons 10 nd tgs_nil))) (ge_tup (ga_cons ge_non (ga_cons ge_non ga_nil))) rfl rfl) fun σ5 G5 H5 _ s5 => ?_)
  clear s1 s2 s3 s4 hk2 hc2 hn2 pk
  have hb := hh.bsz (by rw [hbr]; exact hrr) ok
  have hsm := hh.small (by omega)
  by_cases k2 : kd < 2
  · -- add, rest
    have hkd : kd = 0 ∨ kd = 1 := by omega
    refine tws_cons (law_due1 T hr ⟨rfl, rfl, rfl, rfl⟩ hkd s5 hb hh hbr hn fun σ6 G6 H6 s6 => ?_)
    cases ho : opsK kd c n b with
    | ret d b' =>
      obtain ⟨t', rfl, ht'⟩ := op_new hkd hb.t ho
      have e1 : stD (opsK kd c n b) = .str (S t') := by rw [ho]; rfl
      have e2 : nextB (opsK kd c n b) b = ⟨b.r, t', b.e ++ [b.t], []⟩ := by rw [ho]; rfl
      rw [e1] at s6
      refine tws_cons (law_more ⟨rfl, rfl, rfl, rfl, rfl, rfl, rfl⟩ (by omega) s6 fun σ7 G7 H7 s7 => ?_)
      exact law_end T tb hr ⟨rfl, rfl, rfl⟩ (by omega) hi s7 hh ok hlen hrr hbr (by rw [e2]; exact hh.new t') (by rw [e2]; exact hbr) (okSt_new ok ht' _) (by rw [List.length_append, List.length_take]; show _ + 1 ≤ _; omega) hD
    | exc x =>
      have e1 : stD (opsK kd c n b) = .none := by rw [ho]; rfl
      have e2 : nextB (opsK kd c n b) b = b := by rw [ho]; rfl
      rw [e1] at s6
      refine tws_cons (law_none ⟨rfl, rfl, rfl, rfl, rfl, rfl, rfl⟩ s6 fun G7 H7 s7 => ?_)
      exact law_end T tb hr ⟨rfl, rfl, rfl⟩ (by omega) hi s7 hh ok hlen hrr hbr (by rw [e2]; exact hh) (by rw [e2]; exact hbr) ok (by omega) hD
  · by_cases k3 : kd < 4
    · -- undo, redo
      have hkd : kd = 2 ∨ kd = 3 := by omega
      have key : ∃ (tz : Int) (at' : Nat), ((kd = 2 ∧ tz = ((at_ : Nat) : Int) - 1) ∨ (kd = 3 ∧ tz = ((at_ : Nat) : Int) + 1)) ∧ (at' : Int) = (if (0 ≤ tz ∧ tz < (st.length : Nat)) then tz else ((at_ : Nat) : Int)) ∧ (if (0 ≤ tz ∧ tz < (st.length : Nat)) then PyData.none else .tuple [.str "error", .str "NothingToUndo"]) = resD (opsK kd c n b) ∧ Hist (nextB (opsK kd c n b) b) st at' ∧ (nextB (opsK kd c n b) b).r = r := by
        rcases hkd with rfl | rfl
        · refine ⟨((at_ : Nat) : Int) - 1, at_ - 1, .inl ⟨rfl, rfl⟩, ?_, ?_, ?_⟩
          · by_cases h0 : at_ = 0
            · rw [if_neg (by omega)]; omega
            · rw [if_pos (by omega)]; omega
          · by_cases h0 : at_ = 0
            · subst h0
              have e : opsK 2 c n b = .exc "NothingToUndo" := hh.undo0
              rw [if_neg (by omega), e]
              rfl
            · obtain ⟨j, rfl⟩ : ∃ j, at_ = j + 1 := ⟨at_ - 1, by omega⟩
              obtain ⟨t, e, _⟩ := hh.undo
              have e : opsK 2 c n b = _ := e
              rw [if_pos (by omega), e]
              rfl
          · by_cases h0 : at_ = 0
            · subst h0
              have e : opsK 2 c n b = .exc "NothingToUndo" := hh.undo0
              rw [e]
              exact ⟨hh, hbr⟩
            · obtain ⟨j, rfl⟩ : ∃ j, at_ = j + 1 := ⟨at_ - 1, by omega⟩
              obtain ⟨t, e, h2⟩ := hh.undo
              have e : opsK 2 c n b = _ := e
              rw [e]
              exact ⟨h2, hbr⟩
        · by_cases h0 : at_ + 1 < st.length
          · obtain ⟨t, e, h2⟩ := hh.redo h0
            have e : opsK 3 c n b = _ := e
            refine ⟨((at_ : Nat) : Int) + 1, at_ + 1, .inr ⟨rfl, rfl⟩, by rw [if_pos (by omega)]; omega, by rw [if_pos (by omega), e]; rfl, by rw [e]; exact ⟨h2, hbr⟩⟩
          · have e : opsK 3 c n b = .exc "NothingToUndo" := hh.redo0 h0
            refine ⟨((at_ : Nat) : Int) + 1, at_, .inr ⟨rfl, rfl⟩, by rw [if_neg (by omega)], by rw [if_neg (by omega), e]; rfl, by rw [e]; exact ⟨hh, hbr⟩⟩
      obtain ⟨tz, at', q1, q2, q3, q4, q5⟩ := key
      refine tws_cons (law_undo T hr ⟨rfl, rfl, rfl, rfl⟩ q1 q2 s5 fun σ6 G6 H6 s6 => ?_)
      rw [q3] at s6
      refine tws_cons (law_none ⟨rfl, rfl, rfl, rfl, rfl, rfl, rfl⟩ s6 fun G7 H7 s7 => ?_)
      exact law_end T tb hr ⟨rfl, rfl, rfl⟩ k3 hi s7 hh ok hlen hrr hbr q4 q5 ok (by omega) hD
    · -- copies
      have hkd : kd = 4 := by omega
      subst hkd
      refine tws_cons (law_copy T hr ⟨rfl, rfl, rfl, rfl⟩ rfl s5 hb hsm fun σ6 G6 H6 a6 p s6 => ?_)
      refine tws_cons (law_none ⟨rfl, rfl, rfl, rfl, rfl, rfl, rfl⟩ s6 fun G7 H7 s7 => ?_)
      refine tws_cons (LS.ite (X := lx P w K mg base cdv A outer s0 H0 E) s7 (gt_is (c' := false) (gt_w (gw_and (c' := true) (gt_cmp (gv 6) ge_int c_lt) fun z => by cases z)) rfl) (fun z => by cases z) fun _ G8 H8 _ s8 => tws_nil ?_)
      exact tws_cons (law_check T hr ⟨rfl, rfl, rfl, rfl, rfl, rfl, rfl, rfl⟩ s8 hb hh hbr fun H9 s9 => tws_nil (hD _ _ ⟨G8, s9.gb, st, at_, a6, b, s9.forget, hh, hbr, ok, by omega⟩))
end
end Lw

namespace Lw
open PySem PySem.Spec L2 Gd
section
variable {P : Program} {w : World} {K : PySem.W.Frag} {mg : Str -> Option Value} {base : Heap} {cdv : Value} {A : Around} {outer : List Env} {s0 : Shared} {H0 : Hp} {E : XK}
variable {B G H : Hp} {σ : L2.St} {a : BA} {b : Bk} {ns : List Int} {r : Ru} {st : List (List Nat)} {at_ : Nat} {Q : VK}
/-- Logbook(form): the promise of __init__ at a new instance -/
theorem init_new {v1 : V} {p dx : Addr} {Q' : VK} (gh : Same G H) (d1 : Dq K G v1 (ruD r)) (hrr : isRules (ruD r) = true) (hp : H p = none) (hdx : H dx = none) (hne : dx ≠ p) (k : forall G1 H1 a1, a1.p = p -> NewB K G H G1 H1 a1 ⟨r, [], [], []⟩ -> Q' .non H1) : spInit K [.ref p, v1] (upd (upd H dx (.own p)) p (.ins (He.ga K "Logbook") dx [])) Q' E0 := by
  have s2 : Same H (upd (upd H dx (.own p)) p (.ins (He.ga K "Logbook") dx [])) := fun b u e => by
    rw [upd_ne (ne_of_none e hp), upd_ne (ne_of_none e hdx)]; exact e
  exact ⟨G, p, dx, v1, ruD r, rfl, gh.trans s2, upd_same, by rw [upd_ne hne, upd_same], gh.free hp, gh.free hdx, rfl, d1, .inr ⟨r, rfl, hrr, fun G1 H1 a1 mb => k G1 H1 a1 mb.pp.1 (newB_of hp hdx mb)⟩⟩
def rhoT (ns : List Int) (r : Ru) (p : Addr) (st : List (List Nat)) (at_ : Nat) (p2 : Addr) : Rho := rhoL ns r p st at_ .any .any .any .any .any .any .any (.raw (.ref p2))
theorem no_T {p p2 : Addr} : NoOwn (rhoT ns r p st at_ p2) := no_rho ⟨rfl, rfl, rfl, rfl, rfl, rfl, rfl, rfl⟩
/-- ahead of the i-th sign: the twin has i of them -/
def IvT (K : PySem.W.Frag) (ns : List Int) (r : Ru) (st : List (List Nat)) (at_ : Nat) (a : BA) (b : Bk) (i : Nat) (σ : L2.St) (G H : Hp) : Prop := ∃ a2 b2, LS K (tabsN K tfL) (fun _ => none) G H σ (rhoT ns r a.p st at_ a2.p) a b ∧ BkN K G H a2 b2 ∧ Aprt a a2 ∧ b2.t = b.t.take i ∧ b2.r = r ∧ b2.e.length = i ∧ bsz b2
theorem law_last (T : Tp K mg) (hr : Room 9 (lx P w K mg base cdv A outer s0 H0 E).A) (hrr : isRules (ruD r) = true) (s : LS K (tabsN K tfL) (fun _ => none) G H σ (rhoA ns r a.p st at_) a b) (hb : bsz b) (hh : Hist b st at_) (hbr : b.r = r) (hQ : forall H', Q (.bl true) H') :
    tws (lx P w K mg base cdv A outer s0 H0 E) [lawB 3, lawB 4, lawB 5] { nx := fun _ H' => Q .non H', rt := Q } σ H := by
  have nd := sc_law.nd
  have h60 := (log60 hb.t).1
  obtain ⟨fdi, hbi, Fi⟩ := ok_init (P := P) (w := w) (base := base) T
  obtain ⟨fda, hba, Fa⟩ := ok_add (P := P) (w := w) (base := base) T
  obtain ⟨fde, hbe, Fe⟩ := ok_eqB (P := P) (w := w) (base := base) T
  have hat : atI (st.map fun y => PyData.str (S y)) ((at_ : Nat) : Int) = some (.str (S b.t)) := atI_nat (by rw [List.getElem?_map, hh.t]; rfl)
  have hall : forall c, c ∈ b.t -> isSg c = true := fun c hc => by
    have := hb.t
    unfold isLogL at this
    rw [Bool.and_eq_true, List.all_eq_true] at this
    exact this.2 c hc
  obtain ⟨v1, h1, d1⟩ := s.sta.dat (i := 1) (d := ruD r) rfl
  -- twin = Logbook(form)
  refine tws_cons (twp_of (ps_set (i := 12) nd rfl (Or.inl rfl) (pe_make (E := E0) T.mk_Logbook Fi (hr.mono (by decide)) rfl T.gl_Logbook hbi .nil passL (pa_cons (pv 1) pa_nil)) rfl (.inl rfl)) ⟨v1, h1, fun p dx hp hdx hne => init_new s.sta.gh d1 hrr hp hdx hne fun G1 H1 a1 ep nb => ⟨rfl, ?_⟩⟩)
  subst ep
  have s1 := s.ext nb.ext
  have ap := aprt_new s.bk nb
  have st1 : Sta K G1 H1 (σ.set 12 (some (.ref a1.p))) (rhoT ns r a.p st at_ a1.p) := s1.sta.setR no_A 12
  have i0 : IvT K ns r st at_ a b 0 (σ.set 12 (some (.ref a1.p))) G1 H1 := ⟨a1, _, ⟨st1, s1.tab, s1.bk, s1.gb⟩, nb.bk, ap, rfl, rfl, rfl, ⟨hrr, rfl, fun y hy => (by cases hy), fun y hy => (by cases hy)⟩⟩
  -- for sign in states[at]: twin.add(sign)
  refine tws_cons (raw_for2 b.t (fun c => .str (S [c])) (j := 7) (n := 13) (gi_str (ge_ix (gv 3) (gv 4) (x_lst hat))) (tg_nm 7 nd) st1 st1.len (IvT K ns r st at_ a b) (fun _ _ _ _ ⟨_, _, h, _⟩ => h.sta.len) (fun _ _ _ _ ⟨_, _, h, _⟩ => h.sta.gh) (fun _ _ _ _ _ _ e ⟨a2, b2, h, k2, h3⟩ => ⟨a2, b2, h.ext e, k2.kept e.h e.g e.old, h3⟩)
    (fun _ _ _ _ _ ⟨a2, b2, h, h3⟩ hl he => ⟨a2, b2, ⟨h.sta.other no_T rfl hl he, h.tab, h.bk, h.gb⟩, h3⟩) i0 (fun i c σ2 G2 H2 v hx ⟨a2, b2, s2, k2, ap2, e1, e2, e3, z2⟩ hv dv => ?_) (fun σ2 G2 H2 ⟨a2, b2, s2, k2, ap2, e1, e2, e3, z2⟩ => ?_) (by decide) (passes_of rfl))
  · have hi : i < b.t.length := (List.getElem?_eq_some_iff.mp hx).1
    have hc := hall c (List.mem_of_getElem? hx)
    obtain ⟨ov, q12, q⟩ := s2.sta.at_ 12 (.raw (.ref a2.p)) rfl
    subst q
    refine tws_cons (twp_of (ps_expr (pe_meth (E := E0) (pv 12) T.cl_Logbook T.me_Logbook_add Fa (hr.mono (by decide)) hba .nil passL (pa_cons (pv 7) pa_nil))) ⟨_, q12, a2.p, a2.dx, _, rfl, k2.ins, bf_no (by decide), v, hv, G2, a2, b2, v, .str (S [c]), rfl, s2.sta.gh, k2, z2, ⟨rfl, by exact rfl⟩, dv, ?_⟩)
    have hl2 : b2.t.length = i := by rw [e1, List.length_take]; omega
    rw [sgOf1, if_pos hc]
    dsimp only
    rw [if_pos (by omega)]
    refine ⟨by omega, fun u G3 H3 a3 ch _ => tws_nil ⟨G3, ch.g, a3, _, ?_, ch.bk, ap2.chg s2.bk ch, ?_, e2, ?_, ?_⟩⟩
    · have := s2.other no_T k2 ap2 ch
      rw [ch.pp.1]
      exact ⟨this.sta, this.tab, this.bk, this.gb⟩
    · show b2.t ++ [c] = _
      rw [List.take_succ, hx, e1]
      rfl
    · show (b2.e ++ [b2.t]).length = _
      rw [List.length_append, e3]
      rfl
    · exact ⟨z2.r, log_one z2.t hc (by omega), fun y hy => by
        rcases List.mem_append.mp hy with z | z
        · exact z2.e y z
        · rw [List.mem_singleton.mp z]; exact z2.t, fun y hy => by cases hy⟩
  · rw [List.take_length] at e1
    obtain ⟨ov, q12, q⟩ := s2.sta.at_ 12 (.raw (.ref a2.p)) rfl
    subst q
    obtain ⟨ov, q2, q⟩ := s2.sta.at_ 2 (.raw (.ref a.p)) rfl
    subst q
    obtain ⟨w1, q1, p1⟩ := s2.sta.dat (i := 1) (d := ruD r) rfl
    -- return
    refine tws_cons (twp_ret (twE_andT fun pins ss I => Wp.mk ((pe_cmpR (op_eqO T.me_Logbook_eq Fe (hr.mono (by decide)) hbe) (pv 12) (pv 2) rfl).run pins ss _ _ _ I ⟨_, q12, _, q2, a2.p, a.p, a2.dx, a.dx, _, _, rfl, rfl, k2.ins, s2.bk.ins, G2, a2, b2, s2.sta.gh, k2, .inr ⟨G2, a, b, rfl, s2.sta.gh, s2.bk, by rw [hbr, e2], fun H3 sm3 => ⟨_, rfl, by rw [decide_eq_true e1], ?_⟩⟩⟩)))
    have s3 := s2.same sm3
    refine twE_andT fun pins ss I => Wp.mk ((pe_cmpR (op_neO (eqC_of T.xq) T.me_Logbook_eq Fe (hr.mono (by decide)) hbe) (pv 2) pe_tw rfl).run pins ss _ _ _ I ⟨_, q2, tw_data (X := lx P w K mg base cdv A outer s0 H0 E) (ρ := rhoT ns r a.p st at_ a2.p) (ge_ix (gv 3) (gv 4) (x_lst hat)) s3.sta fun v G4 H4 e4 dv => ?_⟩)
    cases dv
    have s4 := s3.ext e4
    refine ⟨a.p, S b.t, a.dx, _, rfl, rfl, s4.bk.ins, G4, a, b, s4.sta.gh, s4.bk, .inl ⟨_, rfl, fun H5 sm5 => ⟨false, rfl, rfl, ?_⟩⟩⟩
    have s5 := s4.same sm5
    obtain ⟨rr, op, hop⟩ := c_eqD (X := lx P w K mg base cdv A outer s0 H0 E) (d1 := .bool (decide ([] = b.t))) (d2 := .bool (decide (b.t = []))) hr.units (shap_of 1 rfl) (shap_of 1 rfl)
    refine twE_one fun pins ss I => Wp.mk ((pe_cmpR op (pe_cmpR (op_eqO T.me_Logbook_eq Fe (hr.mono (by decide)) hbe) (pe_make (x := "Logbook") (E := E0) T.mk_Logbook Fi (hr.mono (by decide)) rfl T.gl_Logbook hbi .nil passL (pa_cons (pv 1) pa_nil)) (pv 2) rfl) pe_tw rfl).run pins ss _ _ _ I ⟨w1, q1, fun p dx hp hdx hne => init_new s5.sta.gh (p1.mono e4.g) hrr hp hdx hne fun G6 H6 a6 ep nb6 => ⟨rfl, ?_⟩⟩)
    subst ep
    have s6 := s5.ext nb6.ext
    refine ⟨_, q2, a6.p, a.p, a6.dx, a.dx, _, _, rfl, rfl, nb6.bk.ins, s6.bk.ins, G6, a6, _, s6.sta.gh, nb6.bk, .inr ⟨G6, a, b, rfl, s6.sta.gh, s6.bk, hbr, fun H7 sm7 => ⟨_, rfl, ?_⟩⟩⟩
    have s7 := s6.same sm7
    refine tw_data (X := lx P w K mg base cdv A outer s0 H0 E) (ρ := rhoT ns r a.p st at_ a2.p) (ge_cmp (ge_ix (gv 3) (gv 4) (x_lst hat)) (gsS []) c_eqSS) s7.sta fun v G8 H8 e8 dv => ?_
    cases dv
    have s8 := s7.ext e8
    refine hop _ _ G8 H8 _ s8.sta.gh (.bl _) (.bl _) fun v G9 H9 e9 dv => ?_
    cases dv
    have ee : PyData.eqv (.bool (decide (([] : List Nat) = b.t))) (.bool (decide (b.t = []))) = true := by
      have : decide (([] : List Nat) = b.t) = decide (b.t = []) := by
        rw [Bool.eq_iff_iff, decide_eq_true_eq, decide_eq_true_eq]
        exact eq_comm
      rw [this]
      exact eqv_refl _ rfl
    rw [ee]
    exact hQ H9
/-! ### the law -/
theorem ok_law (T : Tp K mg) {fd : FuncData} (F : FnP K "law" s_law (He.ga K "law") fd) (tb : forall p, p ∈ tfL.map (He.cT K) -> LamX.TabB base mg p.1 p.2) : FnOk P w K mg base (L2.CX P w) 10 (He.ga K "law") fd ["script"] (spL K (tabsN K tfL)) := by
  refine F.ok sc_law (by rintro vs H Q E ⟨a, ns, rfl, _⟩; rfl) ?_
  rintro cdv A outer s0 H vs Q E hr ⟨a0, ns, rfl, h63, hS, hT, hQ⟩
  refine ⟨tws _ _, pss_tw, ?_⟩
  have nd := sc_law.nd
  have hs : Same (noT H) H := fun b u e => (noT_some e).1
  have hsq : SqL K (noT H) a0 (ns.map V.int) := by
    rcases hS with (h | ⟨o, h⟩) | h
    · exact .inl (.inl (noT_of h fun ps z => nomatch z))
    · exact .inl (.inr ⟨o, noT_of h fun ps z => nomatch z⟩)
    · exact .inr h
  have tab0 : TabG (tabsN K tfL) (noT H) H := fun p hp => ⟨#[], hT p hp, by unfold noT; rw [hT p hp], True.intro, fun pos cv hc => by
    have z : codeAmong pos [] = some cv := hc
    simp [codeAmong] at z⟩
  have sta0 := sta_start (Nm := n_law) hs (DqAll.cons (Dq.scr (K := K) (G := noT H) hsq rfl) .nil)
  have vr := lawForm_vr ns 0 4 (by decide) (by decide)
  have hrr : isRules (ruD (lawForm ns 0 4)) = true := (isRules_iff _).mpr vr
  obtain ⟨fdi, hbi, Fi⟩ := ok_init (P := P) (w := w) (base := base) T
  -- form = _law_form(script, 0, 4)
  refine tws_cons (twp_data (X := lx P w K mg base cdv A outer s0 H E) (Φ := { nx := fun ρ' => ρ' = (startR 13 [scrD ns]).set 1 (.dat (ruD (lawForm ns 0 4))), rt := fun _ => False }) (g1_set 1 (ge_call (can_form T) hr (ga_cons (gv 0) (ga_cons ge_int (ga_cons ge_int ga_nil))) ⟨ns, 0, 4, h63, by decide, by decide, rfl, rfl⟩) rfl nd) sta0 (noOwn_of rfl) (fun σ1 H1 ρ' G1 e1 st1 q => ?_) (fun _ _ _ _ _ _ z => z.elim) (fun _ z => z) fun _ z => z)
  subst q
  have tab1 := tab0.ext e1
  obtain ⟨v1, h1, d1⟩ := st1.dat (i := 1) (d := ruD (lawForm ns 0 4)) rfl
  -- some, states, at = Logbook(form), [""], 0
  refine tws_cons (twp_of (ps_par3 (X := lx P w K mg base cdv A outer s0 H E) (i := 2) (j := 3) (l := 4) rfl nd rfl rfl rfl (by decide) (by decide) (by decide) rfl rfl rfl (pa_cons (pe_make (E := E0) T.mk_Logbook Fi (hr.mono (by decide)) rfl T.gl_Logbook hbi .nil passL (pa_cons (pv 1) pa_nil)) (pa_cons (pe_lst (pa_cons pe_str pa_nil)) (pa_cons pe_int pa_nil))) rfl rfl) ⟨v1, h1, fun p dx hp hdx hne => init_new st1.gh d1 hrr hp hdx hne fun G2 H2 a2 ep nb => ⟨rfl, ?_⟩⟩)
  subst ep
  refine ⟨by show 1 ≤ sizeLine; decide, fun q hq => ⟨_, _, _, rfl, ?_⟩⟩
  have st2 := st1.ext nb.ext
  have eq : Gd.Ext G2 H2 (upd G2 q (.lst [.str ""])) (upd H2 q (.lst [.str ""])) := .new nb.ext.gh hq
  have st3 := st2.ext eq
  have dq : Dq K (upd G2 q (.lst [.str ""])) (.ref q) (statesD [[]]) := .lst upd_same (.cons (.str _) .nil)
  have st4 := ((st3.setR (v := .ref a2.p) (noOwn_of rfl) 2).set 3 dq).set 4 (Dq.int (K := K) (G := upd G2 q (.lst [.str ""])) 0)
  have i0 : IvL K ns (lawForm ns 0 4) 0 (((σ1.set 2 (some (.ref a2.p))).set 3 (some (.ref q))).set 4 (some (.int 0))) (upd G2 q (.lst [.str ""])) (upd H2 q (.lst [.str ""])) :=
    ⟨[[]], 0, a2, ⟨lawForm ns 0 4, [], [], []⟩, ⟨st4, (tab1.ext nb.ext).ext eq, nb.bk.kept eq.h eq.g eq.old, fun _ _ z => nomatch z⟩, ⟨rfl, rfl, rfl⟩, rfl, fun y hy => by rw [List.mem_singleton.mp hy]; rfl, Nat.le_refl _⟩
  refine tws_cons (raw_for2 (X := lx P w K mg base cdv A outer s0 H E) (List.range 22) (fun i => .int (i : Nat)) (j := 5) (n := 13) (gi_rng1 (n := 22) T.fr_range (ga_cons ge_int ga_nil) (by decide) (by decide)) (tg_nm 5 nd) st4 st4.len (IvL K ns (lawForm ns 0 4)) (fun _ _ _ _ ⟨_, _, _, _, h, _⟩ => h.sta.len) (fun _ _ _ _ ⟨_, _, _, _, h, _⟩ => h.sta.gh) (fun _ _ _ _ _ _ e ⟨st, at_, a, b, h, h3⟩ => ⟨st, at_, a, b, h.ext e, h3⟩)
    (fun _ _ _ _ _ ⟨st, at_, a, b, h, h3⟩ hl he => ⟨st, at_, a, b, ⟨h.sta.other no_A rfl hl he, h.tab, h.bk, h.gb⟩, h3⟩) i0 (fun i x σ5 G5 H5 v hx hI hv dv => ?_) (fun σ5 G5 H5 ⟨st, at_, a, b, s, hh, hbr, ok, hlen⟩ => ?_) (by decide) (passes_of rfl))
  · obtain ⟨hlt, ex⟩ := List.getElem?_eq_some_iff.mp hx
    rw [List.getElem_range] at ex
    subst ex
    rw [List.length_range] at hlt
    exact law_turn T tb hr h63 hrr hlt hI hv dv fun σ' H' h => h
  · exact law_last T hr hrr s (hh.bsz (by rw [hbr]; exact hrr) ok) hh hbr hQ
end
end Lw

namespace Lw
open PySem PySem.Spec L2 Gd
theorem endL {w : World} {K : PySem.W.Frag} {h : Heap} {mg : Str -> Option Value} {f : Addr} (X : K.In h) (G : h.Ns mainGlobals mg) (hf : mg ("law" : Str) = some (.ref f)) (c : seenG chkL fnL K = He.valD fnL) :
    ∃ fd : FuncData, (forall (s : Shared) (v : Value), BindsTo s fd ⟨[v], []⟩ [("script", v)]) ∧ forall base : Heap, (forall p, p ∈ tfL.map (He.cT K) -> LamX.TabB base mg p.1 p.2) -> FnOk PySem.Challenge.rw_restrules_k60_logbook.prog w K mg base (L2.CX PySem.Challenge.rw_restrules_k60_logbook.prog w) 10 f fd ["script"] (spL K (tabsN K tfL)) := by
  have T : Tp K mg := ⟨c, h, X, G⟩
  obtain ⟨fd, F⟩ := T.fn_law
  have e := hf.symm.trans T.gl_law
  cases e
  exact ⟨fd, fun s v => F.bindsA (ps := ["script"]) (fun _ _ _ _ _ _ us hl => match us, hl with | [_], _ => rfl) s [v] rfl, fun base tb => ok_law T F tb⟩
end Lw
open PySem PySem.W PySem.Calls PyProof.Rows
set_option maxHeartbeats 0 in
theorem PySem.Challenge.cw_restrules_k60_logbook_holds : PySem.Challenge.rw_restrules_k60_logbook.Holds := by
  w_on; o_law
  refine HandSHeadRun.head_any (r := OpenLaw.row PySem.Challenge.rw_restrules_k60_logbook) (q := view (OpenLaw.row PySem.Challenge.rw_restrules_k60_logbook).prog [52]) (H := Lw.hkL) (ob := Gd.obT 5 Lw.chkL Lw.fnL Lw.tfL) (M := 8000) (loose := Lw.looseL) (d := HandSHeadRun.topDef (OpenLaw.row PySem.Challenge.rw_restrules_k60_logbook).prog 52) (kwd := []) Gd.obT_eq
    (by kernel_rfl) (fun s => by kernel_rfl) Lw.runL (by kernel_rfl) (by kernel_rfl) (by kernel_rfl) (by rfl) (by first | assumption | decide +kernel) (by decide +kernel) ⟨rfl, rfl, rfl, rfl, rfl, by decide +kernel⟩ ?hw ?hc
  case hw => w_witness2
  case hc =>
    refine LamX.walk_ofTsE (l := PySem.Challenge.rw_restrules_k60_logbook) (CX := fun w => L2.CX PySem.Challenge.rw_restrules_k60_logbook.prog w) (n := 63) (k := 10) (x := "script") rfl (by decide) (by kernel_rfl) ⟨rfl, by decide, by decide⟩ ?F (fun w H s e s' h => Gd.no_out H s e s' h)
    intro w mg fa h Y G hmg0
    obtain ⟨K, KX, c, tf⟩ := Y
    have hmg : mg ("law" : PySem.Str) = some (.ref fa) := by
      have e : (HandSHeadRun.topDef (OpenLaw.row PySem.Challenge.rw_restrules_k60_logbook).prog 52).name = ("law" : PySem.Str) := by kernel_rfl
      rw [← e]
      exact hmg0
    obtain ⟨fd, hb, hF⟩ := Lw.endL (w := w) KX G hmg c
    refine ⟨K, KX, fd, Lw.tfL.map (He.cT K), _, fun p hp => ?_, fun p hp => ?_, fun p hp => ?_, hb, fun H a ns hl _ hT hS => ⟨a, ns, rfl, hl, hS, fun p hp => ?_, fun _ => rfl⟩, fun base _ _ tb => hF base tb⟩
    · obtain ⟨d, hd, rfl⟩ := List.mem_map.mp hp
      exact tf.empty d hd
    · obtain ⟨d, hd, rfl⟩ := List.mem_map.mp hp
      exact tf.out d hd
    · obtain ⟨d, hd, rfl⟩ := List.mem_map.mp hp
      exact codeHd_of_K KX (tf.hd d hd)
    · obtain ⟨d, hd, rfl⟩ := List.mem_map.mp hp
      exact hT (He.cT K d) (List.mem_map.mpr ⟨d, hd, rfl⟩)

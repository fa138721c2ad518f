import PyProof.Rows.All
import Wide.All
import OpenK.AllK
import Wide.FinOn
import PySem.Challenge.RW_cupladder_k70_cups_inferred_from_queues
import KE.KStateDown
import Lean
import HandS.ForMost
import HandS.WordsExc
import HandS.Defaults
import HandS.IsInst
import HandS.Wide
import HandS.DictTup
import HandS.Zip
import HandS.Set
import HandS.Strs
import HandS.OwnEq
import HandS.MakeKw
import HandS.Flow
import HandS.Flt
import HandS.Conv
import HandS.MakeKwOnly
import HandS.WordsDict
import KE.KTupSum
import KE.KDictZip
import HandS.Head0
import HandS.Head1
import HandS.Head2
import HandS.HeadEnd
import HandS.HeadHook1
import HandS.HeadHook2
import HandS.Style
import HandS.RaiseMore
import HandS.Iter
import KE.GoesEnum
import HandS.Remove
import HandS.SortKw
import HandS.TupAny
import HandS.NoneIn
import HandS.SetKeys
import KE.DataMinMax
import HandS.More
import HandS.Lambda
import HandS.EndTab
import HandS.HeadHook3
import HandS.HeadHook4
import HandS.ExcIs
import HandS.TryOnly
import KE.KSortKeySt
import HandS.ExcInit
import HandS.ExcField
import KE.SortData
import HandS.ExcValue
set_option Elab.async false
set_option linter.all false
set_option maxRecDepth 100000
set_option maxHeartbeats 4000000
namespace R
open PySem PySem.Spec PyProof.Rows L2
def lamMakers : List Str := ["_law_outcomes", "law", "_law_check_steps", "_law_check", "_law_check_errors", "_law_latest_first", "_law_right", "_law_simulations_checked", "_law_queues_checked", "_law_names_right", "_law_events_right"]
def tabEntry (K : PySem.W.Frag) : Addr × Obj → Option (Addr × Str)
  | (_, ⟨_, _, .fields vs, _⟩) => match (vs[1]? : Option Value), vs.getD 11 .none with
    | some (.str q _), .ref P => if lamMakers.contains q && (K.lookup P).isNone then some (P, q ++ ".<locals>." ++ "<lambda>") else none
    | _, _ => none
  | _ => none
def lamTab (K : PySem.W.Frag) : List (Addr × Str) := K.filterMap (tabEntry K)
def tyNs : List String := ["NoneType", "bool", "int", "str", "list", "tuple", "dict"]
def isB (K : PySem.W.Frag) (x : Str) : Bool := He.eqO (PySem.W.findIn K (.ref (He.ga K x)) "__class__") (some (some (.builtin "object.__class__"))) && (He.eqO (PySem.W.specialIn K (.builtin "object.__class__") "__get__") (some (some (.builtin "getset_descriptor.__get__"))) &&
  (decide (PySem.W.takesIn K (.builtin "object.__class__") = some true) && (decide (PySem.W.mroIn K (He.ga K x) (.type "object") = some true) && (He.eqO (PySem.W.findIn K (.ref (He.ga K x)) "__ne__") (some (some (.builtin "object.__ne__"))) &&
  tyNs.all fun t => decide (PySem.W.kitOne K (.type t) (.ref (He.ga K x)) = some false) && decide (PySem.W.subIn K (.type t) (.ref (He.ga K x)) = some false)))))
def errB (K : PySem.W.Frag) (D : Addr) : Bool := He.eqO (PySem.W.findIn K (.ref D) "__getattribute__") (some (some (.builtin "BaseException.__getattribute__"))) && (He.eqO (PySem.W.findIn K (.ref D) "__getattr__") (some none) && (decide (PySem.W.subIn K (.ref D) (.type "BaseException") = some true) && (PySem.W.hasDictIn K D &&
  (He.eqO (PySem.W.findIn K (.ref D) "__class__") (some (some (.builtin "object.__class__"))) && (He.eqO (PySem.W.specialIn K (.builtin "object.__class__") "__get__") (some (some (.builtin "getset_descriptor.__get__"))) && (decide (PySem.W.takesIn K (.builtin "object.__class__") = some true) && decide (PySem.W.mroIn K D (.type "object") = some true)))))))
def fldOf : Nat → Option (Str × Str)
  | 7 => some ("part", "cups")
  | 8 => some ("part", "sizes")
  | 9 => some ("part", "forward")
  | 10 => some ("what", "cups")
  | 11 => some ("what", "members")
  | _ => none
def clsK (k : Nat) : Nat := if k = 7 ∨ k = 8 ∨ k = 9 then 0 else if k = 10 ∨ k = 11 then 6 else k
def errIB (K : PySem.W.Frag) (ad : Nat → Addr) (n k : Nat) : Bool := errB K (ad k) && (((List.range n).all (fun j => decide (PySem.W.kitOne K (.ref (ad k)) (.ref (ad j)) = some (clsK k == j))) && decide (PySem.W.kitOne K (.ref (ad k)) (.type "ValueError") = some true)) && (match fldOf k with
  | some p => He.eqO (PySem.W.findIn K (.ref (ad k)) p.1) (some none)
  | none => true))
def iniB (K : PySem.W.Frag) (C : Addr) (f : Str) : Bool := (match K.lookup C with
  | some ⟨.type "type", _, .cls cd, sl⟩ => (match cd.mro, sl.toList with
    | .ref C2 :: bm, [_, _, _, _, some (.builtin n), _] => C2 == C && (n == "ValueError.__new__" && (!cd.hasDel && (cd.hasDict && PySem.HandSPX.refsVE bm)))
    | _, _ => false)
  | _ => false) && (He.eqO (PySem.W.findIn K (.ref C) "__setattr__") (some (some (.builtin "object.__setattr__"))) && (decide (PySem.W.subIn K (.ref C) (.type "BaseException") = some true) && (decide (PySem.W.typeIn K (.ref C) = some (.type "type")) && (PySem.W.keepIn K (.ref C) && (He.eqO (PySem.W.findIn K (.ref C) f) (some none) &&
  (He.eqO (PySem.W.findIn K (.ref C) "__init__") (some (some (.ref (He.ma K C "__init__")))) && decide (PySem.W.typeIn K (.ref (He.ma K C "__init__")) = some (.type "function"))))))))
def basB (K : PySem.W.Frag) (D : Addr) : Bool := PySem.W.keepIn K (.ref D) && (He.eqO (PySem.W.specialIn K (.ref D) "__getattribute__") (some (some (.builtin "type.__getattribute__"))) && (PySem.W.readsIn K D (.type "type") && (match PySem.W.findCls K (.ref D) (.type "type") "__init__" with
  | some (.val (.builtin n)) => n == "ValueError.__init__"
  | _ => false)))
def exB (is es : List Str) (ks : List Nat) (tf : List He.Defn) (ox : List (Str × Str)) (K : PySem.W.Frag) : Bool := is.all (isB K) && (ks.all (errIB K (fun k => He.ga K (es.getD k "")) 7) && ((lamTab K).all (fun e => tf.any fun p => (He.cT K p).2 == e.1) && ((tf.all fun p => decide ((lamTab K).lookup (He.cT K p).2 = some ((p.1 ++ ".<locals>.") ++ "<lambda>"))) && ox.all fun p => iniB K (He.ga K p.1) p.2 && basB K (He.ga K "CupLadderError"))))
end R
namespace R
open PySem PySem.Spec PyProof.Rows L2
def asY (g : Addr → Option Obj) (n : Nat) : List Addr := He.asD g n ++ [PySem.cStatics]
def obsY (n : Nat) (fa : List He.Fa) (fn : List He.DefD) (ts : List He.Tab) (tf : List He.Defn) (ex : PySem.W.Frag → Bool) (g : Addr → Option Obj) : He.AlX := (He.obsT fa fn ts (He.frT g (asY g n)), ex (He.frT g (asY g n)) && He.tabsB g tf (He.frT g (asY g n)))
theorem saysY_of {n : Nat} {fa : List He.Fa} {fn : List He.DefD} {ts : List He.Tab} {tf : List He.Defn} {ex : PySem.W.Frag → Bool} {w : World} {h : Heap} (e : obsY n fa fn ts tf ex h.get? = He.valX fn ts w) : He.SaysX fa fn ts tf ex w h (He.frT h.get? (asY h.get? n)) := by
  obtain ⟨e1, e2⟩ := Prod.mk.inj e
  obtain ⟨h1, h2⟩ := Bool.and_eq_true_iff.mp e2
  have tab : ∀ p ∈ tf, PySem.W.codeHdIn (He.frT h.get? (asY h.get? n)) (He.cT (He.frT h.get? (asY h.get? n)) p).1 (He.cT (He.frT h.get? (asY h.get? n)) p).2 = true ∧ ∃ o, h.get? (He.cT (He.frT h.get? (asY h.get? n)) p).2 = some o ∧ He.emptyTab o = true := fun p m => by
    obtain ⟨a, b⟩ := Bool.and_eq_true_iff.mp (List.all_eq_true.mp h2 p m)
    refine ⟨a, ?_⟩
    split at b
    · exact ⟨_, by assumption, b⟩
    · cases b
  refine ⟨e1, h1, fun p m => (tab p m).1, fun p m => ?_, fun p m => ?_⟩
  · obtain ⟨_, o, q, z⟩ := tab p m
    exact He.frT_none q z
  · obtain ⟨_, o, q, z⟩ := tab p m
    rw [q, He.emptyTab_eq z]
def hookY (n : Nat) (fa : List He.Fa) (fn : List He.DefD) (ts : List He.Tab) (tf : List He.Defn) (ex : PySem.W.Frag → Bool) : PySem.W.Hook where
  α := He.AlX
  obs := fun s => obsY n fa fn ts tf ex s.heap.get?
  val := fun w => He.valX fn ts w
  says := fun w h => ∃ K : PySem.W.Frag, K.In h ∧ He.SaysX fa fn ts tf ex w h K
  of := fun _ _ e => ⟨_, He.frT_in, saysY_of e⟩
  keeps := fun _ _ _ ⟨K, hK, c⟩ k => ⟨K, PySem.W.Frag.In.keeps hK k, ⟨c.t, c.more, c.hd, c.out, fun p hp => k _ _ (c.empty p hp)⟩⟩
theorem obsY_eq {n : Nat} {fa : List He.Fa} {fn : List He.DefD} {ts : List He.Tab} {tf : List He.Defn} {ex : PySem.W.Frag → Bool} {g : Addr → Option Obj} {s : Shared} (h : ∀ a, g a = s.heap.get? a) : obsY n fa fn ts tf ex g = (hookY n fa fn ts tf ex).obs s := by
  have e : g = s.heap.get? := funext h
  rw [e] <;> rfl
end R
section
namespace Cl
open PySem PySem.Spec PyProof.Rows L2 R
def topS (i : Nat) : Stmt := PySem.Challenge.pw_cupladder_k70_cups_inferred_from_queues.main.body.getD i (.Pass ⟨0, 0, 0, 0⟩)
abbrev s_is_name : Stmt := topS 10
abbrev s_is_name_list : Stmt := topS 11
abbrev s_require : Stmt := topS 14
abbrev s_CupFinder_init : Stmt := inClass (topS 15) 0
abbrev s_CupFinder_observe : Stmt := inClass (topS 15) 1
abbrev s_CupFinder_empty_known_cup : Stmt := inClass (topS 15) 2
abbrev s_CupFinder_learn_cup : Stmt := inClass (topS 15) 3
abbrev s_CupFinder_check_limits : Stmt := inClass (topS 15) 4
abbrev s_infer_cups : Stmt := topS 16
abbrev s_law_cell_at : Stmt := topS 18
abbrev s_law_mixed : Stmt := topS 19
abbrev s_law_source : Stmt := topS 20
abbrev s_law_draw : Stmt := topS 21
abbrev s_law_pick : Stmt := topS 22
abbrev s_law_name : Stmt := topS 23
abbrev s_law_names : Stmt := topS 24
abbrev s_law_row : Stmt := topS 25
abbrev s_law_member_count : Stmt := topS 26
abbrev s_law_step : Stmt := topS 27
abbrev s_law_queues : Stmt := topS 28
abbrev s_law_simple_row : Stmt := topS 29
abbrev s_law_expected : Stmt := topS 30
abbrev s_law_with_unit_cups : Stmt := topS 31
abbrev s_law_lists_are_new : Stmt := topS 32
abbrev s_law : Stmt := topS 33
section
end

-- uses cups blocks base rounds memcount rowL cycfz states per adv sim sim0 in names5 fdiff units nils lp0 lp cf
-- drop F_CupFinder_observe F_CupFinder_empty_known_cup F_CupFinder_learn_cup F_CupFinder_check_limits F_infer_cups
section
variable {P : Program} {w : World} {K : PySem.W.Frag} {mg : PySem.Str → Option Value} {base : Heap} {f : Addr} {cs : Cs}
end
abbrev dD_is_name : He.DefD := ⟨("is_name", none), "is_name", "is_name", defArgs s_is_name, defBody s_is_name, defScope s_is_name, [], []⟩
abbrev dD_is_name_list : He.DefD := ⟨("is_name_list", none), "is_name_list", "is_name_list", defArgs s_is_name_list, defBody s_is_name_list, defScope s_is_name_list, [], []⟩
abbrev dD_require : He.DefD := ⟨("require", none), "require", "require", defArgs s_require, defBody s_require, defScope s_require, [], []⟩
abbrev dD_CupFinder_init : He.DefD := ⟨("CupFinder", some "__init__"), "__init__", "CupFinder.__init__", defArgs s_CupFinder_init, defBody s_CupFinder_init, defScope s_CupFinder_init, [], []⟩
abbrev dD_CupFinder_observe : He.DefD := ⟨("CupFinder", some "observe"), "observe", "CupFinder.observe", defArgs s_CupFinder_observe, defBody s_CupFinder_observe, defScope s_CupFinder_observe, [], []⟩
abbrev dD_CupFinder_empty_known_cup : He.DefD := ⟨("CupFinder", some "empty_known_cup"), "empty_known_cup", "CupFinder.empty_known_cup", defArgs s_CupFinder_empty_known_cup, defBody s_CupFinder_empty_known_cup, defScope s_CupFinder_empty_known_cup, [], []⟩
abbrev dD_CupFinder_learn_cup : He.DefD := ⟨("CupFinder", some "learn_cup"), "learn_cup", "CupFinder.learn_cup", defArgs s_CupFinder_learn_cup, defBody s_CupFinder_learn_cup, defScope s_CupFinder_learn_cup, [], []⟩
abbrev dD_CupFinder_check_limits : He.DefD := ⟨("CupFinder", some "check_limits"), "check_limits", "CupFinder.check_limits", defArgs s_CupFinder_check_limits, defBody s_CupFinder_check_limits, defScope s_CupFinder_check_limits, [], []⟩
abbrev dD_infer_cups : He.DefD := ⟨("infer_cups", none), "infer_cups", "infer_cups", defArgs s_infer_cups, defBody s_infer_cups, defScope s_infer_cups, [], []⟩
abbrev dD_law_cell_at : He.DefD := ⟨("_law_cell_at", none), "_law_cell_at", "_law_cell_at", defArgs s_law_cell_at, defBody s_law_cell_at, defScope s_law_cell_at, [], []⟩
abbrev dD_law_mixed : He.DefD := ⟨("_law_mixed", none), "_law_mixed", "_law_mixed", defArgs s_law_mixed, defBody s_law_mixed, defScope s_law_mixed, [], []⟩
abbrev dD_law_source : He.DefD := ⟨("_law_source", none), "_law_source", "_law_source", defArgs s_law_source, defBody s_law_source, defScope s_law_source, [], []⟩
abbrev dD_law_draw : He.DefD := ⟨("_law_draw", none), "_law_draw", "_law_draw", defArgs s_law_draw, defBody s_law_draw, defScope s_law_draw, [], []⟩
abbrev dD_law_pick : He.DefD := ⟨("_law_pick", none), "_law_pick", "_law_pick", defArgs s_law_pick, defBody s_law_pick, defScope s_law_pick, [], []⟩
abbrev dD_law_name : He.DefD := ⟨("_law_name", none), "_law_name", "_law_name", defArgs s_law_name, defBody s_law_name, defScope s_law_name, [], []⟩
abbrev dD_law_names : He.DefD := ⟨("_law_names", none), "_law_names", "_law_names", defArgs s_law_names, defBody s_law_names, defScope s_law_names, [], []⟩
abbrev dD_law_row : He.DefD := ⟨("_law_row", none), "_law_row", "_law_row", defArgs s_law_row, defBody s_law_row, defScope s_law_row, [], []⟩
abbrev dD_law_member_count : He.DefD := ⟨("_law_member_count", none), "_law_member_count", "_law_member_count", defArgs s_law_member_count, defBody s_law_member_count, defScope s_law_member_count, [], []⟩
abbrev dD_law_step : He.DefD := ⟨("_law_step", none), "_law_step", "_law_step", defArgs s_law_step, defBody s_law_step, defScope s_law_step, [], []⟩
abbrev dD_law_queues : He.DefD := ⟨("_law_queues", none), "_law_queues", "_law_queues", defArgs s_law_queues, defBody s_law_queues, defScope s_law_queues, [], []⟩
abbrev dD_law_simple_row : He.DefD := ⟨("_law_simple_row", none), "_law_simple_row", "_law_simple_row", defArgs s_law_simple_row, defBody s_law_simple_row, defScope s_law_simple_row, [], []⟩
abbrev dD_law_expected : He.DefD := ⟨("_law_expected", none), "_law_expected", "_law_expected", defArgs s_law_expected, defBody s_law_expected, defScope s_law_expected, [], []⟩
abbrev dD_law_with_unit_cups : He.DefD := ⟨("_law_with_unit_cups", none), "_law_with_unit_cups", "_law_with_unit_cups", defArgs s_law_with_unit_cups, defBody s_law_with_unit_cups, defScope s_law_with_unit_cups, [], []⟩
abbrev dD_law_lists_are_new : He.DefD := ⟨("_law_lists_are_new", none), "_law_lists_are_new", "_law_lists_are_new", defArgs s_law_lists_are_new, defBody s_law_lists_are_new, defScope s_law_lists_are_new, [], []⟩
abbrev dD_law : He.DefD := ⟨("law", none), "law", "law", defArgs s_law, defBody s_law, defScope s_law, [], []⟩
def fn : List He.DefD := [dD_is_name, dD_is_name_list, dD_require, dD_CupFinder_init, dD_CupFinder_observe, dD_CupFinder_empty_known_cup, dD_CupFinder_learn_cup, dD_CupFinder_check_limits, dD_infer_cups, dD_law_cell_at, dD_law_mixed, dD_law_source, dD_law_draw, dD_law_pick, dD_law_name, dD_law_names, dD_law_row, dD_law_member_count, dD_law_step, dD_law_queues, dD_law_simple_row, dD_law_expected, dD_law_with_unit_cups, dD_law_lists_are_new, dD_law]
def fa : List He.Fa := [.glo "CupLadderError", .glo "InvalidState", .glo "CupFinder", .free "all", .free "bool", .free "enumerate", .free "int", .free "isinstance", .free "len", .free "list", .free "max", .free "min", .free "range", .free "set", .free "str", .free "sum", .str "LETTERS" "abcdefghijklmnopqrstuvwxyz", .int "MAX_CUPS" 30, .int "MAX_EXTRA" 30, .int "MAX_LETTERS" 8, .int "MAX_MEMBERS" 40, .int "MAX_QUEUES" 400, .int "MAX_SIZE" 9, .cls "CupFinder", .noat "CupFinder" "complete", .noat "CupFinder" "contents", .noat "CupFinder" "known_indices", .noat "CupFinder" "known_sizes", .noat "CupFinder" "queue", .glo "_law_mixed", .glo "_law_cell_at", .glo "_law_source", .glo "_law_draw", .glo "_law_pick", .glo "_law_row", .glo "_law_simple_row", .glo "_law_name", .glo "_law_names", .glo "_law_member_count", .glo "_law_step", .glo "_law_queues", .glo "require", .glo "is_name", .glo "is_name_list", .mkr "CupFinder", .meth "CupFinder" "empty_known_cup", .meth "CupFinder" "learn_cup", .meth "CupFinder" "observe", .meth "CupFinder" "check_limits", .glo "infer_cups", .glo "_law_expected", .glo "_law_lists_are_new", .glo "_law_with_unit_cups", .glo "law"]
def names0 : List PySem.Str := ["CupLadderError", "InvalidState", "MAX_CUPS", "MAX_SIZE", "MAX_EXTRA", "LETTERS", "MAX_LETTERS", "MAX_MEMBERS", "is_name", "is_name_list", "MAX_QUEUES", "require", "CupFinder", "infer_cups", "_law_cell_at", "_law_mixed", "_law_source", "_law_draw", "_law_pick", "_law_name", "_law_names", "_law_row", "_law_member_count", "_law_step", "_law_queues", "_law_simple_row", "_law_expected", "_law_with_unit_cups", "_law_lists_are_new"]
def names : List PySem.Str := names0
def isl : List PySem.Str := []
abbrev rowR : PySem.W.OpenRow := PySem.W.OpenLaw.row PySem.Challenge.rw_cupladder_k70_cups_inferred_from_queues
def esl : List PySem.Str := []
def oxl : List (PySem.Str × PySem.Str) := []
def ksl : List Nat := []
def tf : List He.Defn := [("law", none)]
abbrev hk : PySem.W.Hook := R.hookY 5 fa fn [] tf (R.exB isl esl ksl tf oxl)
def ob (s : PySem.W.SharedT) : He.AlX := R.obsY 5 fa fn [] tf (R.exB isl esl ksl tf oxl) (HandSHeadRun.getT s)
abbrev qv := PySem.W.view rowR.prog [33]
theorem run (w : World) : HandSHeadRun.RunEq rowR qv hk ob 9000 names w := by
  intro os
  kernel_rfl
end Cl
open PySem PySem.W PySem.Calls PyProof.Rows
end
namespace R
open PySem
inductive D where
  | non | bl (b : Bool) | int (i : Int) | str (s : Str)
  | lst (xs : List D) | tup (xs : List D)
  | rol (xs : List D)
  | ins (C : Nat) (ks : List Str) (vs : List D)
  | vol (k : Nat) (ps : List D)
  | dct (ks : List L2.Key) (ds : List D)
  | any
  | adr (a : Nat)
  | exn (k : Nat)
  | cod (q : Str)
  | obj (o : Nat → Nat → L2.HO) (p : Nat → L2.HO)
inductive OT where
  | leaf (d : D) | lst (ts : List OT) | tup (ts : List OT) | ins (C : Nat) (ks : List Str) (ts : List OT) | d0
  | dk (ks : List L2.Key) (ts : List OT)
  | xo (a d : Nat) (f v : Str)
inductive Rs where
  | fz (d : D) | nw (t : OT) | br (t : OT) | ex (t : OT)
abbrev Env := List (Option Rs)
abbrev DE := Env → (Rs → Prop) → Prop
abbrev DT := Env → (Bool → Prop) → Prop
abbrev DA := Env → (List Rs → Prop) → Prop
structure DK where
  nx : Env → Prop
  rt : Rs → Env → Prop
  bk : Env → Prop := fun _ => False
  ct : Env → Prop := fun _ => False
abbrev DS := Env → DK → Prop
abbrev DI := Env → (Bool → List Rs → Prop) → Prop
abbrev Spec := Env → (Rs → Env → Prop) → Prop

mutual
inductive Fz : OT → D → Prop where
  | leaf (d : D) : Fz (.leaf d) d
  | lst {ts : List OT} {ds : List D} : FzAll ts ds → Fz (.lst ts) (.lst ds)
  | tup {ts : List OT} {ds : List D} : FzAll ts ds → Fz (.tup ts) (.tup ds)
  | ins {C : Nat} {ks : List Str} {ts : List OT} {ds : List D} : FzAll ts ds → Fz (.ins C ks ts) (.ins C ks ds)
  | d0 (k : Nat) (ps : List D) : Fz .d0 (.vol (k + 1) ps)
  | dk {ks : List L2.Key} {ts : List OT} {ds : List D} : FzAll ts ds → Fz (.dk ks ts) (.dct ks ds)
inductive FzAll : List OT → List D → Prop where
  | nil : FzAll [] []
  | cons {t : OT} {d : D} {ts : List OT} {ds : List D} : Fz t d → FzAll ts ds → FzAll (t :: ts) (d :: ds)
end
theorem FzAll.leafs : ∀ ds : List D, FzAll (ds.map OT.leaf) ds
  | [] => .nil
  | d :: ds => .cons (.leaf d) (FzAll.leafs ds)
def OT.kids : OT → Option (List OT)
  | .leaf (.lst ds) => some (ds.map .leaf)
  | .leaf (.tup ds) => some (ds.map .leaf)
  | .leaf (.rol ds) => some (ds.map .leaf)
  | .lst ts => some ts
  | .tup ts => some ts
  | _ => none
def leaves : List OT → Option (List D)
  | [] => some []
  | .leaf d :: r => (leaves r).map (d :: ·)
  | _ :: _ => none
theorem leaves_map : ∀ ds : List D, leaves (ds.map OT.leaf) = some ds
  | [] => rfl
  | d :: r => by
    show (leaves (r.map OT.leaf)).map (d :: ·) = _
    rw [leaves_map r] <;> rfl
def Rs.t : Rs → OT
  | .fz d => .leaf d
  | .nw t => t
  | .br t => t
  | .ex t => t
def brOf : OT → Rs
  | .leaf d => .fz d
  | t => .br t
def exOf : OT → Rs
  | .leaf d => .fz d
  | t => .ex t
def nwOf : OT → Rs
  | .leaf d => .fz d
  | t => .nw t
def Rs.arg : Rs → Rs
  | .fz d => .fz d
  | .nw t => .ex t
  | .br t => .ex t
  | .ex t => .ex t
def Rs.rd : Rs → Rs
  | .fz d => .fz d
  | .nw t => .br t
  | .br t => .br t
  | .ex t => .ex t
def Rs.kid (r : Rs) (t : OT) : Rs := match r with
  | .ex _ => exOf t
  | _ => brOf t
def Rs.own : Rs → Prop
  | .fz _ => True
  | .nw _ => True
  | _ => False
def Rs.slot : Rs → Prop
  | .br _ => False
  | _ => True
def Rs.item : Rs → Option OT
  | .fz d => some (.leaf d)
  | .nw t => some t
  | _ => none
def items : List Rs → Option (List OT)
  | [] => some []
  | r :: rs => r.item.bind fun t => (items rs).map (t :: ·)
def Rs.els (r : Rs) (isL : Bool) : Option (List D) := match r with
  | .fz (.lst ds) => if isL then some ds else none
  | .fz (.tup ds) => if isL then none else some ds
  | .br (.lst ts) => if isL then leaves ts else none
  | .ex (.lst ts) => if isL then leaves ts else none
  | .br (.tup ts) => if isL then none else leaves ts
  | .ex (.tup ts) => if isL then none else leaves ts
  | _ => none
mutual
def OT.fzd : OT → Option D
  | .leaf d => some d
  | .lst ts => (fzdAll ts).map .lst
  | .tup ts => (fzdAll ts).map .tup
  | .ins C ks ts => (fzdAll ts).map (.ins C ks)
  | .d0 => none
  | .xo _ _ _ _ => none
  | .dk ks ts => (fzdAll ts).map (.dct ks)
def fzdAll : List OT → Option (List D)
  | [] => some []
  | t :: ts => t.fzd.bind fun d => (fzdAll ts).map (d :: ·)
end
mutual
theorem Fz.of : ∀ {t : OT} {d : D}, t.fzd = some d → Fz t d
  | .leaf d, e, h => by
    have h : some d = some e := h
    cases h
    exact .leaf d
  | .lst ts, e, h => by
    have h : (fzdAll ts).map .lst = some e := by rw [OT.fzd] at h; exact h
    cases q : fzdAll ts with
    | none => rw [q] at h; cases h
    | some ds => rw [q] at h; cases h; exact .lst (FzAll.of q)
  | .tup ts, e, h => by
    have h : (fzdAll ts).map .tup = some e := by rw [OT.fzd] at h; exact h
    cases q : fzdAll ts with
    | none => rw [q] at h; cases h
    | some ds => rw [q] at h; cases h; exact .tup (FzAll.of q)
  | .ins C ks ts, e, h => by
    have h : (fzdAll ts).map (.ins C ks) = some e := by rw [OT.fzd] at h; exact h
    cases q : fzdAll ts with
    | none => rw [q] at h; cases h
    | some ds => rw [q] at h; cases h; exact .ins (FzAll.of q)
  | .d0, _, h => by rw [OT.fzd] at h; cases h
  | .xo _ _ _ _, _, h => by rw [OT.fzd] at h; cases h
  | .dk ks ts, e, h => by
    have h : (fzdAll ts).map (.dct ks) = some e := by rw [OT.fzd] at h; exact h
    cases q : fzdAll ts with
    | none => rw [q] at h; cases h
    | some ds => rw [q] at h; cases h; exact .dk (FzAll.of q)
theorem FzAll.of : ∀ {ts : List OT} {ds : List D}, fzdAll ts = some ds → FzAll ts ds
  | [], _, h => by rw [fzdAll] at h; cases h; exact .nil
  | t :: ts, e, h => by
    rw [fzdAll] at h
    cases q : t.fzd with
    | none => rw [q] at h; cases h
    | some d =>
      rw [q] at h
      cases q2 : fzdAll ts with
      | none => rw [q2] at h; cases h
      | some ds => rw [q2] at h; cases h; exact .cons (Fz.of q) (FzAll.of q2)
end
theorem fzdAll_map : ∀ ds : List D, fzdAll (ds.map OT.leaf) = some ds
  | [] => by rw [List.map_nil, fzdAll]
  | d :: ds => by rw [List.map_cons, fzdAll, fzdAll_map ds, OT.fzd] <;> rfl
theorem fzd_lst (ds : List D) : (OT.lst (ds.map .leaf)).fzd = some (.lst ds) := by rw [OT.fzd, fzdAll_map] <;> rfl
theorem fzd_tup (ds : List D) : (OT.tup (ds.map .leaf)).fzd = some (.tup ds) := by rw [OT.fzd, fzdAll_map] <;> rfl
def Rs.ffz : Rs → Rs
  | .nw t => match t.fzd with
    | some d => .fz d
    | none => .nw t
  | r => r
def ixN' (n : Nat) (i : Int) : Option Nat := if 0 ≤ i then (if i < n then some i.toNat else none) else if -(n : Int) ≤ i then some (i + n).toNat else none
def at' {α : Type} (xs : List α) (i : Int) : Option α := (ixN' xs.length i).bind fun j => xs[j]?
theorem at_nat {α : Type} {xs : List α} {j : Nat} {v : α} (h : xs[j]? = some v) : at' xs (j : Int) = some v := by
  have hj : j < xs.length := (List.getElem?_eq_some_iff.mp h).1
  unfold at' ixN'
  rw [if_pos (by omega), if_pos (by omega)]
  simpa using h
theorem at_map {α β : Type} (f : α → β) (xs : List α) (i : Int) : at' (xs.map f) i = (at' xs i).map f := by
  unfold at'
  rw [List.length_map]
  cases ixN' xs.length i with
  | none => rfl
  | some j => simp
end R
namespace R
open PySem
def mVar (i : Nat) : DE := fun env Q => ∃ r, env[i]? = some (some r) ∧ Q r.rd
def mC (d : D) : DE := fun _ Q => Q (.fz d)
def i2 (C : Int → Int → Prop) (g : Int → Int → D) : Rs → Rs → (Rs → Prop) → Prop
  | .fz (.int i), .fz (.int j), Q => C i j ∧ Q (.fz (g i j))
  | _, _, _ => False
def mOp (R : Rs → Rs → (Rs → Prop) → Prop) (a b : DE) : DE := fun env Q => a env fun x => b env fun y => R x.ffz y.ffz Q
def mUn (R : Rs → (Rs → Prop) → Prop) (a : DE) : DE := fun env Q => a env fun x => R x.ffz Q
def oSub := i2 (fun _ _ => True) fun i j => .int (i - j)
def oMod := i2 (fun _ j => 0 < j) fun i j => .int (i % j)
def oDiv := i2 (fun _ j => 0 < j ∧ j.natAbs.log2 < 9000) fun i j => .int (i / j)
def oPow := i2 (fun i j => 0 ≤ j ∧ j ≤ 1000000 ∧ i.natAbs < 2 ^ 64) fun i j => .int (i ^ j.toNat)
def oLt := i2 (fun _ _ => True) fun i j => .bl (decide (i < j))
def oLe := i2 (fun _ _ => True) fun i j => .bl (decide (i ≤ j))
def oGt := i2 (fun _ _ => True) fun i j => .bl (decide (j < i))
def oGe := i2 (fun _ _ => True) fun i j => .bl (decide (j ≤ i))
def sizeL : Nat := 16777216
def oAdd : Rs → Rs → (Rs → Prop) → Prop
  | .fz (.int i), .fz (.int j), Q => Q (.fz (.int (i + j)))
  | .fz (.str i), .fz (.str j), Q => i.length + j.length ≤ sizeL ∧ Q (.fz (.str (i ++ j)))
  | x, y, Q => (∃ ds es, x.els true = some ds ∧ y.els true = some es ∧ ds.length + es.length ≤ sizeL ∧ Q (.nw (.lst ((ds ++ es).map .leaf)))) ∨
    ∃ ds es, x.els false = some ds ∧ y.els false = some es ∧ ds ≠ [] ∧ es ≠ [] ∧ ds.length + es.length ≤ sizeL ∧ Q (.nw (.tup ((ds ++ es).map .leaf)))
def oMul : Rs → Rs → (Rs → Prop) → Prop
  | .fz (.int i), .fz (.int j), Q => ((-(2 ^ 64) < i ∧ i < 2 ^ 64) ∨ (-(2 ^ 64) < j ∧ j < 2 ^ 64)) ∧ Q (.fz (.int (i * j)))
  | x, .fz (.int k), Q => ∃ ds, x.els true = some ds ∧ -(2 ^ 63) ≤ k ∧ k < 2 ^ 63 ∧ ds.length * k.toNat ≤ sizeL ∧ Q (.nw (.lst ((List.replicate k.toNat ds).flatten.map .leaf)))
  | _, _, _ => False
def oNeg : Rs → (Rs → Prop) → Prop
  | .fz (.int i), Q => Q (.fz (.int (-i)))
  | _, _ => False
def mT (a : DE) : DT := fun env Q => a env fun
  | .fz (.bl b) => Q b
  | _ => False
def mAnd (t u : DT) : DT := fun env Q => t env fun c => if c = true then u env Q else Q false
def mOr (t u : DT) : DT := fun env Q => t env fun c => if c = true then Q true else u env Q
def mNot (t : DT) : DT := fun env Q => t env fun c => Q (!c)
def mAndV (a b : DE) : DE := fun env Q => a env fun
  | .fz (.bl c) => if c = true then b env Q else Q (.fz (.bl false))
  | _ => False
def mOrV (a b : DE) : DE := fun env Q => a env fun
  | .fz (.bl c) => if c = true then Q (.fz (.bl true)) else b env Q
  | _ => False
def mNotV (a : DE) : DE := fun env Q => a env fun
  | .fz (.bl c) => Q (.fz (.bl (!c)))
  | _ => False
def mIf (t : DT) (a b : DE) : DE := fun env Q => t env fun c => if c = true then a env Q else b env Q
def mNil : DA := fun _ Q => Q []
def mCons (a : DE) (r : DA) : DA := fun env Q => a env fun x => r env fun xs => Q (x :: xs)
def mLst (a : DA) : DE := fun env Q => a env fun rs => ∃ ts, items rs = some ts ∧ ts.length ≤ sizeL ∧ Q (.nw (.lst ts))
def mTup (a : DA) : DE := fun env Q => a env fun rs => ∃ ts, items rs = some ts ∧ ts.length ≤ sizeL ∧ Q (.nw (.tup ts))
def mFz (a : DE) : DE := fun env Q => a env fun
  | .fz d => Q (.fz d)
  | .nw t => ∃ d, Fz t d ∧ Q (.fz d)
  | _ => False
def oIx : Rs → Rs → (Rs → Prop) → Prop
  | .fz (.lst ds), .fz (.int i), Q => ∃ d, at' ds i = some d ∧ Q (.fz d)
  | .fz (.tup ds), .fz (.int i), Q => ∃ d, at' ds i = some d ∧ Q (.fz d)
  | .fz (.rol ds), .fz (.int i), Q => ∃ d, at' ds i = some d ∧ Q (.fz d)
  | .fz (.str z), .fz (.int i), Q => z.length ≤ sizeL ∧ ∃ c, at' z.cps.toList i = some c ∧ Q (.fz (.str ⟨#[c]⟩))
  | .fz (.vol 0 _), .fz (.int i), Q => 0 ≤ i ∧ i < 3 ∧ ∀ x, Q (.fz (.int x))
  | r, .fz (.int i), Q => ∃ ts t, r.t.kids = some ts ∧ at' ts i = some t ∧ Q (r.kid t)
  | _, _, _ => False
end R
namespace R
open PySem
abbrev DO := Env → (Option Int → Prop) → Prop
def mNoP : DO := fun _ Q => Q none
def mPart (a : DE) : DO := fun env Q => a env fun
  | .fz (.int i) => Q (some i)
  | _ => False
def sIx' (n d : Nat) : Option Int → Nat
  | none => d
  | some v => if v < 0 then (v + (n : Int)).toNat else min v.toNat n
def cut' {α : Type} (xs : List α) (lo hi : Option Int) : List α := (xs.drop (sIx' xs.length 0 lo)).take (sIx' xs.length xs.length hi - sIx' xs.length 0 lo)
def oSl (r : Rs) (lo hi : Option Int) (Q : Rs → Prop) : Prop := match r with
  | .fz (.tup ds) => (cut' ds lo hi).length < ds.length ∧ Q (.fz (.tup (cut' ds lo hi)))
  | r => ∃ ds, r.els true = some ds ∧ Q (.nw (.lst ((cut' ds lo hi).map .leaf)))
def mSl (a : DE) (lo hi : DO) : DE := fun env Q => a env fun x => lo env fun l => hi env fun h => oSl x.ffz l h Q
def mB (R : List Rs → (Rs → Prop) → Prop) (a : DA) : DE := fun env Q => a env fun xs => R (xs.map Rs.ffz) Q
def oLen : List Rs → (Rs → Prop) → Prop
  | [.fz (.str z)], Q => z.length ≤ sizeL ∧ Q (.fz (.int z.length))
  | [r], Q => ∃ ts, r.t.kids = some ts ∧ Q (.fz (.int ts.length))
  | _, _ => False
def oInt1 : List Rs → (Rs → Prop) → Prop
  | [.fz (.int i)], Q => Q (.fz (.int i))
  | [.fz (.bl b)], Q => Q (.fz (.int (if b then 1 else 0)))
  | _, _ => False
def oMin2 : List Rs → (Rs → Prop) → Prop
  | [.fz (.int i), .fz (.int j)], Q => Q (.fz (.int (min i j)))
  | _, _ => False
def oMin3 : List Rs → (Rs → Prop) → Prop
  | [.fz (.int i), .fz (.int j), .fz (.int k)], Q => Q (.fz (.int (min (min i j) k)))
  | _, _ => False
def oMax2 : List Rs → (Rs → Prop) → Prop
  | [.fz (.int i), .fz (.int j)], Q => Q (.fz (.int (max i j)))
  | _, _ => False
def D.int? : D → Option Int
  | .int i => some i
  | _ => none
def D.bl? : D → Option Bool
  | .bl i => some i
  | _ => none
def D.str? : D → Option Str
  | .str i => some i
  | _ => none
def allOf {α : Type} (f : D → Option α) : List D → Option (List α)
  | [] => some []
  | d :: ds => (f d).bind fun x => (allOf f ds).map (x :: ·)
theorem allOf_map {α : Type} {f : D → Option α} {g : α → D} (h : ∀ x, f (g x) = some x) : ∀ xs : List α, allOf f (xs.map g) = some xs
  | [] => rfl
  | x :: xs => by
    rw [List.map_cons, allOf, h, allOf_map h xs] <;> rfl
theorem ints_of (xs : List Int) : allOf D.int? (xs.map D.int) = some xs := allOf_map (f := D.int?) (g := D.int) (fun _ => rfl) xs
theorem bls_of (xs : List Bool) : allOf D.bl? (xs.map D.bl) = some xs := allOf_map (f := D.bl?) (g := D.bl) (fun _ => rfl) xs
theorem strs_of (xs : List Str) : allOf D.str? (xs.map D.str) = some xs := allOf_map (f := D.str?) (g := D.str) (fun _ => rfl) xs
theorem int?_inv {d : D} {x : Int} (h : d.int? = some x) : d = .int x := by cases d <;> cases h <;> rfl
theorem bl?_inv {d : D} {x : Bool} (h : d.bl? = some x) : d = .bl x := by cases d <;> cases h <;> rfl
theorem str?_inv {d : D} {x : Str} (h : d.str? = some x) : d = .str x := by cases d <;> cases h <;> rfl
theorem allOf_inv {α : Type} {f : D → Option α} {g : α → D} (h : ∀ {d x}, f d = some x → d = g x) : ∀ {ds : List D} {xs : List α}, allOf f ds = some xs → ds = xs.map g
  | [], xs, e => by cases e <;> rfl
  | d :: ds, xs, e => by
    rw [allOf] at e
    cases q : f d with
    | none => rw [q] at e; cases e
    | some x =>
      rw [q] at e
      cases q2 : allOf f ds with
      | none => rw [q2] at e; cases e
      | some ys =>
        rw [q2] at e
        cases e
        rw [h q, allOf_inv h q2] <;> rfl
def oSum : List Rs → (Rs → Prop) → Prop
  | [.fz (.tup ds)], Q => ∃ ns, allOf D.int? ds = some ns ∧ Q (.fz (.int ns.sum))
  | [r], Q => ∃ ds ns, r.els true = some ds ∧ allOf D.int? ds = some ns ∧ Q (.fz (.int ns.sum))
  | _, _ => False
def oAll : List Rs → (Rs → Prop) → Prop
  | [r], Q => ∃ ds bs, r.els true = some ds ∧ allOf D.bl? ds = some bs ∧ Q (.fz (.bl (bs.all id)))
  | _, _ => False
def oMaxL : List Rs → (Rs → Prop) → Prop
  | [r], Q => ∃ ds ns, r.els true = some ds ∧ allOf D.int? ds = some ns ∧ ns ≠ [] ∧ ∀ m, m ∈ ns → (∀ y, y ∈ ns → y ≤ m) → Q (.fz (.int m))
  | _, _ => False
def oList : List Rs → (Rs → Prop) → Prop
  | [.fz (.lst ds)], Q => Q (.nw (.lst (ds.map .leaf)))
  | [.fz (.tup ds)], Q => Q (.nw (.lst (ds.map .leaf)))
  | [r], Q => ∃ ds, r.els true = some ds ∧ Q (.nw (.lst (ds.map .leaf)))
  | _, _ => False
end R
namespace R
open PySem
def mSeq (a b : DS) : DS := fun env D => a env { D with nx := fun e => b e D }
def mNext : DS := fun env D => D.nx env
def mIfS (t : DT) (a b : DS) : DS := fun env D => t env fun c => if c = true then a env D else b env D
def mRet (a : DE) : DS := fun env D => a env fun r => r.own ∧ D.rt r env
def mRetN : DS := fun env D => D.rt (.fz .non) env
def mDrop (a : DE) : DS := fun env D => a env fun _ => D.nx env
def mBreak : DS := fun env D => D.bk env
def mCont : DS := fun env D => D.ct env
def mNever : DS := fun _ _ => False
def mFzS (i : Nat) (a : DS) : DS := fun env D => ∃ t d, env[i]? = some (some (.nw t)) ∧ Fz t d ∧ a (env.set i (some (.fz d))) D
def mAug (i : Nat) (R : Rs → Rs → (Rs → Prop) → Prop) (a : DE) : DS := fun env D => ∃ x, env[i]? = some (some (.fz x)) ∧ a env fun y => R (.fz x) y.ffz fun r => r.slot ∧ D.nx (env.set i (some r))
def mWhile (t : DT) (a : DS) : DS := fun env D => ∃ Wm : Nat → Env → Prop, (∃ m, Wm m env) ∧ ∀ m e, Wm m e → t e fun c =>
  if c = true then a e { D with nx := fun e' => ∃ m', m' < m ∧ Wm m' e', ct := fun e' => ∃ m', m' < m ∧ Wm m' e', bk := D.nx } else D.nx e
abbrev DG := Env → Rs → (Env → Prop) → Prop
def gN (i : Nat) : DG := fun env r Q => r.slot ∧ Q (env.set i (some r))
def gsN : List DG → List Rs → Env → (Env → Prop) → Prop
  | [], [], env, Q => Q env
  | g :: gs, r :: rs, env, Q => g env r fun e => gsN gs rs e Q
  | _, _, _, _ => False
def Rs.parts : Rs → Option (List Rs)
  | .fz (.tup ds) => some (ds.map .fz)
  | .nw (.tup ts) => some (ts.map nwOf)
  | .ex (.tup ts) => some (ts.map exOf)
  | _ => none
def gT (gs : List DG) : DG := fun env r Q => ∃ rs, r.parts = some rs ∧ rs.length = gs.length ∧ gsN gs rs env Q
def mAsgG (g : DG) (a : DE) : DS := fun env D => a env fun r => g env r D.nx
def Rs.stays : Rs → Bool
  | .fz _ => true
  | .ex _ => true
  | _ => false
def mItL (a : DE) : DI := fun env Q => a env fun r => ∃ ts, r.ffz.t.kids = some ts ∧ Q r.ffz.stays (ts.map (Rs.kid r.ffz))
def rng (lo : Int) (n : Nat) : List Rs := (List.range n).map fun (i : Nat) => Rs.fz (.int (lo + (i : Int)))
def mItR1 (a : DE) : DI := fun env Q => a env fun
  | .fz (.int n) => -(2 ^ 62) ≤ n ∧ n < 2 ^ 62 ∧ Q true (rng 0 n.toNat)
  | _ => False
def mFor (it : DI) (g : DG) (a : DS) : DS := fun env D => it env fun st xs => st = true ∧ ∃ Pv : Nat → Env → Prop, Pv 0 env ∧
  (∀ i r e, xs[i]? = some r → Pv i e → g e r fun e' => a e' { D with nx := Pv (i + 1), ct := Pv (i + 1), bk := D.nx }) ∧ ∀ e, Pv xs.length e → D.nx e
def Env.wipe (env : Env) : List Nat → Env
  | [] => env
  | i :: is => (Env.wipe env is).set i none
def Env.lent (env : Env) : Env := env.map (Option.map Rs.arg)
def mYes : DT := fun _ Q => Q true
def mLc (it : DI) (g : DG) (t : DT) (e : DE) (ws : List Nat) : DE := fun env Q => it env fun _ xs => ∃ Pv : Nat → List OT → Prop, Pv 0 [] ∧
  (∀ i r acc, xs[i]? = some r → Pv i acc → acc.length < sizeL ∧ g (Env.wipe (Env.lent env) ws) r.arg fun e1 => e1.length = env.length ∧ t e1 fun b => if b = true then e e1 fun y => ∃ ty, y.item = some ty ∧ Pv (i + 1) (acc ++ [ty]) else Pv (i + 1) acc) ∧
  ∀ acc, Pv xs.length acc → Q (.nw (.lst acc))
abbrev Spec1 := Env → (Rs → Prop) → Prop
def Spec1.io (F : Spec1) : Spec := fun ss Q => F ss fun r => Q r (ss.map fun _ => none)
def Rs.lend (r : Rs) : Rs := r.ffz.arg
def args (rs : List Rs) (dv : List D) : Env := rs.map (fun r => some r.lend) ++ dv.map fun d => some (.fz d)
def mCall (n : Nat) (F : Spec1) (a : DA) (dv : List D) : DE := fun env Q => a env fun rs => (args rs dv).length = n ∧ F (args rs dv) fun r => r.own ∧ Q r
def OT.inst : OT → Option (Nat × List Str × List OT)
  | .leaf (.ins C ks ds) => some (C, ks, ds.map .leaf)
  | .ins C ks ts => some (C, ks, ts)
  | _ => none
def mMeth (n : Nat) (C : Nat) (m : Str) (F : Spec1) (o : DE) (a : DA) (dv : List D) : DE := fun env Q => o env fun x => ∃ ks ts, x.ffz.t.inst = some (C, ks, ts) ∧ ks.contains m = false ∧ a env fun rs => (args rs dv).length + 1 = n ∧ F (some x.lend :: args rs dv) fun r => r.own ∧ Q r
def mMake (n : Nat) (C : Nat) (F : Spec) (a : DA) (dv : List D) : DE := fun env Q => a env fun rs => (args rs dv).length + 1 = n ∧ F (some (.nw (.ins C [] [])) :: args rs dv) fun r ss => r = .fz .non ∧ ∃ t, ss.head? = some (some (.nw t)) ∧ Q (.nw t)
def assoc (f : Str) : List Str → List OT → Option OT
  | k :: ks, t :: ts => if k = f then some t else assoc f ks ts
  | _, _ => none
def mFld (C : Nat) (f : Str) (o : DE) : DE := fun env Q => o env fun x => ∃ ks ts t, x.ffz.t.inst = some (C, ks, ts) ∧ assoc f ks ts = some t ∧ Q (x.ffz.kid t)
def outs (pr : List Nat) (n : Nat) (e : Env) : Env := (List.range n).map fun i => if i ∈ pr then (e[i]?).join else none
abbrev DP := Env → (Nat → List Nat → Prop) → Prop
def OT.kid? : OT → Nat → Option OT
  | .lst ts, j => ts[j]?
  | .tup ts, j => ts[j]?
  | .ins _ _ ts, j => ts[j]?
  | .dk _ ts, j => ts[j]?
  | _, _ => none
def OT.set? : OT → Nat → OT → OT
  | .lst ts, j, c => .lst (ts.set j c)
  | .tup ts, j, c => .tup (ts.set j c)
  | .ins C ks ts, j, c => .ins C ks (ts.set j c)
  | .dk ks ts, j, c => .dk ks (ts.set j c)
  | t, _, _ => t
def OT.at? : OT → List Nat → Option OT
  | t, [] => some t
  | t, j :: js => (t.kid? j).bind fun c => c.at? js
def OT.put : OT → List Nat → OT → OT
  | _, [], s => s
  | t, j :: js, s => match t.kid? j with
    | some c => t.set? j (c.put js s)
    | none => t
def tree (env : Env) (i : Nat) (p : List Nat) : Option OT := match env[i]? with
  | some (some (.nw t)) => t.at? p
  | _ => none
def put (env : Env) (i : Nat) (p : List Nat) (s : OT) : Env := match env[i]? with
  | some (some (.nw t)) => env.set i (some (.nw (t.put p s)))
  | _ => env
def plN (i : Nat) : DP := fun env Q => (∃ t, env[i]? = some (some (.nw t))) ∧ Q i []
def idx (f : Str) : List Str → Option Nat
  | [] => none
  | k :: ks => if k = f then some 0 else (idx f ks).map (· + 1)
def plF (C : Nat) (f : Str) (a : DP) : DP := fun env Q => a env fun i p => ∃ ks ts j, tree env i p = some (.ins C ks ts) ∧ idx f ks = some j ∧ Q i (p ++ [j])
def plI (a : DP) (b : DE) : DP := fun env Q => a env fun i p => b env fun
  | .fz (.int k) => ∃ ts j, tree env i p = some (.lst ts) ∧ ixN' ts.length k = some j ∧ Q i (p ++ [j])
  | _ => False
def mAppend (a : DP) (e : DE) : DS := fun env D => a env fun i p => ∃ ts, tree env i p = some (.lst ts) ∧ ts.length < sizeL ∧ e env fun r => ∃ t, r.item = some t ∧ D.nx (put env i p (.lst (ts ++ [t])))
def mSetI (a : DP) (k e : DE) : DS := fun env D => e env fun r => a env fun i p => k env fun
  | .fz (.int n) => ∃ ts j t, r.item = some t ∧ tree env i p = some (.lst ts) ∧ ixN' ts.length n = some j ∧ D.nx (put env i p (.lst (ts.set j t)))
  | _ => False
def mSetVol (s k e : DE) : DS := fun env D => e env fun
  | .fz (.int _) => s env fun
    | .fz (.vol 0 _) => k env fun
      | .fz (.int n) => 0 ≤ n ∧ n < 3 ∧ D.nx env
      | _ => False
    | _ => False
  | _ => False
def mSrc (a : DE) : DE := fun env Q => a env fun
  | .nw (.lst [.leaf (.int _), .leaf (.int _), .leaf (.int _)]) => Q (.fz (.vol 0 []))
  | _ => False
def putK (f : Str) (t : OT) : List Str → List OT → List Str × List OT
  | k :: ks, u :: us => if k = f then (k :: ks, t :: us) else ((k :: (putK f t ks us).1), (u :: (putK f t ks us).2))
  | _, _ => ([f], [t])
end R
namespace R
open PySem
def D.pd : Nat → D → Option PyData
  | _, .non => some .none
  | _, .bl b => some (.bool b)
  | _, .int i => some (.int i)
  | _, .str x => if PyData.strOk x = true then some (.str x) else none
  | n + 1, .lst ds => (allOf (D.pd n) ds).map .list
  | n + 1, .tup ds => (allOf (D.pd n) ds).map .tuple
  | n + 1, .rol ds => (allOf (D.pd n) ds).map .list
  | _, _ => none
def allOfT {α : Type} (f : OT → Option α) : List OT → Option (List α)
  | [] => some []
  | t :: ts => (f t).bind fun x => (allOfT f ts).map (x :: ·)
def OT.pd : Nat → OT → Option PyData
  | n, .leaf d => d.pd n
  | n + 1, .lst ts => (allOfT (OT.pd n) ts).map .list
  | n + 1, .tup ts => (allOfT (OT.pd n) ts).map .tuple
  | _, _ => none
def oEq (neg : Bool) (x y : Rs) (Q : Rs → Prop) : Prop := ∃ p q, x.t.pd 8 = some p ∧ y.t.pd 8 = some q ∧ Q (.fz (.bl (PyData.eqv p q != neg)))
end R
namespace R
open PySem
def nI (n : Nat) : D := .int (n : Int)
def nL (ns : List Nat) : D := .lst (ns.map nI)
def nT (ns : List Nat) : D := .tup (ns.map nI)
def pk (l : List Nat) (i : Nat) : Nat := l.getD i 0
def fillN (e : Nat → Nat × List Nat) : Nat → List Nat × List Nat → List Nat × List Nat
  | 0, p => p
  | n + 1, p => fillN e n (p.1 ++ [pk p.2 (e p.2.length).1], (e p.2.length).2.map (pk p.2))
def ent (sz fw : List Nat) : Nat → Nat → Nat × List Nat
  | 0, len => (0, List.range' 1 (len - 1))
  | c + 1, len => (pk (fillN (ent sz fw c) (pk sz c) ([], List.range len)).1 (pk fw c), (fillN (ent sz fw c) (pk sz c) ([], List.range len)).2 ++ (fillN (ent sz fw c) (pk sz c) ([], List.range len)).1.eraseIdx (pk fw c))
def fil (sz fw : List Nat) (c len : Nat) : List Nat × List Nat := fillN (ent sz fw c) (pk sz c) ([], List.range len)
def entD (sz fw : List Nat) (c len : Nat) : D := .tup [nI (ent sz fw c len).1, nT (ent sz fw c len).2]
def entL (sz fw : List Nat) (c len : Nat) : D := .tup [nI (ent sz fw c len).1, nL (ent sz fw c len).2]
def natOf : D → Nat
  | .int i => i.toNat
  | _ => 0
def natsOf : D → List Nat
  | .tup ds => ds.map natOf
  | _ => []
def bor (sz fw : List Nat) (c n : Nat) : List Nat := if c < sz.length then (ent sz fw c n).1 :: (ent sz fw c n).2 else (fil sz fw fw.length n).2 ++ (fil sz fw fw.length n).1
def addAt (l : List Nat) (i v : Nat) : List Nat := l.set i (pk l i + v)
def fstAt (l : List (Option Nat)) (i v : Nat) : List (Option Nat) := if l.getD i none = none then l.set i (some v) else l
def visIn (base : Nat) (own : List Nat) (early : List (Option Nat)) (rest : List Nat) : Nat → List Nat × List (Option Nat) → List Nat × List (Option Nat)
  | 0, s => s
  | k + 1, s => let s' := visIn base own early rest k s
    (addAt s'.1 (pk rest k) (pk own k), match early.getD k none with | some e => fstAt s'.2 (pk rest k) (base + e) | none => s'.2)
structure VSt where
  cnt : List Nat
  fst : List (Option Nat)
  rest : List Nat
  ins : List Nat
def visStep (steps size : Nat) (isT : Bool) (vs : Nat → List Nat × List (Option Nat)) (en : Nat → Nat × List Nat) (entry : Nat) (s : VSt) : VSt :=
  let v := vs s.rest.length
  let a := visIn (entry * steps) v.1 v.2 s.rest s.rest.length (s.cnt, s.fst)
  let e := en s.rest.length
  let x := pk s.rest e.1
  let b := if isT then s.ins.foldl (fun l m => addAt l m (steps - (if entry + 1 = size then 1 else 0))) a.1 else a.1
  let b2 := if isT && decide (entry + 1 < size) then addAt b x 1 else b
  let f2 := if isT && decide (entry + 1 < size) then fstAt a.2 x ((entry + 1) * steps) else a.2
  ⟨b2, f2, e.2.map (pk s.rest), s.ins ++ [x]⟩
def visLoop (steps size : Nat) (isT : Bool) (vs : Nat → List Nat × List (Option Nat)) (en : Nat → Nat × List Nat) : Nat → VSt → VSt
  | 0, s => s
  | k + 1, s => visStep steps size isT vs en k (visLoop steps size isT vs en k s)
def vis (sz fw : List Nat) (tg : Nat) : Nat → Nat → List Nat × List (Option Nat)
  | 0, n => (List.replicate n 0, List.replicate n none)
  | c + 1, n => if c + 1 ≤ tg then (List.replicate n 0, List.replicate n none) else
      let s := visLoop ((sz.take c).foldl (· * ·) 1) (pk sz c) (decide (c = tg)) (vis sz fw tg c) (ent sz fw c) (pk sz c) ⟨List.replicate n 0, List.replicate n none, List.range n, []⟩
      (s.cnt, s.fst)
def oD : Option Nat → D
  | none => .non
  | some n => nI n
def visD (sz fw : List Nat) (t c n : Nat) : D := .tup [nL (vis sz fw t c n).1, .lst ((vis sz fw t c n).2.map oD)]
def staD (sz fw : List Nat) (t c n : Nat) : D := .lst (List.zipWith (fun (a : Nat) (o : Option Nat) => D.tup [nI a, oD o]) (vis sz fw t c n).1 (vis sz fw t c n).2)
def memo : Nat → List D → List L2.Key → Option D
  | 0, [s, f], [.inl c, .inl n] => if 0 ≤ c ∧ c < 64 ∧ 0 ≤ n ∧ n < 64 then some (entD (natsOf s) (natsOf f) c.toNat n.toNat) else none
  | 1, [s, f], [.inl t, .inl c, .inl n] => if 0 ≤ t ∧ t < 64 ∧ 0 ≤ c ∧ c < 64 ∧ 0 ≤ n ∧ n < 64 then some (visD (natsOf s) (natsOf f) t.toNat c.toNat n.toNat) else none
  | 2, [s, f], [.inl c, .inl n] => if 0 ≤ c ∧ c < 64 ∧ 0 ≤ n ∧ n < 64 then some (entL (natsOf s) (natsOf f) c.toNat n.toNat) else none
  | 3, [s, f], [.inl c, .inl n] => if 0 ≤ c ∧ c < 64 ∧ 0 ≤ n ∧ n < 64 then some (nL (bor (natsOf s) (natsOf f) c.toNat n.toNat)) else none
  | 4, [s, f, .int t], [.inl c, .inl n] => if 0 ≤ c ∧ c < 64 ∧ 0 ≤ n ∧ n < 64 then some (staD (natsOf s) (natsOf f) t.toNat (c.toNat + 1) n.toNat) else none
  | _, _, _ => none
end R
namespace R
open PySem
def least (sz : List Nat) (c : Nat) : Nat := ((sz.take c).map (· - 1)).sum + 1
theorem pk_lt {l : List Nat} {i : Nat} (h : i < l.length) : pk l i = l[i] := by
  unfold pk
  rw [List.getD_eq_getElem?_getD, List.getElem?_eq_getElem h]
  rfl
theorem pk_mem {l : List Nat} {i : Nat} (h : i < l.length) : pk l i ∈ l := by rw [pk_lt h]; exact List.getElem_mem h
theorem pk_map {l : List Nat} {g : Nat → Nat} {i : Nat} (h : i < l.length) : pk (l.map g) i = g (pk l i) := by
  rw [pk_lt h, pk_lt (by rw [List.length_map]; exact h), List.getElem_map]
theorem map_pk_range (l : List Nat) : (List.range l.length).map (pk l) = l := by
  apply List.ext_getElem
  · rw [List.length_map, List.length_range]
  · intro i h1 h2
    rw [List.getElem_map, List.getElem_range, pk_lt h2]
theorem least_succ {sz : List Nat} {c : Nat} (h : c < sz.length) : least sz (c + 1) = least sz c + (pk sz c - 1) := by
  unfold least
  rw [List.take_add_one, List.getElem?_eq_getElem h, pk_lt h]
  simp only [Option.toList_some, List.map_append, List.map_cons, List.map_nil, List.sum_append, List.sum_cons, List.sum_nil]
  omega
def Pm (e : Nat × List Nat) (len : Nat) : Prop := (e.1 :: e.2).Perm (List.range len)
theorem Pm.lt {e : Nat × List Nat} {len : Nat} (h : Pm e len) : e.1 < len ∧ ∀ x ∈ e.2, x < len := by
  have k : ∀ x ∈ e.1 :: e.2, x < len := fun x m => List.mem_range.mp (h.mem_iff.mp m)
  exact ⟨k _ List.mem_cons_self, fun x m => k x (List.mem_cons_of_mem _ m)⟩
theorem Pm.len {e : Nat × List Nat} {len : Nat} (h : Pm e len) : e.2.length + 1 = len := by
  have := h.length_eq
  rw [List.length_cons, List.length_range] at this
  exact this
theorem Pm.app {e : Nat × List Nat} {l : List Nat} (h : Pm e l.length) : (pk l e.1 :: e.2.map (pk l)).Perm l := by
  have := h.map (pk l)
  rw [map_pk_range] at this
  exact this
theorem fillN_perm {e : Nat → Nat × List Nat} : ∀ (n : Nat) (p : List Nat × List Nat), (∀ k, k < n → Pm (e (p.2.length - k)) (p.2.length - k)) → n ≤ p.2.length → ((fillN e n p).1 ++ (fillN e n p).2).Perm (p.1 ++ p.2) ∧ (fillN e n p).1.length = p.1.length + n
  | 0, p, _, _ => ⟨.refl _, rfl⟩
  | n + 1, p, h, hl => by
    have h0 := h 0 (by omega)
    rw [Nat.sub_zero] at h0
    have hlen := h0.len
    have l2 : ((e p.2.length).2.map (pk p.2)).length = p.2.length - 1 := by rw [List.length_map]; omega
    obtain ⟨a, b⟩ := fillN_perm (e := e) n (p.1 ++ [pk p.2 (e p.2.length).1], (e p.2.length).2.map (pk p.2)) (fun k hk => by
      show Pm (e (((e p.2.length).2.map (pk p.2)).length - k)) (((e p.2.length).2.map (pk p.2)).length - k)
      rw [l2, Nat.sub_sub, Nat.add_comm 1 k]
      exact h (k + 1) (by omega)) (by rw [l2]; omega)
    refine ⟨a.trans ?_, by rw [fillN, b, List.length_append, List.length_singleton]; omega⟩
    rw [List.append_assoc]
    exact h0.app.append_left p.1
theorem erase_perm {l : List Nat} {i : Nat} (h : i < l.length) : (pk l i :: l.eraseIdx i).Perm l := by
  rw [pk_lt h]
  induction l generalizing i with
  | nil => simp at h
  | cons x l ih =>
    cases i with
    | zero => exact .refl _
    | succ i =>
      have h2 : i < l.length := by simpa using h
      rw [List.eraseIdx_cons_succ, List.getElem_cons_succ]
      exact (List.Perm.swap _ _ _).trans ((ih h2).cons x)
structure Cups (sz fw : List Nat) (c : Nat) : Prop where
  l1 : c ≤ sz.length
  s1 : ∀ i, i < c → 1 ≤ pk sz i
  f1 : ∀ i, i < c → pk fw i < pk sz i
theorem Cups.down {sz fw : List Nat} {c : Nat} (h : Cups sz fw (c + 1)) : Cups sz fw c := ⟨by have := h.l1; omega, fun i hi => h.s1 i (by omega), fun i hi => h.f1 i (by omega)⟩
theorem ent_perm {sz fw : List Nat} : ∀ {c : Nat} {len : Nat}, Cups sz fw c → least sz c ≤ len → Pm (ent sz fw c len) len
  | 0, len, _, h => by
    have h1 : 1 ≤ len := h
    obtain ⟨n, rfl⟩ : ∃ n, len = n + 1 := ⟨len - 1, by omega⟩
    show (0 :: List.range' 1 n).Perm (List.range (n + 1))
    rw [List.range_eq_range', List.range'_succ]
  | c + 1, len, C, h => by
    have hs := C.s1 c (by omega)
    have hf := C.f1 c (by omega)
    rw [least_succ (by have := C.l1; omega)] at h
    have hl1 : 1 ≤ least sz c := by unfold least; omega
    obtain ⟨a, b⟩ := fillN_perm (e := ent sz fw c) (pk sz c) ([], List.range len) (fun k hk => by
      show Pm (ent sz fw c ((List.range len).length - k)) ((List.range len).length - k)
      rw [List.length_range]
      exact ent_perm C.down (by omega)) (by show pk sz c ≤ (List.range len).length; rw [List.length_range]; omega)
    have a : ((fil sz fw c len).1 ++ (fil sz fw c len).2).Perm (List.range len) := a
    have b : (fil sz fw c len).1.length = pk sz c := by
      have b2 : (fil sz fw c len).1.length = 0 + pk sz c := b
      omega
    show (pk (fil sz fw c len).1 (pk fw c) :: ((fil sz fw c len).2 ++ (fil sz fw c len).1.eraseIdx (pk fw c))).Perm (List.range len)
    refine List.Perm.trans ?_ a
    have e := erase_perm (l := (fil sz fw c len).1) (i := pk fw c) (by omega)
    refine List.Perm.trans ?_ (e.append_right (fil sz fw c len).2)
    exact List.Perm.cons _ List.perm_append_comm
end R
namespace R
open PySem
def casc : List Nat → List Nat → List (List Nat) → Nat → List Nat → List (List Nat) × List Nat × Option Nat
  | s :: ss, f :: fs, c :: cs, m, q => if c.length + 1 = s then
      ([] :: (casc ss fs cs (pk (c ++ [m]) f) (q ++ (c ++ [m]).eraseIdx f)).1, (casc ss fs cs (pk (c ++ [m]) f) (q ++ (c ++ [m]).eraseIdx f)).2)
    else ((c ++ [m]) :: cs, q, none)
  | _, _, cs, m, q => (cs, q, some m)
inductive Run (ss fs : List Nat) : Nat → List (List Nat) → List Nat → Nat → List Nat → Prop where
  | done {cs cs' : List (List Nat)} {m x : Nat} {q q' : List Nat} : casc ss fs cs x q = (cs', q', some m) → (∀ c ∈ cs', c = []) → Run ss fs 1 cs (x :: q) m q'
  | step {cs cs' : List (List Nat)} {n m x : Nat} {q q1 q' : List Nat} : casc ss fs cs x q = (cs', q1, none) → Run ss fs n cs' q1 m q' → Run ss fs (n + 1) cs (x :: q) m q'
theorem casc_len : ∀ {ss fs : List Nat} {cs : List (List Nat)} {m : Nat} {q : List Nat}, (casc ss fs cs m q).1.length = cs.length
  | [], _, cs, m, q => by rw [casc]; intro _ _ _ _ _ _ e; cases e
  | _ :: _, [], cs, m, q => by rw [casc]; intro _ _ _ _ _ _ _ e; cases e
  | _ :: _, _ :: _, [], m, q => by rw [casc]; intro _ _ _ _ _ _ _ _ e; cases e
  | s :: ss, f :: fs, c :: cs, m, q => by
    rw [casc]
    split
    · rw [List.length_cons, casc_len, List.length_cons]
    · rfl
theorem casc_snoc {s f : Nat} {c : List Nat} : ∀ {ss fs : List Nat} {cs : List (List Nat)} {m : Nat} {q : List Nat}, ss.length = fs.length → ss.length = cs.length →
    casc (ss ++ [s]) (fs ++ [f]) (cs ++ [c]) m q = match (casc ss fs cs m q).2.2 with
      | none => ((casc ss fs cs m q).1 ++ [c], (casc ss fs cs m q).2.1, none)
      | some m' => if c.length + 1 = s then ((casc ss fs cs m q).1 ++ [[]], (casc ss fs cs m q).2.1 ++ (c ++ [m']).eraseIdx f, some (pk (c ++ [m']) f)) else ((casc ss fs cs m q).1 ++ [c ++ [m']], (casc ss fs cs m q).2.1, none)
  | [], [], [], m, q, _, _ => by
    show casc [s] [f] [c] m q = if c.length + 1 = s then ([[]], q ++ (c ++ [m]).eraseIdx f, some (pk (c ++ [m]) f)) else ([c ++ [m]], q, none)
    rw [casc]
    split
    · rfl
    · rfl
  | s1 :: ss, f1 :: fs, c1 :: cs, m, q, h1, h2 => by
    have ih := @casc_snoc s f c ss fs cs (pk (c1 ++ [m]) f1) (q ++ (c1 ++ [m]).eraseIdx f1) (by simpa using h1) (by simpa using h2)
    show casc (s1 :: (ss ++ [s])) (f1 :: (fs ++ [f])) (c1 :: (cs ++ [c])) m q = _
    rw [casc, casc]
    by_cases h : c1.length + 1 = s1
    · rw [if_pos h, if_pos h, ih]
      cases q2 : (casc ss fs cs (pk (c1 ++ [m]) f1) (q ++ (c1 ++ [m]).eraseIdx f1)).2.2 with
      | none => simp only [q2]; rfl
      | some m' =>
        simp only [q2]
        split
        · rfl
        · rfl
    · rw [if_neg h, if_neg h]
      rfl
  | [], _ :: _, _, _, _, h, _ => by simp at h
  | _ :: _, [], _, _, _, h, _ => by simp at h
  | [], [], _ :: _, _, _, _, h => by simp at h
  | _ :: _, _ :: _, [], _, _, _, h => by simp at h
theorem all_nil {cs : List (List Nat)} (h : ∀ c ∈ cs, c = []) : cs = List.replicate cs.length [] := List.eq_replicate_iff.mpr ⟨rfl, h⟩
theorem Run.more {ss fs : List Nat} {s f : Nat} {c : List Nat} (hl : ss.length = fs.length) {n : Nat} {cs : List (List Nat)} {q : List Nat} {m : Nat} {q' : List Nat} (r : Run ss fs n cs q m q') : ss.length = cs.length → c.length + 1 ≠ s →
    ∀ {N m2 : Nat} {q2 : List Nat}, Run (ss ++ [s]) (fs ++ [f]) N (List.replicate cs.length [] ++ [c ++ [m]]) q' m2 q2 → Run (ss ++ [s]) (fs ++ [f]) (n + N) (cs ++ [c]) q m2 q2 := by
  induction r with
  | @done cs cs' m x q q' e en =>
    intro h2 hs N m2 q2 r
    have e2 := @casc_snoc s f c ss fs cs x q hl h2
    have el := @casc_len ss fs cs x q
    rw [e] at e2 el
    simp only [if_neg hs] at e2
    rw [all_nil en, show cs'.length = cs.length from el] at e2
    rw [Nat.add_comm]
    exact .step e2 r
  | @step cs cs' n m x q q1 q' e r0 ih =>
    intro h2 hs N m2 q2 r
    have e2 := @casc_snoc s f c ss fs cs x q hl h2
    have el := @casc_len ss fs cs x q
    rw [e] at e2 el
    have el : cs'.length = cs.length := el
    rw [Nat.add_right_comm]
    exact .step e2 (ih (by omega) hs (by rw [el]; exact r))
theorem Run.last {ss fs : List Nat} {s f : Nat} {c : List Nat} (hl : ss.length = fs.length) {n : Nat} {cs : List (List Nat)} {q : List Nat} {m : Nat} {q' : List Nat} (r : Run ss fs n cs q m q') : ss.length = cs.length → c.length + 1 = s →
    Run (ss ++ [s]) (fs ++ [f]) n (cs ++ [c]) q (pk (c ++ [m]) f) (q' ++ (c ++ [m]).eraseIdx f) := by
  induction r with
  | @done cs cs' m x q q' e en =>
    intro h2 hs
    have e2 := @casc_snoc s f c ss fs cs x q hl h2
    rw [e] at e2
    simp only [if_pos hs] at e2
    refine .done e2 fun d m => ?_
    rcases List.mem_append.mp m with m | m
    · exact en d m
    · exact List.mem_singleton.mp m
  | @step cs cs' n m x q q1 q' e r0 ih =>
    intro h2 hs
    have e2 := @casc_snoc s f c ss fs cs x q hl h2
    have el := @casc_len ss fs cs x q
    rw [e] at e2 el
    have el : cs'.length = cs.length := el
    exact .step e2 (ih (by omega) hs)
theorem erase_map {α β : Type} (f : α → β) : ∀ (l : List α) (j : Nat), (l.eraseIdx j).map f = (l.map f).eraseIdx j
  | [], _ => rfl
  | _ :: _, 0 => rfl
  | x :: l, j + 1 => by rw [List.eraseIdx_cons_succ, List.map_cons, List.map_cons, List.eraseIdx_cons_succ, erase_map f l j]
def prodL (l : List Nat) : Nat := l.foldl (· * ·) 1
theorem prodL_snoc (l : List Nat) (s : Nat) : prodL (l ++ [s]) = prodL l * s := by
  unfold prodL
  rw [List.foldl_append]
  rfl
theorem take_snoc {l : List Nat} {c : Nat} (h : c < l.length) : l.take (c + 1) = l.take c ++ [pk l c] := by
  rw [List.take_add_one, List.getElem?_eq_getElem h, pk_lt h] <;> rfl
theorem map_pk_map {l x : List Nat} {g : Nat → Nat} (h : ∀ i ∈ x, i < l.length) : x.map (pk (l.map g)) = (x.map (pk l)).map g := by
  rw [List.map_map]
  refine List.map_congr_left fun i hi => ?_
  exact pk_map (h i hi)
theorem run_block {sz fw : List Nat} : ∀ {c : Nat}, Cups sz fw c → c ≤ fw.length → ∀ {q : List Nat}, least sz c ≤ q.length →
    Run (sz.take c) (fw.take c) (prodL (sz.take c)) (List.replicate c []) q (pk q (ent sz fw c q.length).1) ((ent sz fw c q.length).2.map (pk q))
  | 0, _, _, q, h => by
    have h1 : 1 ≤ q.length := h
    cases q with
    | nil => simp at h1
    | cons x q =>
      rw [List.take_zero, List.take_zero]
      have e : (ent sz fw 0 (x :: q).length).2.map (pk (x :: q)) = q := by
        show (List.range' 1 q.length).map (pk (x :: q)) = q
        apply List.ext_getElem
        · rw [List.length_map, List.length_range']
        · intro i h1 h2
          rw [List.getElem_map, List.getElem_range', pk_lt (by simpa [Nat.add_comm] using h2)]
          simp [Nat.add_comm]
      rw [e]
      exact Run.done (cs' := []) (m := x) rfl fun _ m => by cases m
  | c + 1, C, hf, q, h => by
    have hl := C.l1
    have hs := C.s1 c (by omega)
    rw [least_succ (by omega)] at h
    have h1 : 1 ≤ least sz c := by unfold least; omega
    rw [take_snoc (l := sz) (by omega), take_snoc (l := fw) (by omega), prodL_snoc, List.replicate_succ']
    have hll : (sz.take c).length = (fw.take c).length := by rw [List.length_take, List.length_take]; omega
    have hlc : (sz.take c).length = c := by rw [List.length_take]; omega
    -- the entries one by one
    have key : ∀ (k : Nat) (p : List Nat × List Nat), p.1.length + (k + 1) = pk sz c → (∀ i ∈ p.2, i < q.length) → least sz c + k ≤ p.2.length → 
        Run (sz.take c ++ [pk sz c]) (fw.take c ++ [pk fw c]) (prodL (sz.take c) * (k + 1)) (List.replicate c [] ++ [p.1.map (pk q)]) (p.2.map (pk q))
          (pk (((fillN (ent sz fw c) (k + 1) p).1).map (pk q)) (pk fw c)) ((fillN (ent sz fw c) (k + 1) p).2.map (pk q) ++ ((fillN (ent sz fw c) (k + 1) p).1.map (pk q)).eraseIdx (pk fw c)) := by
      intro k
      induction k with
      | zero =>
        intro p hp hi hk
        have pm := ent_perm (sz := sz) (fw := fw) C.down (len := p.2.length) (by omega)
        obtain ⟨l1, l2⟩ := pm.lt
        have r := run_block (sz := sz) (fw := fw) C.down (by omega) (q := p.2.map (pk q)) (by rw [List.length_map]; omega)
        rw [List.length_map, pk_map l1, map_pk_map l2] at r
        have r2 := r.last (s := pk sz c) (f := pk fw c) (c := p.1.map (pk q)) hll (by rw [List.length_replicate]; omega) (by rw [List.length_map]; omega)
        rw [Nat.zero_add, Nat.mul_one]
        show Run _ _ _ _ _ (pk ((p.1 ++ [pk p.2 (ent sz fw c p.2.length).1]).map (pk q)) (pk fw c)) (((ent sz fw c p.2.length).2.map (pk p.2)).map (pk q) ++ ((p.1 ++ [pk p.2 (ent sz fw c p.2.length).1]).map (pk q)).eraseIdx (pk fw c))
        rw [List.map_append, List.map_singleton]
        exact r2
      | succ k ih =>
        intro p hp hi hk
        have pm := ent_perm (sz := sz) (fw := fw) C.down (len := p.2.length) (by omega)
        obtain ⟨l1, l2⟩ := pm.lt
        have hlen := pm.len
        have r := run_block (sz := sz) (fw := fw) C.down (by omega) (q := p.2.map (pk q)) (by rw [List.length_map]; omega)
        rw [List.length_map, pk_map l1, map_pk_map l2] at r
        have nx := ih (p.1 ++ [pk p.2 (ent sz fw c p.2.length).1], (ent sz fw c p.2.length).2.map (pk p.2)) (by rw [List.length_append, List.length_singleton]; omega) (fun i m => by
          obtain ⟨j, hj, e⟩ := List.mem_map.mp m
          rw [← e]
          exact hi _ (pk_mem (l2 j hj))) (by rw [List.length_map]; omega)
        rw [Nat.mul_succ, Nat.add_comm]
        refine r.more (s := pk sz c) (f := pk fw c) (c := p.1.map (pk q)) hll (by rw [List.length_replicate]; omega) (by rw [List.length_map]; omega) ?_
        rw [List.length_replicate]
        have e2 : (p.1 ++ [pk p.2 (ent sz fw c p.2.length).1]).map (pk q) = p.1.map (pk q) ++ [pk q (pk p.2 (ent sz fw c p.2.length).1)] := by rw [List.map_append, List.map_singleton]
        rw [← e2]
        exact nx
    have k0 := key (pk sz c - 1) ([], List.range q.length) (by show 0 + _ = _; omega) (fun i m => List.mem_range.mp m) (by rw [List.length_range]; omega)
    have es : pk sz c - 1 + 1 = pk sz c := by omega
    rw [es] at k0
    have hf1 := C.f1 c (by omega)
    have eq0 : (List.range q.length).map (pk q) = q := map_pk_range q
    have b : (fil sz fw c q.length).1.length = pk sz c := by
      have := (fillN_perm (e := ent sz fw c) (pk sz c) ([], List.range q.length) (fun k hk => by
        show Pm (ent sz fw c ((List.range q.length).length - k)) ((List.range q.length).length - k)
        rw [List.length_range]
        exact ent_perm C.down (by omega)) (by show pk sz c ≤ (List.range q.length).length; rw [List.length_range]; omega)).2
      have b2 : (fil sz fw c q.length).1.length = 0 + pk sz c := this
      omega
    show Run _ _ _ _ _ (pk q (pk (fil sz fw c q.length).1 (pk fw c))) (((fil sz fw c q.length).2 ++ (fil sz fw c q.length).1.eraseIdx (pk fw c)).map (pk q))
    have k1 : Run (sz.take c ++ [pk sz c]) (fw.take c ++ [pk fw c]) (prodL (sz.take c) * pk sz c) (List.replicate c [] ++ [[]]) q (pk ((fil sz fw c q.length).1.map (pk q)) (pk fw c)) ((fil sz fw c q.length).2.map (pk q) ++ ((fil sz fw c q.length).1.map (pk q)).eraseIdx (pk fw c)) := by
      rw [show (([], List.range q.length) : List Nat × List Nat).2.map (pk q) = q from eq0] at k0
      exact k0
    rw [pk_map (by omega), ← erase_map, ← List.map_append] at k1
    exact k1
end R
namespace R
open PySem PySem.Spec PyProof.Rows L2
structure Wd where
  G : Hp
  S : Addr → Option (Nat × List D)
mutual
inductive Rep (K : PySem.W.Frag) (W : Wd) : V → D → Prop where
  | non : Rep K W .non .non
  | bl (b : Bool) : Rep K W (.bl b) (.bl b)
  | int (i : Int) : Rep K W (.int i) (.int i)
  | str (x : Str) : Rep K W (.str x) (.str x)
  | lst {a : Addr} {xs : List V} {ds : List D} : W.G a = some (.lst xs) → RepAll K W xs ds → Rep K W (.ref a) (.lst ds)
  | tup {a : Addr} {xs : List V} {ds : List D} : W.G a = some (.tup xs) → RepAll K W xs ds → Rep K W (.ref a) (.tup ds)
  | rol {a : Addr} {xs : List V} {ds : List D} : SqL K W.G a xs → RepAll K W xs ds → Rep K W (.ref a) (.rol ds)
  | ins {a : Addr} {C dx : Addr} {fs : List (Str × V)} {ds : List D} : W.G a = some (.ins C dx fs) → RepAll K W (fs.map (·.2)) ds → Rep K W (.ref a) (.ins C (fs.map (·.1)) ds)
  | vol {a : Addr} {k : Nat} {ps : List D} : W.S a = some (k, ps) → Rep K W (.ref a) (.vol k ps)
  | dct {a : Addr} {kvs : List (L2.Key × V)} {ds : List D} : W.G a = some (.dK kvs) → RepAll K W (kvs.map (·.2)) ds → Rep K W (.ref a) (.dct (kvs.map (·.1)) ds)
  | any (a : Addr) : Rep K W (.ref a) .any
  | adr (a : Addr) : Rep K W (.ref a) (.adr a)
  | cod {c : Addr} {q : Str} : W.G c = some (LamX.CodeO c q) → Rep K W (.ref c) (.cod q)
  | obj {c d : Addr} {o : Nat → Nat → HO} {p : Nat → HO} : W.G c = some (o d c) → W.G d = some (p d) → Rep K W (.ref c) (.obj o p)
inductive RepAll (K : PySem.W.Frag) (W : Wd) : List V → List D → Prop where
  | nil : RepAll K W [] []
  | cons {v : V} {vs : List V} {d : D} {ds : List D} : Rep K W v d → RepAll K W vs ds → RepAll K W (v :: vs) (d :: ds)
end
mutual
inductive Own (K : PySem.W.Frag) (W : Wd) (H : Hp) : V → OT → List Addr → Prop where
  | leaf {v : V} {d : D} : Rep K W v d → Own K W H v (.leaf d) []
  | lst {p : Addr} {vs : List V} {ts : List OT} {f : List Addr} : H p = some (.lst vs) → OwnAll K W H vs ts f → Own K W H (.ref p) (.lst ts) (p :: f)
  | tup {p : Addr} {vs : List V} {ts : List OT} {f : List Addr} : H p = some (.tup vs) → OwnAll K W H vs ts f → Own K W H (.ref p) (.tup ts) (p :: f)
  | ins {p : Addr} {C dx : Addr} {fs : List (Str × V)} {ts : List OT} {f : List Addr} : H p = some (.ins C dx fs) → OwnAll K W H (fs.map (·.2)) ts f → Own K W H (.ref p) (.ins C (fs.map (·.1)) ts) (p :: f)
  | d0 {p : Addr} : H p = some (.dT []) → Own K W H (.ref p) .d0 [p]
  | xo {a d : Addr} {f v : Str} : H d = some (.xd [(f, .str v)]) → Own K W H (.ref a) (.xo a d f v) [d]
  | dk {p : Addr} {kvs : List (L2.Key × V)} {ts : List OT} {f : List Addr} : H p = some (.dK kvs) → OwnAll K W H (kvs.map (·.2)) ts f → Own K W H (.ref p) (.dk (kvs.map (·.1)) ts) (p :: f)
inductive OwnAll (K : PySem.W.Frag) (W : Wd) (H : Hp) : List V → List OT → List Addr → Prop where
  | nil : OwnAll K W H [] [] []
  | cons {v : V} {vs : List V} {t : OT} {ts : List OT} {f g : List Addr} : Own K W H v t f → OwnAll K W H vs ts g → OwnAll K W H (v :: vs) (t :: ts) (f ++ g)
end
def VI (k : Nat) (ps : List D) (rep : V → D → Prop) (o : HO) : Prop := match k with
  | 0 => ∃ x y z : Int, o = .lst [.int x, .int y, .int z]
  | k + 1 => (∃ kvs : List (List Key × V), o = .dT kvs ∧ (kvs.map (·.1)).Nodup ∧ ∀ p ∈ kvs, ∃ d, memo k ps p.1 = some d ∧ rep p.2 d) ∨
      (k = 98 ∧ ∃ (q : Str) (cs : Array Value), ps = [.str q] ∧ o = .tbl cs ∧ TriplesOk cs.toList ∧ ∀ (pos : Pos) (cv : Value), codeAmong pos cs.toList = some cv → ∃ c, cv = .ref c ∧ rep (.ref c) (.cod q))
theorem VI.mono {k : Nat} {ps : List D} {rep rep2 : V → D → Prop} {o : HO} (h : VI k ps rep o) (l : ∀ v d, rep v d → rep2 v d) : VI k ps rep2 o := by
  cases k with
  | zero => exact h
  | succ k =>
    rcases h with ⟨kvs, q1, q2, q3⟩ | ⟨e, q, cs, e1, e2, e3, e4⟩
    · exact .inl ⟨kvs, q1, q2, fun p hp => let ⟨d, w1, w2⟩ := q3 p hp; ⟨d, w1, l _ _ w2⟩⟩
    · exact .inr ⟨e, q, cs, e1, e2, e3, fun pos cv h => let ⟨c, w1, w2⟩ := e4 pos cv h; ⟨c, w1, l _ _ w2⟩⟩
structure VolOk (K : PySem.W.Frag) (W : Wd) (H : Hp) : Prop where
  ok : ∀ a k ps, W.S a = some (k, ps) → W.G a = none ∧ ∃ o, H a = some o ∧ VI k ps (Rep K W) o
  tb : ∀ p q, (lamTab K).lookup p = some q → W.S p = some (99, [.str q]) ∧ ∃ cs, H p = some (.tbl cs)
instance {K : PySem.W.Frag} {W : Wd} {H : Hp} : CoeFun (VolOk K W H) fun _ => ∀ a k ps, W.S a = some (k, ps) → W.G a = none ∧ ∃ o, H a = some o ∧ VI k ps (Rep K W) o := ⟨VolOk.ok⟩
structure Sat (K : PySem.W.Frag) (W : Wd) (H : Hp) (fp xf : List Addr) : Prop where
  sub : ∀ a o, W.G a = some o → H a = some o
  vol : VolOk K W H
  nd : fp.Nodup
  off : ∀ a ∈ fp, W.G a = none ∧ W.S a = none ∧ H a ≠ none
  xof : ∀ a ∈ xf, a ∉ fp ∧ W.S a = none ∧ H a ≠ none
structure Stp (W : Wd) (H : Hp) (f : List Addr) (W' : Wd) (H' : Hp) : Prop where
  wx : ∀ a, H a ≠ none → a ∉ f → W'.G a = W.G a ∧ W'.S a = W.S a
  kp : ∀ a o, H a = some o → a ∉ f → W.S a = none → H' a = some o
  al : ∀ a, H a ≠ none → H' a ≠ none
inductive EnvOk (K : PySem.W.Frag) (W : Wd) (H : Hp) : L2.St → Env → List Addr → List Addr → Prop where
  | nil : EnvOk K W H [] [] [] []
  | no {x : Option V} {σ : L2.St} {e : Env} {fp xf : List Addr} : EnvOk K W H σ e fp xf → EnvOk K W H (x :: σ) (none :: e) fp xf
  | fz {v : V} {d : D} {σ : L2.St} {e : Env} {fp xf : List Addr} : Rep K W v d → EnvOk K W H σ e fp xf → EnvOk K W H (some v :: σ) (some (.fz d) :: e) fp xf
  | nw {v : V} {t : OT} {f : List Addr} {σ : L2.St} {e : Env} {fp xf : List Addr} : Own K W H v t f → EnvOk K W H σ e fp xf → EnvOk K W H (some v :: σ) (some (.nw t) :: e) (f ++ fp) xf
  | ex {v : V} {t : OT} {f : List Addr} {σ : L2.St} {e : Env} {fp xf : List Addr} : Own K W H v t f → EnvOk K W H σ e fp xf → EnvOk K W H (some v :: σ) (some (.ex t) :: e) fp (f ++ xf)
def ResOk (K : PySem.W.Frag) (H : Hp) (fp : List Addr) (W' : Wd) (H' : Hp) (v : V) : Rs → Prop
  | .fz d => Rep K W' v d
  | .nw t => ∃ f, Own K W' H' v t f ∧ f.Nodup ∧ ∀ a ∈ f, H a = none ∧ W'.G a = none ∧ W'.S a = none
  | .br t => ∃ f, Own K W' H' v t f ∧ ∀ a ∈ f, W'.S a = none
  | .ex t => ∃ f, Own K W' H' v t f ∧ ∀ a ∈ f, W'.S a = none ∧ a ∉ fp
inductive ResAll (K : PySem.W.Frag) (H : Hp) (fp : List Addr) (W' : Wd) (H' : Hp) : List V → List Rs → List Addr → Prop where
  | nil : ResAll K H fp W' H' [] [] []
  | fz {v : V} {d : D} {vs : List V} {rs : List Rs} {g : List Addr} : Rep K W' v d → ResAll K H fp W' H' vs rs g → ResAll K H fp W' H' (v :: vs) (.fz d :: rs) g
  | nw {v : V} {t : OT} {f : List Addr} {vs : List V} {rs : List Rs} {g : List Addr} : Own K W' H' v t f → ResAll K H fp W' H' vs rs g → ResAll K H fp W' H' (v :: vs) (.nw t :: rs) (f ++ g)
  | br {v : V} {t : OT} {f : List Addr} {vs : List V} {rs : List Rs} {g : List Addr} : Own K W' H' v t f → (∀ a ∈ f, W'.S a = none) → ResAll K H fp W' H' vs rs g → ResAll K H fp W' H' (v :: vs) (.br t :: rs) g
  | ex {v : V} {t : OT} {f : List Addr} {vs : List V} {rs : List Rs} {g : List Addr} : Own K W' H' v t f → (∀ a ∈ f, W'.S a = none ∧ a ∉ fp) → ResAll K H fp W' H' vs rs g → ResAll K H fp W' H' (v :: vs) (.ex t :: rs) g

structure Wd.Le (W W' : Wd) : Prop where
  g : ∀ a o, W.G a = some o → W'.G a = some o
  s : ∀ a k, W.S a = some k → W'.S a = some k
theorem Wd.Le.refl (W : Wd) : W.Le W := ⟨fun _ _ h => h, fun _ _ h => h⟩
theorem Wd.Le.trans {W W1 W2 : Wd} (a : W.Le W1) (b : W1.Le W2) : W.Le W2 := ⟨fun c o h => b.g c o (a.g c o h), fun c o h => b.s c o (a.s c o h)⟩
theorem SqL.mono {K : PySem.W.Frag} {G G' : Hp} {a : Addr} {xs : List V} (h : ∀ a o, G a = some o → G' a = some o) (q : SqL K G a xs) : SqL K G' a xs := by
  rcases q with (q | ⟨o, q⟩) | q
  · exact .inl (.inl (h _ _ q))
  · exact .inl (.inr ⟨o, h _ _ q⟩)
  · exact .inr q
section
variable {K : PySem.W.Frag} {W W' : Wd} {H H' : Hp}
mutual
theorem Rep.mono (l : W.Le W') : ∀ {v : V} {d : D}, Rep K W v d → Rep K W' v d
  | _, _, .non => .non
  | _, _, .bl b => .bl b
  | _, _, .int i => .int i
  | _, _, .str x => .str x
  | _, _, .lst h r => .lst (l.g _ _ h) (RepAll.mono l r)
  | _, _, .tup h r => .tup (l.g _ _ h) (RepAll.mono l r)
  | _, _, .rol h r => .rol (SqL.mono l.g h) (RepAll.mono l r)
  | _, _, .ins h r => .ins (l.g _ _ h) (RepAll.mono l r)
  | _, _, .vol h => .vol (l.s _ _ h)
  | _, _, .dct h r => .dct (l.g _ _ h) (RepAll.mono l r)
  | _, _, .any a => .any a
  | _, _, .adr a => .adr a
  | _, _, .cod h => .cod (l.g _ _ h)
  | _, _, .obj h k => .obj (l.g _ _ h) (l.g _ _ k)
theorem RepAll.mono (l : W.Le W') : ∀ {vs : List V} {ds : List D}, RepAll K W vs ds → RepAll K W' vs ds
  | _, _, .nil => .nil
  | _, _, .cons h r => .cons (Rep.mono l h) (RepAll.mono l r)
end
mutual
theorem Own.alloc : ∀ {v : V} {t : OT} {f : List Addr}, Own K W H v t f → ∀ a ∈ f, H a ≠ none
  | _, _, _, .leaf _, _, ha => by cases ha
  | _, _, _, .lst h r, a, ha => by
    rcases List.mem_cons.mp ha with e | ha
    · rw [e, h]; exact fun z => nomatch z
    · exact OwnAll.alloc r a ha
  | _, _, _, .tup h r, a, ha => by
    rcases List.mem_cons.mp ha with e | ha
    · rw [e, h]; exact fun z => nomatch z
    · exact OwnAll.alloc r a ha
  | _, _, _, .ins h r, a, ha => by
    rcases List.mem_cons.mp ha with e | ha
    · rw [e, h]; exact fun z => nomatch z
    · exact OwnAll.alloc r a ha
  | _, _, _, .d0 h, a, ha => by
    rw [List.mem_singleton.mp ha, h]; exact fun z => nomatch z
  | _, _, _, .xo h, a, ha => by
    rw [List.mem_singleton.mp ha, h]; exact fun z => nomatch z
  | _, _, _, .dk h r, a, ha => by
    rcases List.mem_cons.mp ha with e | ha
    · rw [e, h]; exact fun z => nomatch z
    · exact OwnAll.alloc r a ha
theorem OwnAll.alloc : ∀ {vs : List V} {ts : List OT} {f : List Addr}, OwnAll K W H vs ts f → ∀ a ∈ f, H a ≠ none
  | _, _, _, .nil, _, ha => by cases ha
  | _, _, _, .cons h r, a, ha => by
    rcases List.mem_append.mp ha with ha | ha
    · exact Own.alloc h a ha
    · exact OwnAll.alloc r a ha
end
mutual
theorem Own.mono (l : W.Le W') : ∀ {v : V} {t : OT} {f : List Addr}, Own K W H v t f → (∀ a ∈ f, ∀ o, H a = some o → H' a = some o) → Own K W' H' v t f
  | _, _, _, .leaf r, _ => .leaf (r.mono l)
  | _, _, _, .lst h r, k => .lst (k _ List.mem_cons_self _ h) (OwnAll.mono l r fun a ha => k a (List.mem_cons_of_mem _ ha))
  | _, _, _, .tup h r, k => .tup (k _ List.mem_cons_self _ h) (OwnAll.mono l r fun a ha => k a (List.mem_cons_of_mem _ ha))
  | _, _, _, .ins h r, k => .ins (k _ List.mem_cons_self _ h) (OwnAll.mono l r fun a ha => k a (List.mem_cons_of_mem _ ha))
  | _, _, _, .d0 h, k => .d0 (k _ List.mem_cons_self _ h)
  | _, _, _, .xo h, k => .xo (k _ List.mem_cons_self _ h)
  | _, _, _, .dk h r, k => .dk (k _ List.mem_cons_self _ h) (OwnAll.mono l r fun a ha => k a (List.mem_cons_of_mem _ ha))
theorem OwnAll.mono (l : W.Le W') : ∀ {vs : List V} {ts : List OT} {f : List Addr}, OwnAll K W H vs ts f → (∀ a ∈ f, ∀ o, H a = some o → H' a = some o) → OwnAll K W' H' vs ts f
  | _, _, _, .nil, _ => .nil
  | _, _, _, .cons h r, k => .cons (Own.mono l h fun a ha => k a (List.mem_append_left _ ha)) (OwnAll.mono l r fun a ha => k a (List.mem_append_right _ ha))
end
theorem EnvOk.mono (l : W.Le W') {σ : L2.St} {e : Env} {fp xf : List Addr} (h : EnvOk K W H σ e fp xf) : (∀ a, a ∈ fp ∨ a ∈ xf → ∀ o, H a = some o → H' a = some o) → EnvOk K W' H' σ e fp xf := by
  induction h with
  | nil => intro _; exact .nil
  | no _ ih => intro k; exact .no (ih k)
  | fz r _ ih => intro k; exact .fz (r.mono l) (ih k)
  | nw r _ ih => intro k; exact .nw (r.mono l fun a ha => k a (.inl (List.mem_append_left _ ha))) (ih fun a ha => k a (ha.imp (List.mem_append_right _) id))
  | ex r _ ih => intro k; exact .ex (r.mono l fun a ha => k a (.inr (List.mem_append_left _ ha))) (ih fun a ha => k a (ha.imp id (List.mem_append_right _)))
theorem ResAll.mono {H0 : Hp} {fp : List Addr} (l : W.Le W') {vs : List V} {rs : List Rs} {g : List Addr} (h : ResAll K H0 fp W H vs rs g) :
    (∀ a o, H a = some o → W.S a = none → H' a = some o) → (∀ a, H a ≠ none → W'.S a = W.S a) → (∀ a ∈ g, W.S a = none) → ResAll K H0 fp W' H' vs rs g := by
  have key : ∀ {v : V} {t : OT} {f : List Addr}, Own K W H v t f → ∀ a ∈ f, H a ≠ none := by
    intro v t f o
    exact (Own.alloc o)
  induction h with
  | nil => intro _ _ _; exact .nil
  | fz r _ ih => intro k s q; exact .fz (r.mono l) (ih k s q)
  | nw r _ ih => intro k s q; exact .nw (r.mono l fun a ha o e => k a o e (q a (List.mem_append_left _ ha))) (ih k s fun a ha => q a (List.mem_append_right _ ha))
  | br r z _ ih => intro k s q; exact .br (r.mono l fun a ha o e => k a o e (z a ha)) (fun a ha => (s a (key r a ha)).trans (z a ha)) (ih k s q)
  | ex r z _ ih => intro k s q; exact .ex (r.mono l fun a ha o e => k a o e (z a ha).1) (fun a ha => ⟨(s a (key r a ha)).trans (z a ha).1, (z a ha).2⟩) (ih k s q)
end
section
variable {K : PySem.W.Frag} {W W1 W2 W' : Wd} {H H1 H2 H' : Hp} {f f1 fp xf : List Addr}
theorem Stp.refl : Stp W H f W H := ⟨fun _ _ _ => ⟨rfl, rfl⟩, fun _ _ h _ _ => h, fun _ h => h⟩
theorem Stp.le (s : Sat K W H fp xf) (t : Stp W H f W' H') (h : ∀ a ∈ f, a ∈ fp ∨ H a = none) : W.Le W' := by
  have key : ∀ a, (W.G a ≠ none ∨ W.S a ≠ none) → H a ≠ none ∧ a ∉ f := by
    intro a z
    have ha : H a ≠ none := by
      rcases z with z | z
      · cases q : W.G a with
        | none => exact absurd q z
        | some o => rw [s.sub a o q]; exact fun z => nomatch z
      · cases q : W.S a with
        | none => exact absurd q z
        | some o =>
          obtain ⟨k, ps⟩ := o
          obtain ⟨_, o, e, _⟩ := s.vol a k ps q
          rw [e]; exact fun z => nomatch z
    refine ⟨ha, fun m => ?_⟩
    rcases h a m with m | m
    · obtain ⟨g1, g2, _⟩ := s.off a m
      rcases z with z | z
      · exact z g1
      · exact z g2
    · exact ha m
  refine ⟨fun a o e => ?_, fun a o e => ?_⟩
  · obtain ⟨k1, k2⟩ := key a (.inl (by rw [e]; exact fun z => nomatch z))
    rw [(t.wx a k1 k2).1]; exact e
  · obtain ⟨k1, k2⟩ := key a (.inr (by rw [e]; exact fun z => nomatch z))
    rw [(t.wx a k1 k2).2]; exact e
theorem Stp.trans (a : Stp W H f W1 H1) (b : Stp W1 H1 f1 W2 H2) (h : ∀ a ∈ f1, a ∈ f ∨ H a = none) : Stp W H f W2 H2 := by
  have nf : ∀ c, H c ≠ none → c ∉ f → c ∉ f1 := fun c hc hf m => (h c m).elim hf hc
  refine ⟨fun c hc hf => ?_, fun c o e hf hs => ?_, fun c hc => b.al c (a.al c hc)⟩
  · obtain ⟨x1, x2⟩ := a.wx c hc hf
    obtain ⟨y1, y2⟩ := b.wx c (a.al c hc) (nf c hc hf)
    exact ⟨y1.trans x1, y2.trans x2⟩
  · have hc : H c ≠ none := by rw [e]; exact fun z => nomatch z
    exact b.kp c o (a.kp c o e hf hs) (nf c hc hf) ((a.wx c hc hf).2.trans hs)
theorem Stp.tr0 (a : Stp W H [] W1 H1) (b : Stp W1 H1 [] W2 H2) : Stp W H [] W2 H2 := a.trans b fun _ m => by cases m
theorem Stp.up (a : Stp W H [] W1 H1) : Stp W H f W1 H1 := ⟨fun c h _ => a.wx c h (by simp), fun c o e _ s => a.kp c o e (by simp) s, a.al⟩
theorem EnvOk.keep {σ : L2.St} {e : Env} (h : EnvOk K W H σ e fp xf) (s : Sat K W H fp xf) (t : Stp W H [] W' H') : EnvOk K W' H' σ e fp xf :=
  h.mono (t.le s fun _ m => by cases m) fun a m o q => t.kp a o q (by simp) (m.elim (fun z => (s.off a z).2.1) fun z => (s.xof a z).2.1)
theorem some_ne {α : Type} {a : α} {o : Option α} (h : o = some a) : o ≠ none := by rw [h]; exact fun z => nomatch z
theorem Stp.new {p : Addr} {o : HO} (h : H p = none) : Stp W H [] W (upd H p o) :=
  ⟨fun _ _ _ => ⟨rfl, rfl⟩, fun a u e _ _ => by rw [upd_ne (ne_of_none e h)]; exact e, fun a z => by
    by_cases e : a = p
    · rw [e, h] at z; exact absurd rfl z
    · rw [upd_ne e]; exact z⟩
theorem Sat.new {p : Addr} {o : HO} (s : Sat K W H fp xf) (h : H p = none) : Sat K W (upd H p o) fp xf := by
  have n : ∀ a, H a ≠ none → upd H p o a = H a := fun a z => upd_ne fun e => z (by rw [e]; exact h)
  have nn : ∀ a, H a ≠ none → upd H p o a ≠ none := fun a z => by rw [n a z]; exact z
  refine ⟨fun a u e => ?_, ⟨fun a k ps e => ?_, fun p q e => let ⟨x, cs, y⟩ := s.vol.tb p q e; ⟨x, cs, by rw [n p (some_ne y)]; exact y⟩⟩, s.nd, fun a m => ?_, fun a m => ?_⟩
  · have q := s.sub a u e
    rw [n a (some_ne q)]; exact q
  · obtain ⟨g, u, q, v⟩ := s.vol a k ps e
    exact ⟨g, u, by rw [n a (some_ne q)]; exact q, v⟩
  · obtain ⟨a1, a2, a3⟩ := s.off a m
    exact ⟨a1, a2, nn a a3⟩
  · obtain ⟨a1, a2, a3⟩ := s.xof a m
    exact ⟨a1, a2, nn a a3⟩
theorem Sat.free (s : Sat K W H fp xf) {p : Addr} (h : H p = none) : W.G p = none ∧ W.S p = none := by
  constructor
  · cases q : W.G p with
    | none => rfl
    | some o => rw [s.sub p o q] at h; cases h
  · cases q : W.S p with
    | none => rfl
    | some o =>
      obtain ⟨k, ps⟩ := o
      obtain ⟨_, o, e, _⟩ := s.vol p k ps q
      rw [e] at h; cases h

structure Frz (K : PySem.W.Frag) (W : Wd) (H : Hp) (f : List Addr) (W' : Wd) : Prop where
  out : ∀ a, a ∉ f → W'.G a = W.G a ∧ W'.S a = W.S a
  g : ∀ a ∈ f, ∀ o, W'.G a = some o → H a = some o
  s : ∀ a ∈ f, ∀ k ps, W'.S a = some (k, ps) → W'.G a = none ∧ H a = some (.dT []) ∧ k ≠ 0
theorem Frz.le (z : Frz K W H f W') (h : ∀ a ∈ f, W.G a = none ∧ W.S a = none) : W.Le W' := by
  refine ⟨fun a o e => ?_, fun a o e => ?_⟩
  · have n : a ∉ f := fun m => by rw [(h a m).1] at e; cases e
    rw [(z.out a n).1]; exact e
  · have n : a ∉ f := fun m => by rw [(h a m).2] at e; cases e
    rw [(z.out a n).2]; exact e
theorem Frz.trans {g : List Addr} (a : Frz K W H f W1) (b : Frz K W1 H g W2) (d : ∀ x ∈ f, x ∉ g) : Frz K W H (f ++ g) W2 := by
  refine ⟨fun x n => ?_, fun x m o e => ?_, fun x m k ps e => ?_⟩
  · have n1 : x ∉ f := fun z => n (List.mem_append_left _ z)
    have n2 : x ∉ g := fun z => n (List.mem_append_right _ z)
    exact ⟨(b.out x n2).1.trans (a.out x n1).1, (b.out x n2).2.trans (a.out x n1).2⟩
  · rcases List.mem_append.mp m with m | m
    · rw [(b.out x (d x m)).1] at e; exact a.g x m o e
    · exact b.g x m o e
  · rcases List.mem_append.mp m with m | m
    · rw [(b.out x (d x m)).2] at e
      rw [(b.out x (d x m)).1]
      exact a.s x m k ps e
    · exact b.s x m k ps e
def Wd.put (W : Wd) (p : Addr) (o : HO) : Wd := ⟨upd W.G p o, W.S⟩
theorem Frz.put (z : Frz K W H f W') {p : Addr} {o : HO} (h : H p = some o) (n : W.S p = none) (m : p ∉ f) : Frz K W H (p :: f) (W'.put p o) := by
  refine ⟨fun a na => ?_, fun a ma u e => ?_, fun a ma k ps e => ?_⟩
  · have n1 : a ≠ p := fun q => na (by rw [q]; exact List.mem_cons_self)
    have n2 : a ∉ f := fun q => na (List.mem_cons_of_mem _ q)
    exact ⟨(upd_ne n1).trans (z.out a n2).1, (z.out a n2).2⟩
  · by_cases q : a = p
    · subst q
      have e2 : upd W'.G a o a = some u := e
      rw [upd_same] at e2
      cases e2
      exact h
    · have e2 : upd W'.G p o a = some u := e
      rw [upd_ne q] at e2
      exact z.g a ((List.mem_cons.mp ma).resolve_left q) u e2
  · by_cases q : a = p
    · subst q
      have e2 : W'.S a = some (k, ps) := e
      rw [(z.out a m).2, n] at e2
      cases e2
    · have e2 : W'.S a = some (k, ps) := e
      obtain ⟨r1, r2⟩ := z.s a ((List.mem_cons.mp ma).resolve_left q) k ps e2
      exact ⟨(upd_ne q).trans r1, r2⟩
theorem Frz.leP (z : Frz K W H f W') {p : Addr} {o : HO} (n : W'.G p = none) : W'.Le (W'.put p o) := ⟨fun a u e => by
  have q : a ≠ p := fun q => by rw [q, n] at e; cases e
  exact (upd_ne q).trans e, fun _ _ e => e⟩
mutual
theorem freeze : ∀ {t : OT} {v : V} {d : D} {f : List Addr} {W : Wd}, Own K W H v t f → Fz t d → f.Nodup → (∀ a ∈ f, W.G a = none ∧ W.S a = none) → ∃ W', Frz K W H f W' ∧ Rep K W' v d ∧ (t.fzd ≠ none → W'.S = W.S)
  | .leaf _, v, _, _, W, .leaf r, .leaf _, _, _ => ⟨W, ⟨fun _ _ => ⟨rfl, rfl⟩, fun _ m => (by cases m), fun _ m => (by cases m)⟩, r, fun _ => rfl⟩
  | _, _, _, _, W, .lst (p := p) (f := f) h r, .lst z, nd, off => by
    obtain ⟨n1, n2⟩ := List.nodup_cons.mp nd
    obtain ⟨W', F, R, sk⟩ := freezeAll r z n2 fun a m => off a (List.mem_cons_of_mem _ m)
    have g : W'.G p = none := (F.out p n1).1.trans (off p List.mem_cons_self).1
    exact ⟨_, F.put h (off p List.mem_cons_self).2 n1, .lst upd_same (R.mono (F.leP g)), fun q => sk fun q2 => q (by rw [OT.fzd, q2] <;> rfl)⟩
  | _, _, _, _, W, .tup (p := p) (f := f) h r, .tup z, nd, off => by
    obtain ⟨n1, n2⟩ := List.nodup_cons.mp nd
    obtain ⟨W', F, R, sk⟩ := freezeAll r z n2 fun a m => off a (List.mem_cons_of_mem _ m)
    have g : W'.G p = none := (F.out p n1).1.trans (off p List.mem_cons_self).1
    exact ⟨_, F.put h (off p List.mem_cons_self).2 n1, .tup upd_same (R.mono (F.leP g)), fun q => sk fun q2 => q (by rw [OT.fzd, q2] <;> rfl)⟩
  | _, _, _, _, W, .ins (p := p) (f := f) h r, .ins z, nd, off => by
    obtain ⟨n1, n2⟩ := List.nodup_cons.mp nd
    obtain ⟨W', F, R, sk⟩ := freezeAll r z n2 fun a m => off a (List.mem_cons_of_mem _ m)
    have g : W'.G p = none := (F.out p n1).1.trans (off p List.mem_cons_self).1
    exact ⟨_, F.put h (off p List.mem_cons_self).2 n1, .ins upd_same (R.mono (F.leP g)), fun q => sk fun q2 => q (by rw [OT.fzd, q2] <;> rfl)⟩
  | _, _, _, _, W, .dk (p := p) (f := f) h r, .dk z, nd, off => by
    obtain ⟨n1, n2⟩ := List.nodup_cons.mp nd
    obtain ⟨W', F, R, sk⟩ := freezeAll r z n2 fun a m => off a (List.mem_cons_of_mem _ m)
    have g : W'.G p = none := (F.out p n1).1.trans (off p List.mem_cons_self).1
    exact ⟨_, F.put h (off p List.mem_cons_self).2 n1, .dct upd_same (R.mono (F.leP g)), fun q => sk fun q2 => q (by rw [OT.fzd, q2] <;> rfl)⟩
  | _, _, _, _, W, .d0 (p := p) h, .d0 k ps, _, off => by
    obtain ⟨o1, o2⟩ := off p List.mem_cons_self
    refine ⟨⟨W.G, fun a => if a = p then some (k + 1, ps) else W.S a⟩, ⟨fun a n => ?_, fun a m o e => ?_, fun a m k' ps' e => ?_⟩, .vol (if_pos rfl), fun q => absurd (by rw [OT.fzd]) q⟩
    · have q : a ≠ p := fun z => n (by rw [z]; exact List.mem_cons_self)
      exact ⟨rfl, if_neg q⟩
    · rw [List.mem_singleton.mp m] at e
      rw [show W.G p = none from o1] at e; cases e
    · rw [List.mem_singleton.mp m] at e ⊢
      have e2 : (if p = p then some (k + 1, ps) else W.S p) = some (k', ps') := e
      rw [if_pos rfl] at e2
      cases e2
      exact ⟨o1, h, Nat.succ_ne_zero k⟩
theorem freezeAll : ∀ {ts : List OT} {vs : List V} {ds : List D} {f : List Addr} {W : Wd}, OwnAll K W H vs ts f → FzAll ts ds → f.Nodup → (∀ a ∈ f, W.G a = none ∧ W.S a = none) → ∃ W', Frz K W H f W' ∧ RepAll K W' vs ds ∧ (fzdAll ts ≠ none → W'.S = W.S)
  | _, _, _, _, W, .nil, .nil, _, _ => ⟨W, ⟨fun _ _ => ⟨rfl, rfl⟩, fun _ m => (by cases m), fun _ m => (by cases m)⟩, .nil, fun _ => rfl⟩
  | _, _, _, _, W, .cons (f := f) (g := g) h r, .cons z zs, nd, off => by
    obtain ⟨n1, n2, n3⟩ := List.nodup_append.mp nd
    obtain ⟨W1, F1, R1, k1⟩ := freeze h z n1 fun a m => off a (List.mem_append_left _ m)
    have d : ∀ x ∈ f, x ∉ g := fun x m1 m2 => n3 x m1 x m2 rfl
    have off2 : ∀ a ∈ g, W1.G a = none ∧ W1.S a = none := fun a m => by
      have n : a ∉ f := fun q => d a q m
      obtain ⟨e1, e2⟩ := F1.out a n
      obtain ⟨o1, o2⟩ := off a (List.mem_append_right _ m)
      exact ⟨e1.trans o1, e2.trans o2⟩
    have l1 : W.Le W1 := F1.le fun a m => off a (List.mem_append_left _ m)
    obtain ⟨W2, F2, R2, k2⟩ := freezeAll (r.mono l1 fun _ _ _ e => e) zs n2 off2
    refine ⟨W2, F1.trans F2 d, .cons (R1.mono (F2.le off2)) R2, fun q => ?_⟩
    rw [fzdAll] at q
    rw [k2 fun q2 => q (by rw [q2]; cases OT.fzd _ <;> rfl), k1 fun q1 => q (by rw [q1] <;> rfl)]
end
theorem Frz.sat (z : Frz K W H f W') (s : Sat K W H fp xf) (h : ∀ a ∈ f, W.G a = none ∧ W.S a = none ∧ H a ≠ none) (d : ∀ a ∈ f, a ∉ fp ∧ a ∉ xf) : Sat K W' H fp xf := by
  have l := z.le fun a m => ⟨(h a m).1, (h a m).2.1⟩
  refine ⟨fun a o e => ?_, ⟨fun a k ps e => ?_, fun p q e => let ⟨x, y⟩ := s.vol.tb p q e; ⟨l.s _ _ x, y⟩⟩, s.nd, fun a m => ?_, fun a m => ?_⟩
  · by_cases m : a ∈ f
    · exact z.g a m o e
    · rw [(z.out a m).1] at e; exact s.sub a o e
  · by_cases m : a ∈ f
    · obtain ⟨e1, e2, e3⟩ := z.s a m k ps e
      refine ⟨e1, _, e2, ?_⟩
      cases k with
      | zero => exact absurd rfl e3
      | succ k => exact .inl ⟨[], rfl, List.nodup_nil, fun _ m => by cases m⟩
    · rw [(z.out a m).2] at e
      obtain ⟨e1, o, e2, e3⟩ := s.vol a k ps e
      exact ⟨(z.out a m).1.trans e1, o, e2, e3.mono fun _ _ w => w.mono l⟩
  · have n : a ∉ f := fun q => (d a q).1 m
    obtain ⟨a1, a2, a3⟩ := s.off a m
    exact ⟨(z.out a n).1.trans a1, (z.out a n).2.trans a2, a3⟩
  · have n : a ∉ f := fun q => (d a q).2 m
    obtain ⟨a1, a2, a3⟩ := s.xof a m
    exact ⟨a1, (z.out a n).2.trans a2, a3⟩
theorem Frz.stp (z : Frz K W H f W') : Stp W H f W' H := ⟨fun a _ n => z.out a n, fun _ _ e _ _ => e, fun _ h => h⟩
end
theorem Sat.memo {K : PySem.W.Frag} {W : Wd} {H : Hp} {fp xf : List Addr} {a : Addr} {k : Nat} {ps : List D} {key : List Key} {d : D} (S : Sat K W H fp xf) (s : W.S a = some (k + 1, ps)) (hm : memo k ps key = some d) :
    W.G a = none ∧ ∃ o, H a = some o ∧ ∃ kvs : List (List Key × V), o = .dT kvs ∧ (kvs.map (·.1)).Nodup ∧ ∀ p ∈ kvs, ∃ d, memo k ps p.1 = some d ∧ Rep K W p.2 d := by
  obtain ⟨g, o, h, v⟩ := S.vol a _ _ s
  rcases v with v | ⟨rfl, _⟩
  · exact ⟨g, o, h, v⟩
  · cases (show none = some d from hm)
end R
namespace R
open PySem PySem.Spec PyProof.Rows L2
def LP (K : PySem.W.Frag) (m : DE) : TE := fun σ H Q => ∃ (W : Wd) (env : Env) (fp xf : List Addr) (Q0 : Rs → Prop), EnvOk K W H σ env fp xf ∧ Sat K W H fp xf ∧ m env Q0 ∧
  ∀ r, Q0 r → ∀ v W' H', Stp W H [] W' H' → Sat K W' H' fp xf → ResOk K H fp W' H' v r → Q v H'
def LT (K : PySem.W.Frag) (m : DT) : TT := fun σ H Q => ∃ (W : Wd) (env : Env) (fp xf : List Addr) (Q0 : Bool → Prop), EnvOk K W H σ env fp xf ∧ Sat K W H fp xf ∧ m env Q0 ∧
  ∀ r, Q0 r → ∀ W' H', Stp W H [] W' H' → Sat K W' H' fp xf → Q r H'
def Fresh (H : Hp) (W' : Wd) (g : List Addr) : Prop := g.Nodup ∧ ∀ a ∈ g, H a = none ∧ W'.G a = none ∧ W'.S a = none
def LA (K : PySem.W.Frag) (m : DA) : TA := fun σ H Q => ∃ (W : Wd) (env : Env) (fp xf : List Addr) (Q0 : List Rs → Prop), EnvOk K W H σ env fp xf ∧ Sat K W H fp xf ∧ m env Q0 ∧
  ∀ rs, Q0 rs → ∀ vs W' H' g, Stp W H [] W' H' → Sat K W' H' fp xf → ResAll K H fp W' H' vs rs g → Fresh H W' g → Q vs H'
theorem pe_imp {X : Cx} {e : Expr} {t t' : TE} (h : PE X e t) (k : ∀ σ H Q, t' σ H Q → t σ H Q) : PE X e t' := ⟨fun pins s σ H Q I w => h.run pins s σ H Q I (k σ H Q w)⟩
theorem pt_imp {X : Cx} {e : Expr} {t t' : TT} (h : PT X e t) (k : ∀ σ H Q, t' σ H Q → t σ H Q) : PT X e t' := ⟨fun pins s σ H Q I w => h.run pins s σ H Q I (k σ H Q w)⟩
theorem pw_imp {X : Cx} {e : Expr} {t t' : TT} (h : PW X e t) (k : ∀ σ H Q, t' σ H Q → t σ H Q) : PW X e t' := ⟨fun wh pins s σ H Q I w => h.run wh pins s σ H Q I (k σ H Q w)⟩
theorem pa_imp {X : Cx} {e : List Expr} {t t' : TA} (h : PA X e t) (k : ∀ σ H Q, t' σ H Q → t σ H Q) : PA X e t' := ⟨fun pos pins s σ H Q I w => h.run pos pins s σ H Q I (k σ H Q w)⟩
theorem ps_imp {X : Cx} {e : Stmt} {t t' : TS} (h : PS X e t) (k : ∀ D σ H, t' D σ H → t D σ H) : PS X e t' := ⟨fun pins s σ H D I w => h.run pins s σ H D I (k D σ H w)⟩
theorem pss_imp {X : Cx} {e : List Stmt} {t t' : TS} (h : PSs X e t) (k : ∀ D σ H, t' D σ H → t D σ H) : PSs X e t' := ⟨fun pins s σ H D I w => h.run pins s σ H D I (k D σ H w)⟩
section
variable {K : PySem.W.Frag} {W W1 W2 W' : Wd} {H H1 H2 H' : Hp} {f f1 fp xf : List Addr} {σ : L2.St} {Q : VK} {r : Rs} {v : V} {env : Env}
theorem Stp.kpS (t : Stp W H [] W' H') {a : Addr} (h : H a ≠ none) : W'.G a = W.G a ∧ W'.S a = W.S a := t.wx a h (by simp)
theorem ResOk.keep (h : ResOk K H fp W1 H1 v r) (t : Stp W1 H1 [] W2 H2) (l : W1.Le W2) : ResOk K H fp W2 H2 v r := by
  cases r with
  | fz d => exact Rep.mono l h
  | nw x =>
    obtain ⟨f, o, nd, z⟩ := h
    refine ⟨f, o.mono l fun a m u e => t.kp a u e (by simp) (z a m).2.2, nd, fun a m => ?_⟩
    obtain ⟨e1, e2⟩ := t.kpS (o.alloc a m)
    obtain ⟨z1, z2, z3⟩ := z a m
    exact ⟨z1, e1.trans z2, e2.trans z3⟩
  | br x =>
    obtain ⟨f, o, z⟩ := h
    exact ⟨f, o.mono l fun a m u e => t.kp a u e (by simp) (z a m), fun a m => (t.kpS (o.alloc a m)).2.trans (z a m)⟩
  | ex x =>
    obtain ⟨f, o, z⟩ := h
    exact ⟨f, o.mono l fun a m u e => t.kp a u e (by simp) (z a m).1, fun a m => ⟨(t.kpS (o.alloc a m)).2.trans (z a m).1, (z a m).2⟩⟩
theorem ResOk.back (h : ResOk K H1 fp W2 H2 v r) (t : ∀ a, H a ≠ none → H1 a ≠ none) : ResOk K H fp W2 H2 v r := by
  cases r with
  | fz d => exact h
  | nw x =>
    obtain ⟨f, o, nd, z⟩ := h
    refine ⟨f, o, nd, fun a m => ⟨?_, (z a m).2⟩⟩
    cases q : H a with
    | none => rfl
    | some u => exact absurd (z a m).1 (t a (by rw [q]; exact fun z => nomatch z))
  | br x => exact h
  | ex x => exact h
theorem fresh_back {g : List Addr} (h : Fresh H1 W2 g) (t : ∀ a, H a ≠ none → H1 a ≠ none) : Fresh H W2 g := ⟨h.1, fun a m => ⟨by
  cases q : H a with
  | none => rfl
  | some u => exact absurd (h.2 a m).1 (t a (by rw [q]; exact fun z => nomatch z)), (h.2 a m).2⟩⟩
theorem ResAll.back {vs : List V} {rs : List Rs} {g : List Addr} (h : ResAll K H1 fp W2 H2 vs rs g) : ResAll K H fp W2 H2 vs rs g := by
  induction h with
  | nil => exact .nil
  | fz r _ ih => exact .fz r ih
  | nw r _ ih => exact .nw r ih
  | br r z _ ih => exact .br r z ih
  | ex r z _ ih => exact .ex r z ih
theorem ffz_ok (S : Sat K W H fp xf) (t : Stp W H [] W1 H1) (S1 : Sat K W1 H1 fp xf) (o : ResOk K H fp W1 H1 v r) : ∃ W', Stp W H [] W' H1 ∧ Sat K W' H1 fp xf ∧ W1.Le W' ∧ ResOk K H fp W' H1 v r.ffz := by
  cases r with
  | fz d => exact ⟨W1, t, S1, .refl _, o⟩
  | br d => exact ⟨W1, t, S1, .refl _, o⟩
  | ex d => exact ⟨W1, t, S1, .refl _, o⟩
  | nw x =>
    cases q : x.fzd with
    | none => exact ⟨W1, t, S1, .refl _, by show ResOk K H fp W1 H1 v (match x.fzd with | some d => .fz d | none => .nw x); rw [q]; exact o⟩
    | some d =>
      obtain ⟨f, ow, nd, z⟩ := o
      obtain ⟨W', F, R, _⟩ := freeze ow (Fz.of q) nd fun a m => (z a m).2
      have za : ∀ a ∈ f, a ∉ fp ∧ a ∉ xf := fun a m => ⟨fun m2 => (S.off a m2).2.2 (z a m).1, fun m2 => (S.xof a m2).2.2 (z a m).1⟩
      refine ⟨W', ?_, F.sat S1 (fun a m => ⟨(z a m).2.1, (z a m).2.2, ow.alloc a m⟩) za, F.le fun a m => (z a m).2, ?_⟩
      · exact t.trans F.stp fun a m => .inr (z a m).1
      · show ResOk K H fp W' H1 v (match x.fzd with | some d => .fz d | none => .nw x)
        rw [q]; exact R
structure Ops (K : PySem.W.Frag) (H : Hp) (Q : VK) (Q0 : Rs → Prop) (W2 : Wd) (H2 : Hp) (W : Wd) (fp xf : List Addr) : Prop where
  S : Sat K W H fp xf
  t : Stp W H [] W2 H2
  S2 : Sat K W2 H2 fp xf
  k : ∀ r, Q0 r → ∀ v W' H', Stp W H [] W' H' → Sat K W' H' fp xf → ResOk K H fp W' H' v r → Q v H'
theorem Ops.fin {Q0 : Rs → Prop} (o : Ops K H Q Q0 W2 H2 W fp xf) {d : D} (q : Q0 (.fz d)) (h : Rep K W2 v d) : Q v H2 := o.k _ q v W2 H2 o.t o.S2 h
theorem Ops.res {Q0 : Rs → Prop} (o : Ops K H Q Q0 W2 H2 W fp xf) (q : Q0 r) (h : ResOk K H fp W2 H2 v r) : Q v H2 := o.k _ q v W2 H2 o.t o.S2 h
theorem OwnAll.leafs {vs : List V} : ∀ {vs : List V} {ds : List D}, RepAll K W vs ds → OwnAll K W H vs (ds.map .leaf) []
  | _, _, .nil => .nil
  | _, _, .cons r rs => .cons (f := []) (g := []) (.leaf r) (OwnAll.leafs (vs := []) rs)
theorem Ops.newL {Q0 : Rs → Prop} (o : Ops K H Q Q0 W2 H2 W fp xf) {ds : List D} {vs : List V} (q : Q0 (.nw (.lst (ds.map .leaf)))) (h : RepAll K W2 vs ds) (p : Addr) (n : H2 p = none) : Q (.ref p) (upd H2 p (.lst vs)) := by
  have hn : H p = none := by
    cases z : H p with
    | none => rfl
    | some u => exact absurd n (o.t.al p (some_ne z))
  refine o.k _ q _ W2 _ (o.t.tr0 (.new n)) (o.S2.new n) ⟨[p], .lst upd_same (OwnAll.leafs (vs := []) h), List.nodup_cons.mpr ⟨by simp, List.nodup_nil⟩, fun a m => ?_⟩
  rw [List.mem_singleton.mp m]
  exact ⟨hn, (o.S2.free n).1, (o.S2.free n).2⟩
theorem Ops.newT {Q0 : Rs → Prop} (o : Ops K H Q Q0 W2 H2 W fp xf) {ds : List D} {vs : List V} (q : Q0 (.nw (.tup (ds.map .leaf)))) (h : RepAll K W2 vs ds) (p : Addr) (n : H2 p = none) : Q (.ref p) (upd H2 p (.tup vs)) := by
  have hn : H p = none := by
    cases z : H p with
    | none => rfl
    | some u => exact absurd n (o.t.al p (some_ne z))
  refine o.k _ q _ W2 _ (o.t.tr0 (.new n)) (o.S2.new n) ⟨[p], .tup upd_same (OwnAll.leafs (vs := []) h), List.nodup_cons.mpr ⟨by simp, List.nodup_nil⟩, fun a m => ?_⟩
  rw [List.mem_singleton.mp m]
  exact ⟨hn, (o.S2.free n).1, (o.S2.free n).2⟩
theorem LP.two {ma mb : DE} {R : Rs → Rs → (Rs → Prop) → Prop} {q : V → V → Hp → Prop} (h : LP K (mOp R ma mb) σ H Q)
    (hop : ∀ (W : Wd) (fp xf : List Addr) (Q0 : Rs → Prop) r1 r2 v1 v2 W2 H2, R r1 r2 Q0 → Ops K H Q Q0 W2 H2 W fp xf → ResOk K H fp W2 H2 v1 r1 → ResOk K H fp W2 H2 v2 r2 → q v1 v2 H2) : LP K ma σ H fun x H1 => LP K mb σ H1 fun y H2 => q x y H2 := by
  obtain ⟨W, env, fp, xf, Q0, E, S, hm, k⟩ := h
  refine ⟨W, env, fp, xf, _, E, S, hm, fun r1 h1 v1 W1' H1 t1' S1' o1' => ?_⟩
  obtain ⟨W1, t1, S1, _, o1⟩ := ffz_ok S t1' S1' o1'
  refine ⟨W1, env, fp, xf, _, E.keep S t1, S1, h1, fun r2 h2 v2 W2' H2 t2' S2' o2' => ?_⟩
  obtain ⟨W2, t2, S2, _, o2⟩ := ffz_ok S1 t2' S2' o2'
  have l := t2.le S1 fun _ m => by cases m
  exact hop W fp xf Q0 r1.ffz r2.ffz v1 v2 W2 H2 h2 ⟨S, t1.tr0 t2, S2, k⟩ (o1.keep t2 l) (o2.back t1.al)
theorem LP.one {ma : DE} {R : Rs → (Rs → Prop) → Prop} {q : V → Hp → Prop} (h : LP K (mUn R ma) σ H Q)
    (hop : ∀ (W : Wd) (fp xf : List Addr) (Q0 : Rs → Prop) r1 v1 W2 H2, R r1 Q0 → Ops K H Q Q0 W2 H2 W fp xf → ResOk K H fp W2 H2 v1 r1 → q v1 H2) : LP K ma σ H q := by
  obtain ⟨W, env, fp, xf, Q0, E, S, hm, k⟩ := h
  refine ⟨W, env, fp, xf, _, E, S, hm, fun r1 h1 v1 W1' H1 t1' S1' o1' => ?_⟩
  obtain ⟨W1, t1, S1, _, o1⟩ := ffz_ok S t1' S1' o1'
  exact hop W fp xf Q0 r1.ffz v1 W1 H1 h1 ⟨S, t1, S1, k⟩ o1
theorem OwnAll.reps : ∀ {vs : List V} {ts : List OT} {ds : List D} {f : List Addr}, OwnAll K W H vs ts f → leaves ts = some ds → RepAll K W vs ds
  | _, _, _, _, .nil, h => by cases h; exact .nil
  | _, .leaf d :: ts, es, _, .cons (.leaf r) rs, h => by
    cases q : leaves ts with
    | none => rw [leaves, q] at h; cases h
    | some ds =>
      rw [leaves, q] at h
      cases h
      exact .cons r (OwnAll.reps rs q)
theorem els_L {ds : List D} (h : r.els true = some ds) (o : ResOk K H fp W2 H2 v r) (S : Sat K W2 H2 fp xf) : ∃ p vs, v = .ref p ∧ H2 p = some (.lst vs) ∧ RepAll K W2 vs ds := by
  unfold Rs.els at h
  split at h
  · cases h
    cases (show Rep K W2 v (.lst ds) from o) with
    | lst g r => exact ⟨_, _, rfl, S.sub _ _ g, r⟩
  · cases h
  · obtain ⟨f, o, _⟩ := o
    cases o with
    | lst g r => exact ⟨_, _, rfl, g, r.reps h⟩
  · obtain ⟨f, o, _⟩ := o
    cases o with
    | lst g r => exact ⟨_, _, rfl, g, r.reps h⟩
  · cases h
  · cases h
  · cases h
theorem els_T {ds : List D} (h : r.els false = some ds) (o : ResOk K H fp W2 H2 v r) (S : Sat K W2 H2 fp xf) : ∃ p vs, v = .ref p ∧ H2 p = some (.tup vs) ∧ RepAll K W2 vs ds := by
  unfold Rs.els at h
  split at h
  · cases h
  · cases h
    cases (show Rep K W2 v (.tup ds) from o) with
    | tup g r => exact ⟨_, _, rfl, S.sub _ _ g, r⟩
  · cases h
  · cases h
  · obtain ⟨f, o, _⟩ := o
    cases o with
    | tup g r => exact ⟨_, _, rfl, g, r.reps h⟩
  · obtain ⟨f, o, _⟩ := o
    cases o with
    | tup g r => exact ⟨_, _, rfl, g, r.reps h⟩
  · cases h
theorem RepAll.len {vs : List V} {ds : List D} (h : RepAll K W vs ds) : vs.length = ds.length := by
  induction ds generalizing vs with
  | nil => cases h; rfl
  | cons d ds ih =>
    cases h with
    | cons r rs => rw [List.length_cons, List.length_cons, ih rs]
theorem RepAll.app : ∀ {vs us : List V} {ds es : List D}, RepAll K W vs ds → RepAll K W us es → RepAll K W (vs ++ us) (ds ++ es)
  | _, _, _, _, .nil, h => h
  | _, _, _, _, .cons r rs, h => .cons r (RepAll.app rs h)
theorem RepAll.rep {vs : List V} {ds : List D} (h : RepAll K W vs ds) : ∀ n : Nat, RepAll K W (List.replicate n vs).flatten (List.replicate n ds).flatten
  | 0 => .nil
  | n + 1 => by
    rw [List.replicate_succ, List.replicate_succ, List.flatten_cons, List.flatten_cons]
    exact RepAll.app h (RepAll.rep h n)
theorem int_of {i : Int} (h : ResOk K H fp W' H' v (.fz (.int i))) : v = .int i := by
  have h : Rep K W' v (.int i) := h
  cases h
  rfl
theorem bl_of {i : Bool} (h : ResOk K H fp W' H' v (.fz (.bl i))) : v = .bl i := by
  have h : Rep K W' v (.bl i) := h
  cases h
  rfl
theorem str_of {i : Str} (h : ResOk K H fp W' H' v (.fz (.str i))) : v = .str i := by
  have h : Rep K W' v (.str i) := h
  cases h
  rfl
theorem i2_inv {C : Int → Int → Prop} {g : Int → Int → D} {x y : Rs} {Q : Rs → Prop} (h : i2 C g x y Q) : ∃ i j, x = .fz (.int i) ∧ y = .fz (.int j) ∧ C i j ∧ Q (.fz (g i j)) := by
  unfold i2 at h
  split at h
  · exact ⟨_, _, rfl, rfl, h⟩
  · exact h.elim
theorem EnvOk.get0 {σ : L2.St} {fp0 xf0 : List Addr} (E : EnvOk K W H σ env fp0 xf0) : ∀ {i : Nat} {r : Rs}, env[i]? = some (some r) → (∀ a ∈ fp0, W.S a = none) → (∀ a ∈ xf0, W.S a = none ∧ a ∉ fp) → ∃ v, σ[i]? = some (some v) ∧ ResOk K H fp W H v r.rd ∧ (∀ d, r = .fz d → Rep K W v d) := by
  induction E with
  | nil => intro _ _ e; simp at e
  | no _ ih =>
    intro i r e a b
    cases i with
    | zero => simp at e
    | succ i => exact ih (by simpa using e) a b
  | fz q _ ih =>
    intro i r e a b
    cases i with
    | zero =>
      simp at e
      subst e
      exact ⟨_, rfl, q, fun d z => by cases z; exact q⟩
    | succ i => exact ih (by simpa using e) a b
  | nw q _ ih =>
    intro i r e a b
    cases i with
    | zero =>
      simp at e
      subst e
      exact ⟨_, rfl, ⟨_, q, fun c m => a c (List.mem_append_left _ m)⟩, fun d z => by cases z⟩
    | succ i => exact ih (by simpa using e) (fun c m => a c (List.mem_append_right _ m)) b
  | ex q _ ih =>
    intro i r e a b
    cases i with
    | zero =>
      simp at e
      subst e
      exact ⟨_, rfl, ⟨_, q, fun c m => b c (List.mem_append_left _ m)⟩, fun d z => by cases z⟩
    | succ i => exact ih (by simpa using e) a fun c m => b c (List.mem_append_right _ m)
theorem EnvOk.get {i : Nat} {σ : L2.St} (E : EnvOk K W H σ env fp xf) (e : env[i]? = some (some r)) (S : Sat K W H fp xf) : ∃ v, σ[i]? = some (some v) ∧ ResOk K H fp W H v r.rd ∧ (∀ d, r = .fz d → Rep K W v d) :=
  E.get0 e (fun a m => (S.off a m).2.1) fun a m => ⟨(S.xof a m).2.1, (S.xof a m).1⟩
end
section
variable {X : Cx} {a b c : Expr} {ma mb mc : DE} {pos : Pos} {ta tb : DT} {rest : List Expr}
theorem dp_var {i : Nat} {x : Str} (hN : X.N[i]? = some x := by rfl) (hv : Vis X.env.scope x := by first | exact Or.inl rfl | exact Or.inr (Or.inl rfl) | exact Or.inr (Or.inr rfl)) (hd : (x == ("__debug__" : Str)) = false := by decide)
    (hcd : (x == ("__classdict__" : Str)) = false := by decide) : PE X (.Name x pos) (LP X.K (mVar i)) := pe_imp (pe_var (i := i) hN hv hd hcd) fun σ H Q h => by
  obtain ⟨W, env, fp, xf, Q0, E, S, ⟨r, e, hm⟩, k⟩ := h
  obtain ⟨v, e2, o, _⟩ := E.get e S
  exact ⟨v, e2, k _ hm v W H .refl S o⟩
theorem dp_c {d : D} {v : V} {e : Expr} (h : PE X e (tC v)) (r : ∀ W, Rep X.K W v d) : PE X e (LP X.K (mC d)) := pe_imp h fun σ H Q h => by
  obtain ⟨W, env, fp, xf, Q0, E, S, hm, k⟩ := h
  exact k _ hm v W H .refl S (r W)
theorem dp_int {i j pos} : PE X (.Constant (.int i) j pos) (LP X.K (mC (.int i))) := dp_c pe_int fun _ => .int i
theorem dp_bl {i j pos} : PE X (.Constant (.bool i) j pos) (LP X.K (mC (.bl i))) := dp_c pe_bl fun _ => .bl i
theorem dp_non {j pos} : PE X (.Constant .none j pos) (LP X.K (mC .non)) := dp_c pe_non fun _ => .non
theorem dp_str {i j pos} : PE X (.Constant (.str i) j pos) (LP X.K (mC (.str i))) := dp_c pe_str fun _ => .str i
theorem dp_glob {x : Str} {v : V} {u : Value} {d : D} (hg : Gl X x) (hm : X.mg x = some u) (r : RelV v u) (q : ∀ W, Rep X.K W v d) (hd : (x == ("__debug__" : Str)) = false := by decide) : PE X (.Name x pos) (LP X.K (mC d)) := dp_c (pe_glob hg hm r hd) q
theorem r_i2 {K : PySem.W.Frag} {σ : L2.St} {H : Hp} {Q : VK} {C C' : Int → Int → Prop} {g : Int → Int → D} {g' : Int → Int → V} (hC : ∀ i j, C i j → C' i j) (hg : ∀ i j W, C i j → Rep K W (g' i j) (g i j)) (h : LP K (mOp (i2 C g) ma mb) σ H Q) : tOp (rI C' g') (LP K ma) (LP K mb) σ H Q :=
  h.two fun W fp xf Q0 r1 r2 v1 v2 W2 H2 hr O o1 o2 => by
    obtain ⟨i, j, rfl, rfl, hc, q⟩ := i2_inv hr
    exact ⟨i, j, int_of o1, int_of o2, hC i j hc, O.fin q (hg i j W2 hc)⟩
theorem r_i0 {K : PySem.W.Frag} {σ : L2.St} {H : Hp} {Q : VK} {C : Int → Int → Prop} {g : Int → Int → D} {g' : Int → Int → V} (hg : ∀ i j W, C i j → Rep K W (g' i j) (g i j)) (h : LP K (mOp (i2 C g) ma mb) σ H Q) : tOp (rI0 g') (LP K ma) (LP K mb) σ H Q :=
  h.two fun W fp xf Q0 r1 r2 v1 v2 W2 H2 hr O o1 o2 => by
    obtain ⟨i, j, rfl, rfl, hc, q⟩ := i2_inv hr
    exact ⟨i, j, int_of o1, int_of o2, O.fin q (hg i j W2 hc)⟩
theorem dp_sub (ha : PE X a (LP X.K ma)) (hb : PE X b (LP X.K mb)) : PE X (.BinOp a .Sub b pos) (LP X.K (mOp oSub ma mb)) := pe_imp (pe_op op_sub ha hb) fun _ _ _ h => r_i0 (fun _ _ _ _ => .int _) h
theorem dp_mod (ha : PE X a (LP X.K ma)) (hb : PE X b (LP X.K mb)) : PE X (.BinOp a .Mod b pos) (LP X.K (mOp oMod ma mb)) := pe_imp (pe_op op_mod ha hb) fun _ _ _ h => r_i2 (fun _ _ c => c) (fun _ _ _ _ => .int _) h
theorem dp_div (ha : PE X a (LP X.K ma)) (hb : PE X b (LP X.K mb)) : PE X (.BinOp a .FloorDiv b pos) (LP X.K (mOp oDiv ma mb)) := pe_imp (pe_op op_fdivW ha hb) fun _ _ _ h => r_i2 (fun _ _ c => c) (fun _ _ _ _ => .int _) h
theorem dp_pow (ha : PE X a (LP X.K ma)) (hb : PE X b (LP X.K mb)) : PE X (.BinOp a .Pow b pos) (LP X.K (mOp oPow ma mb)) := pe_imp (pe_op op_pow ha hb) fun _ _ _ h => r_i2 (fun _ _ c => c) (fun _ _ _ _ => .int _) h
theorem dp_le (ha : PE X a (LP X.K ma)) (hb : PE X b (LP X.K mb)) : PE X (.Compare a [.LtE] [b] pos) (LP X.K (mOp oLe ma mb)) := pe_imp (pe_cmpR op_le ha hb (nomark _)) fun _ _ _ h => r_i0 (fun _ _ _ _ => .bl _) h
theorem dt_val {e : Expr} (h : PE X e (LP X.K ma)) (he : ∀ whole, isTrue e X.env whole = (do let v ← whole; standAt e.pos; holding [v] (truthy v)) := by intro _; rfl) : PT X e (LT X.K (mT ma)) := pt_imp (pt_val h he) fun σ H Q h => by
  obtain ⟨W, env, fp, xf, Q0, E, S, hm, k⟩ := h
  refine ⟨W, env, fp, xf, _, E, S, hm, fun r1 h1 v1 W1 H1 t1 S1 o1 => ?_⟩
  split at h1
  · exact ⟨_, bl_of o1, k _ h1 W1 H1 t1 S1⟩
  · exact h1.elim
theorem sizeL_eq : sizeL = sizeLine := sizeLine_eq.symm
def rAddAll (K : PySem.W.Frag) : R2 := fun x y H Q => (rI0 (fun i j => .int (i + j))) x y H Q ∨ (∃ i j, x = .str i ∧ y = .str j ∧ i.length + j.length ≤ sizeLine ∧ Q (.str (i ++ j)) H) ∨ rCat x y H Q ∨ rCatT K x y H Q
theorem op_addAll : OpR X (binaryOp .Add) (rAddAll X.K) := op_add.or (op_add_str.or (op_cat.or op_catT))
theorem dp_add (ha : PE X a (LP X.K ma)) (hb : PE X b (LP X.K mb)) : PE X (.BinOp a .Add b pos) (LP X.K (mOp oAdd ma mb)) := pe_imp (pe_op op_addAll ha hb) fun σ H Q h =>
  h.two fun W fp xf Q0 r1 r2 v1 v2 W2 H2 hr O o1 o2 => by
    unfold oAdd at hr
    split at hr
    · exact .inl ⟨_, _, int_of o1, int_of o2, O.fin hr (.int _)⟩
    · exact .inr (.inl ⟨_, _, str_of o1, str_of o2, by rw [← sizeL_eq]; exact hr.1, O.fin hr.2 (.str _)⟩)
    · rcases hr with ⟨ds, es, e1, e2, hl, q⟩ | ⟨ds, es, e1, e2, n1, n2, hl, q⟩
      · obtain ⟨p, vs, rfl, g1, s1⟩ := els_L e1 o1 O.S2
        obtain ⟨p2, us, rfl, g2, s2⟩ := els_L e2 o2 O.S2
        exact .inr (.inr (.inl ⟨p, p2, vs, us, rfl, rfl, g1, g2, by rw [← sizeL_eq, s1.len, s2.len]; exact hl, fun l n => O.newL q (s1.app s2) l n⟩))
      · obtain ⟨p, vs, rfl, g1, s1⟩ := els_T e1 o1 O.S2
        obtain ⟨p2, us, rfl, g2, s2⟩ := els_T e2 o2 O.S2
        have m1 : vs ≠ [] := fun z => n1 (List.eq_nil_of_length_eq_zero (by rw [← s1.len, z] <;> rfl))
        have m2 : us ≠ [] := fun z => n2 (List.eq_nil_of_length_eq_zero (by rw [← s2.len, z] <;> rfl))
        exact .inr (.inr (.inr ⟨p, p2, vs, us, rfl, rfl, .of g1, .of g2, m1, by rw [← sizeL_eq, s1.len, s2.len]; exact hl, fun z => absurd z m2, fun _ l n => O.newT q (s1.app s2) l n⟩))
def rMulAll : R2 := fun x y H Q => (rI CMul fun i j => .int (i * j)) x y H Q ∨ rRep x y H Q
theorem op_mulAll : OpR X (binaryOp .Mult) rMulAll := op_mul.or op_rep
theorem dp_mul (ha : PE X a (LP X.K ma)) (hb : PE X b (LP X.K mb)) : PE X (.BinOp a .Mult b pos) (LP X.K (mOp oMul ma mb)) := pe_imp (pe_op op_mulAll ha hb) fun σ H Q h =>
  h.two fun W fp xf Q0 r1 r2 v1 v2 W2 H2 hr O o1 o2 => by
    unfold oMul at hr
    split at hr
    · exact .inl ⟨_, _, int_of o1, int_of o2, hr.1, O.fin hr.2 (.int _)⟩
    · obtain ⟨ds, e, k1, k2, k3, q⟩ := hr
      obtain ⟨p, vs, rfl, g1, s1⟩ := els_L e o1 O.S2
      exact .inr ⟨p, _, vs, rfl, int_of o2, g1, k1, k2, by rw [← sizeL_eq, s1.len]; exact k3, fun l n => O.newL q (s1.rep _) l n⟩
    · exact hr.elim
theorem dp_neg (ha : PE X a (LP X.K ma)) : PE X (.UnaryOp .USub a pos) (LP X.K (mUn oNeg ma)) := pe_imp (pe_un un_neg ha) fun σ H Q h =>
  h.one fun W fp xf Q0 r1 v1 W2 H2 hr O o1 => by
    unfold oNeg at hr
    split at hr
    · exact ⟨_, int_of o1, O.fin hr (.int _)⟩
    · exact hr.elim
end
end R
namespace R
open PySem PySem.Spec PyProof.Rows L2
section
variable {K : PySem.W.Frag} {W W1 W2 W' : Wd} {H H1 H2 H' : Hp} {f f1 fp xf : List Addr} {σ : L2.St} {Q : VK} {r : Rs} {v : V} {env : Env}
theorem ResOk.own (o : ResOk K H fp W2 H2 v r) : ∃ f, Own K W2 H2 v r.t f := by
  cases r with
  | fz d => exact ⟨[], .leaf o⟩
  | nw t => obtain ⟨f, o, _⟩ := o; exact ⟨f, o⟩
  | br t => obtain ⟨f, o, _⟩ := o; exact ⟨f, o⟩
  | ex t => obtain ⟨f, o, _⟩ := o; exact ⟨f, o⟩
theorem kids_ok {ts : List OT} (h : r.t.kids = some ts) (o : ResOk K H fp W2 H2 v r) (S : Sat K W2 H2 fp xf) : ∃ p vs f, v = .ref p ∧ (SqL K H2 p vs ∨ SqT K H2 p vs) ∧ OwnAll K W2 H2 vs ts f ∧
    (match r with | .ex _ => ∀ a ∈ f, W2.S a = none ∧ a ∉ fp | .fz _ => f = [] | _ => ∀ a ∈ f, W2.S a = none) := by
  have lf : ∀ {d : D}, Rep K W2 v d → (OT.leaf d).kids = some ts → ∃ p vs, v = .ref p ∧ (SqL K H2 p vs ∨ SqT K H2 p vs) ∧ OwnAll K W2 H2 vs ts [] := by
    intro d q h
    cases q with
    | lst g r => cases h; exact ⟨_, _, rfl, .inl (.of (S.sub _ _ g)), OwnAll.leafs (vs := []) r⟩
    | tup g r => cases h; exact ⟨_, _, rfl, .inr (.of (S.sub _ _ g)), OwnAll.leafs (vs := []) r⟩
    | rol g r => cases h; exact ⟨_, _, rfl, .inl (SqL.mono S.sub g), OwnAll.leafs (vs := []) r⟩
    | non => cases h
    | bl _ => cases h
    | int _ => cases h
    | str _ => cases h
    | ins _ _ => cases h
    | vol _ => cases h
    | dct _ _ => cases h
    | any _ => cases h
    | adr _ => cases h
    | cod _ => cases h
    | obj _ _ => cases h
  have own : ∀ {t : OT} {f : List Addr}, Own K W2 H2 v t f → t.kids = some ts → ∃ p vs f', v = .ref p ∧ (SqL K H2 p vs ∨ SqT K H2 p vs) ∧ OwnAll K W2 H2 vs ts f' ∧ ∀ a ∈ f', a ∈ f := by
    intro t f o h
    cases o with
    | leaf q =>
      obtain ⟨p, vs, e, s, w⟩ := lf q h
      exact ⟨p, vs, [], e, s, w, fun _ m => by cases m⟩
    | lst g r => cases h; exact ⟨_, _, _, rfl, .inl (.of g), r, fun _ m => List.mem_cons_of_mem _ m⟩
    | tup g r => cases h; exact ⟨_, _, _, rfl, .inr (.of g), r, fun _ m => List.mem_cons_of_mem _ m⟩
    | ins _ _ => cases h
    | d0 _ => cases h
    | xo _ => cases h
    | dk _ _ => cases h
  cases r with
  | fz d =>
    obtain ⟨p, vs, e, s, w⟩ := lf o h
    exact ⟨p, vs, [], e, s, w, rfl⟩
  | nw t =>
    obtain ⟨f, o, z⟩ := o
    obtain ⟨p, vs, f', e, s, w, i⟩ := own o h
    exact ⟨p, vs, f', e, s, w, fun a m => (z.2 a (i a m)).2.2⟩
  | br t =>
    obtain ⟨f, o, z⟩ := o
    obtain ⟨p, vs, f', e, s, w, i⟩ := own o h
    exact ⟨p, vs, f', e, s, w, fun a m => z a (i a m)⟩
  | ex t =>
    obtain ⟨f, o, z⟩ := o
    obtain ⟨p, vs, f', e, s, w, i⟩ := own o h
    exact ⟨p, vs, f', e, s, w, fun a m => z a (i a m)⟩
theorem OwnAll.len : ∀ {vs : List V} {ts : List OT} {f : List Addr}, OwnAll K W H vs ts f → vs.length = ts.length
  | _, _, _, .nil => rfl
  | _, _, _, .cons _ r => by rw [List.length_cons, List.length_cons, OwnAll.len r]
theorem OwnAll.get : ∀ {vs : List V} {ts : List OT} {f : List Addr} {i : Nat} {t : OT}, OwnAll K W H vs ts f → ts[i]? = some t → ∃ v g, vs[i]? = some v ∧ Own K W H v t g ∧ ∀ a ∈ g, a ∈ f
  | _, _, _, _, _, .nil, h => by simp at h
  | _, _, _, 0, _, .cons o _, h => by
    simp at h
    subst h
    exact ⟨_, _, rfl, o, fun _ m => List.mem_append_left _ m⟩
  | _, _, _, i + 1, _, .cons _ r, h => by
    obtain ⟨v, g, e, o, z⟩ := OwnAll.get (i := i) r (by simpa using h)
    exact ⟨v, g, by simpa using e, o, fun a m => List.mem_append_right _ (z a m)⟩
theorem kid_ok {ts : List OT} {t : OT} {i : Int} (h : r.t.kids = some ts) (e : at' ts i = some t) (o : ResOk K H fp W2 H2 v r) (S : Sat K W2 H2 fp xf) :
    ∃ p vs u, v = .ref p ∧ (SqL K H2 p vs ∨ SqT K H2 p vs) ∧ atI vs i = some u ∧ ResOk K H fp W2 H2 u (r.kid t) := by
  obtain ⟨p, vs, f, ev, s, w, z⟩ := kids_ok h o S
  have e' := e
  unfold at' at e'
  cases q : ixN' ts.length i with
  | none => rw [q] at e'; cases e'
  | some j =>
    rw [q] at e'
    obtain ⟨u, g, eu, ow, i2⟩ := w.get (show ts[j]? = some t from e')
    refine ⟨p, vs, u, ev, s, ?_, ?_⟩
    · show (ixN' vs.length i).bind (fun j => vs[j]?) = some u
      rw [w.len, q]
      exact eu
    · have lf : ∀ d, t = .leaf d → Rep K W2 u d := by
        intro d e
        subst e
        cases ow with
        | leaf q => exact q
      cases r with
      | fz d =>
        have z : f = [] := z
        subst z
        cases t with
        | leaf d => exact lf d rfl
        | lst _ => exact ⟨g, ow, fun a m => absurd (i2 a m) (by simp)⟩
        | tup _ => exact ⟨g, ow, fun a m => absurd (i2 a m) (by simp)⟩
        | ins _ _ _ => exact ⟨g, ow, fun a m => absurd (i2 a m) (by simp)⟩
        | d0 => exact ⟨g, ow, fun a m => absurd (i2 a m) (by simp)⟩
        | xo => exact ⟨g, ow, fun a m => absurd (i2 a m) (by simp)⟩
        | dk _ _ => exact ⟨g, ow, fun a m => absurd (i2 a m) (by simp)⟩
      | nw x =>
        cases t with
        | leaf d => exact lf d rfl
        | lst _ => exact ⟨g, ow, fun a m => z a (i2 a m)⟩
        | tup _ => exact ⟨g, ow, fun a m => z a (i2 a m)⟩
        | ins _ _ _ => exact ⟨g, ow, fun a m => z a (i2 a m)⟩
        | d0 => exact ⟨g, ow, fun a m => z a (i2 a m)⟩
        | xo => exact ⟨g, ow, fun a m => z a (i2 a m)⟩
        | dk _ _ => exact ⟨g, ow, fun a m => z a (i2 a m)⟩
      | br x =>
        cases t with
        | leaf d => exact lf d rfl
        | lst _ => exact ⟨g, ow, fun a m => z a (i2 a m)⟩
        | tup _ => exact ⟨g, ow, fun a m => z a (i2 a m)⟩
        | ins _ _ _ => exact ⟨g, ow, fun a m => z a (i2 a m)⟩
        | d0 => exact ⟨g, ow, fun a m => z a (i2 a m)⟩
        | xo => exact ⟨g, ow, fun a m => z a (i2 a m)⟩
        | dk _ _ => exact ⟨g, ow, fun a m => z a (i2 a m)⟩
      | ex x =>
        cases t with
        | leaf d => exact lf d rfl
        | lst _ => exact ⟨g, ow, fun a m => z a (i2 a m)⟩
        | tup _ => exact ⟨g, ow, fun a m => z a (i2 a m)⟩
        | ins _ _ _ => exact ⟨g, ow, fun a m => z a (i2 a m)⟩
        | d0 => exact ⟨g, ow, fun a m => z a (i2 a m)⟩
        | xo => exact ⟨g, ow, fun a m => z a (i2 a m)⟩
        | dk _ _ => exact ⟨g, ow, fun a m => z a (i2 a m)⟩
end
section
variable {X : Cx} {a b c : Expr} {ma mb mc : DE} {pos : Pos} {ta tb : DT} {rest : List Expr} {es : List Expr} {mr : DA}
theorem dp_ix (ha : PE X a (LP X.K ma)) (hb : PE X b (LP X.K mb)) (hs : PlainIx b := by exact fun _ _ => rfl) : PE X (.Subscript a b pos) (LP X.K (mOp oIx ma mb)) := pe_imp (pe_ix ix_seq ha hb hs) fun σ H Q h =>
  h.two fun W fp xf Q0 r1 r2 v1 v2 W2 H2 hr O o1 o2 => by
    have key : ∀ {i : Int} {ts : List OT} {t : OT}, r1.t.kids = some ts → at' ts i = some t → r2 = .fz (.int i) → Q0 (r1.kid t) → rIx X.K v1 v2 H2 Q := by
      intro i ts t e1 e2 e3 q
      obtain ⟨p, vs, u, rfl, s, au, ou⟩ := kid_ok e1 e2 o1 O.S2
      have ei : v2 = .int i := int_of (by rw [e3] at o2; exact o2)
      rcases s with s | s
      · exact .inl ⟨p, vs, i, u, rfl, ei, s, au, O.res q ou⟩
      · exact .inr (.inl ⟨p, vs, i, u, rfl, ei, s, au, O.res q ou⟩)
    have lf : ∀ {ds : List D} {d : D} {i : Int}, at' ds i = some d → at' (ds.map OT.leaf) i = some (.leaf d) := by
      intro ds d i e
      rw [at_map, e]
      rfl
    unfold oIx at hr
    split at hr
    · obtain ⟨d, e, q⟩ := hr
      exact key rfl (lf e) rfl q
    · obtain ⟨d, e, q⟩ := hr
      exact key rfl (lf e) rfl q
    · obtain ⟨d, e, q⟩ := hr
      exact key rfl (lf e) rfl q
    · obtain ⟨hl, c, e, q⟩ := hr
      exact .inr (.inr ⟨_, _, c, str_of o1, int_of o2, by rw [← sizeL_eq]; exact hl, e, O.fin q (.str _)⟩)
    · rename_i ps i
      obtain ⟨h0, h3, q⟩ := hr
      cases (show Rep X.K W2 v1 (.vol 0 ps) from o1) with
      | vol s =>
        obtain ⟨_, o, g, x, y, z, e⟩ := O.S2.vol _ _ _ s
        subst e
        have hi : i = 0 ∨ i = 1 ∨ i = 2 := by omega
        rcases hi with rfl | rfl | rfl
        · exact .inl ⟨_, _, 0, .int x, rfl, int_of o2, .of g, rfl, O.fin (q x) (.int _)⟩
        · exact .inl ⟨_, _, 1, .int y, rfl, int_of o2, .of g, rfl, O.fin (q y) (.int _)⟩
        · exact .inl ⟨_, _, 2, .int z, rfl, int_of o2, .of g, rfl, O.fin (q z) (.int _)⟩
    · obtain ⟨ts, t, e1, e2, q⟩ := hr
      exact key e1 e2 rfl q
    · exact hr.elim
theorem lt_lp {K : PySem.W.Frag} {m : DE} {σ : L2.St} {H : Hp} {Q : Bool → Hp → Prop} (h : LT K (mT m) σ H Q) : LP K m σ H fun x H' => ∃ k, x = .bl k ∧ Q k H' := by
  obtain ⟨W, env, fp, xf, Q0, E, S, hm, k⟩ := h
  refine ⟨W, env, fp, xf, _, E, S, hm, fun r1 h1 v1 W1 H1 t1 S1 o1 => ?_⟩
  split at h1
  · exact ⟨_, bl_of o1, k _ h1 W1 H1 t1 S1⟩
  · exact h1.elim
theorem dt_of {op : CmpOp} {r : R2} {R : Rs → Rs → (Rs → Prop) → Prop} (ho : OpR X (compareOp op) r) (I : ∀ σ H Q, LP X.K (mOp R ma mb) σ H Q → tOp r (LP X.K ma) (LP X.K mb) σ H Q) (ha : PE X a (LP X.K ma)) (hb : PE X b (LP X.K mb))
    (hm : behindInMarks op b = false) : PT X (.Compare a [op] [b] pos) (LT X.K (mT (mOp R ma mb))) := pt_imp (pt_cmpR ho ha hb hm) fun σ H Q h => I σ H _ (lt_lp h)
theorem dt_lt (ha : PE X a (LP X.K ma)) (hb : PE X b (LP X.K mb)) : PT X (.Compare a [.Lt] [b] pos) (LT X.K (mT (mOp oLt ma mb))) := dt_of op_lt (fun _ _ _ h => r_i0 (fun _ _ _ _ => .bl _) h) ha hb (nomark _)
theorem dt_gt (ha : PE X a (LP X.K ma)) (hb : PE X b (LP X.K mb)) : PT X (.Compare a [.Gt] [b] pos) (LT X.K (mT (mOp oGt ma mb))) := dt_of op_gt (fun _ _ _ h => r_i0 (fun _ _ _ _ => .bl _) h) ha hb (nomark _)
theorem dt_ge (ha : PE X a (LP X.K ma)) (hb : PE X b (LP X.K mb)) : PT X (.Compare a [.GtE] [b] pos) (LT X.K (mT (mOp oGe ma mb))) := dt_of op_ge (fun _ _ _ h => r_i0 (fun _ _ _ _ => .bl _) h) ha hb (nomark _)
theorem LT.next {K : PySem.W.Frag} {t : DT} {σ : L2.St} {H : Hp} {W : Wd} {env : Env} {fp xf : List Addr} {Q1 : Bool → Prop} {q : Bool → Hp → Prop} (E : EnvOk K W H σ env fp xf) (S : Sat K W H fp xf) (h : t env Q1)
    (k : ∀ b, Q1 b → ∀ W1 H1, Stp W H [] W1 H1 → Sat K W1 H1 fp xf → EnvOk K W1 H1 σ env fp xf → q b H1) : LT K t σ H q :=
  ⟨W, env, fp, xf, Q1, E, S, h, fun b hb W1 H1 t1 S1 => k b hb W1 H1 t1 S1 (E.keep S t1)⟩
theorem dw_and1 {p : Pos} (h : PT X a (LT X.K ta)) : PW X (.BoolOp .And [a] p) (LT X.K ta) := pw_and1 h
theorem dw_or1 {p : Pos} (h : PT X a (LT X.K ta)) : PW X (.BoolOp .Or [a] p) (LT X.K ta) := pw_or1 h
theorem dw_and (ha : PT X a (LT X.K ta)) (hb : PW X (.BoolOp .And (b :: rest) pos) (LT X.K tb)) : PW X (.BoolOp .And (a :: b :: rest) pos) (LT X.K (mAnd ta tb)) := pw_imp (pw_and ha hb) fun σ H Q h => by
  obtain ⟨W, env, fp, xf, Q0, E, S, hm, k⟩ := h
  refine LT.next E S hm fun c hc W1 H1 t1 S1 E1 => ?_
  cases c with
  | true => exact iteT (LT.next E1 S1 (show tb env Q0 from hc) fun c hc W2 H2 t2 S2 _ => k c hc W2 H2 (t1.tr0 t2) S2)
  | false => exact iteF (k false hc W1 H1 t1 S1)
theorem dw_or (ha : PT X a (LT X.K ta)) (hb : PW X (.BoolOp .Or (b :: rest) pos) (LT X.K tb)) : PW X (.BoolOp .Or (a :: b :: rest) pos) (LT X.K (mOr ta tb)) := pw_imp (pw_or ha hb) fun σ H Q h => by
  obtain ⟨W, env, fp, xf, Q0, E, S, hm, k⟩ := h
  refine LT.next E S hm fun c hc W1 H1 t1 S1 E1 => ?_
  cases c with
  | true => exact iteT (k true hc W1 H1 t1 S1)
  | false => exact iteF (LT.next E1 S1 (show tb env Q0 from hc) fun c hc W2 H2 t2 S2 _ => k c hc W2 H2 (t1.tr0 t2) S2)
theorem dt_not (h : PT X a (LT X.K ta)) : PT X (.UnaryOp .Not a pos) (LT X.K (mNot ta)) := pt_imp (pt_not h) fun σ H Q h => by
  obtain ⟨W, env, fp, xf, Q0, E, S, hm, k⟩ := h
  exact LT.next E S hm fun c hc W1 H1 t1 S1 E1 => k _ hc W1 H1 t1 S1
theorem LP.next {K : PySem.W.Frag} {m : DE} {σ : L2.St} {H : Hp} {W : Wd} {env : Env} {fp xf : List Addr} {Q1 : Rs → Prop} {q : V → Hp → Prop} (E : EnvOk K W H σ env fp xf) (S : Sat K W H fp xf) (h : m env Q1)
    (k : ∀ r, Q1 r → ∀ v W1 H1, Stp W H [] W1 H1 → Sat K W1 H1 fp xf → EnvOk K W1 H1 σ env fp xf → ResOk K H fp W1 H1 v r → q v H1) : LP K m σ H q :=
  ⟨W, env, fp, xf, Q1, E, S, h, fun r hr v W1 H1 t1 S1 o => k r hr v W1 H1 t1 S1 (E.keep S t1) o⟩
theorem dp_one {op : BoolOp} (h : PE X a (LP X.K ma)) : PE X (.BoolOp op [a] pos) (LP X.K ma) := pe_one h
theorem dp_and (ha : PE X a (LP X.K ma)) (hb : PE X (.BoolOp .And (b :: rest) pos) (LP X.K mb)) : PE X (.BoolOp .And (a :: b :: rest) pos) (LP X.K (mAndV ma mb)) := pe_imp (pe_and ha hb) fun σ H Q h => by
  obtain ⟨W, env, fp, xf, Q0, E, S, hm, k⟩ := h
  refine LP.next E S hm fun r hr v W1 H1 t1 S1 E1 o => ?_
  split at hr
  · rename_i c
    refine ⟨c, bl_of o, ?_⟩
    cases c with
    | true => exact iteT (LP.next E1 S1 (show mb env Q0 from hr) fun r hr v W2 H2 t2 S2 _ o => k r hr v W2 H2 (t1.tr0 t2) S2 (o.back t1.al))
    | false => exact iteF (k _ hr _ W1 H1 t1 S1 (Rep.bl false))
  · exact hr.elim
theorem dp_not (ha : PE X a (LP X.K ma)) : PE X (.UnaryOp .Not a pos) (LP X.K (mNotV ma)) := pe_imp (pe_not ha) fun σ H Q h => by
  obtain ⟨W, env, fp, xf, Q0, E, S, hm, k⟩ := h
  refine LP.next E S hm fun r hr v W1 H1 t1 S1 E1 o => ?_
  split at hr
  · exact ⟨_, bl_of o, k _ hr _ W1 H1 t1 S1 (Rep.bl _)⟩
  · exact hr.elim
theorem dp_fz (ha : PE X a (LP X.K ma)) : PE X a (LP X.K (mFz ma)) := pe_imp ha fun σ H Q h => by
  obtain ⟨W, env, fp, xf, Q0, E, S, hm, k⟩ := h
  refine LP.next E S hm fun r hr v W1 H1 t1 S1 E1 o => ?_
  cases r with
  | fz d => exact k _ hr v W1 H1 t1 S1 o
  | nw t =>
    obtain ⟨d, z, q⟩ := hr
    obtain ⟨f, ow, nd, y⟩ := o
    obtain ⟨W', F, R, _⟩ := freeze ow z nd fun a m => (y a m).2
    have za : ∀ a ∈ f, a ∉ fp ∧ a ∉ xf := fun a m => ⟨fun m2 => (S.off a m2).2.2 (y a m).1, fun m2 => (S.xof a m2).2.2 (y a m).1⟩
    exact k _ q v W' H1 (t1.trans F.stp fun a m => .inr (y a m).1) (F.sat S1 (fun a m => ⟨(y a m).2.1, (y a m).2.2, ow.alloc a m⟩) za) R
  | br t => exact hr.elim
  | ex t => exact hr.elim
theorem da_nil : PA X [] (LA X.K mNil) := pa_imp pa_nil fun σ H Q h => by
  obtain ⟨W, env, fp, xf, Q0, E, S, hm, k⟩ := h
  exact k _ hm [] W H [] .refl S .nil ⟨List.nodup_nil, fun _ m => by cases m⟩
theorem ResAll.cells {K : PySem.W.Frag} {H : Hp} {fp : List Addr} {W' : Wd} {H' : Hp} {vs : List V} {rs : List Rs} {g : List Addr} (h : ResAll K H fp W' H' vs rs g) : ∀ a ∈ g, H' a ≠ none := by
  induction h with
  | nil => intro a m; cases m
  | fz _ _ ih => exact ih
  | nw o _ ih => intro a m; exact (List.mem_append.mp m).elim (o.alloc a) (ih a)
  | br _ _ _ ih => exact ih
  | ex _ _ _ ih => exact ih
theorem da_cons (ha : PE X a (LP X.K ma)) (hr : PA X es (LA X.K mr)) (hs : starEach (a :: es) X.env = (false, eval a X.env) :: starEach es X.env := by rfl) : PA X (a :: es) (LA X.K (mCons ma mr)) := pa_imp (pa_cons ha hr hs) fun σ H Q h => by
  obtain ⟨W, env, fp, xf, Q0, E, S, hm, k⟩ := h
  refine LP.next E S hm fun r hr v W1 H1 t1 S1 E1 o => ?_
  refine ⟨W1, env, fp, xf, _, E1, S1, hr, fun rs hq vs W2 H2 g t2 S2 os F => ?_⟩
  have l := t2.le S1 fun _ m => by cases m
  have o2 := o.keep t2 l
  have Fb := fresh_back F t1.al
  have os' : ResAll X.K H fp W2 H2 vs rs g := os.back
  cases r with
  | fz d => exact k _ hq _ W2 H2 g (t1.tr0 t2) S2 (.fz o2 os') Fb
  | nw t =>
    obtain ⟨f, ow, nd, z⟩ := o
    have ow2 := ow.mono l fun a m u e => t2.kp a u e (by simp) (z a m).2.2
    refine k _ hq _ W2 H2 (f ++ g) (t1.tr0 t2) S2 (.nw ow2 os') ⟨List.nodup_append.mpr ⟨nd, F.1, fun x m y m2 e => ?_⟩, fun a m => ?_⟩
    · subst e
      exact ow.alloc x m (F.2 x m2).1
    · rcases List.mem_append.mp m with m | m
      · obtain ⟨e1, e2⟩ := t2.kpS (ow.alloc a m)
        exact ⟨(z a m).1, e1.trans (z a m).2.1, e2.trans (z a m).2.2⟩
      · exact Fb.2 a m
  | br t =>
    obtain ⟨f, ow, z⟩ := o2
    exact k _ hq _ W2 H2 g (t1.tr0 t2) S2 (.br ow z os') Fb
  | ex t =>
    obtain ⟨f, ow, z⟩ := o2
    exact k _ hq _ W2 H2 g (t1.tr0 t2) S2 (.ex ow z os') Fb
theorem ResAll.items {K : PySem.W.Frag} {H : Hp} {fp : List Addr} {W' : Wd} {H' : Hp} : ∀ {rs : List Rs} {vs : List V} {g : List Addr} {ts : List OT}, ResAll K H fp W' H' vs rs g → items rs = some ts → OwnAll K W' H' vs ts g := by
  intro rs vs g ts h
  induction h generalizing ts with
  | nil => intro e; cases e; exact .nil
  | fz r _ ih =>
    rename_i d _ rs _ _
    intro e
    have e : (R.items rs).map (OT.leaf d :: ·) = some ts := e
    cases q : R.items rs with
    | none => rw [q] at e; cases e
    | some us => rw [q] at e; cases e; exact .cons (f := []) (.leaf r) (ih q)
  | nw r _ ih =>
    rename_i t _ _ rs _ _
    intro e
    have e : (R.items rs).map (t :: ·) = some ts := e
    cases q : R.items rs with
    | none => rw [q] at e; cases e
    | some us => rw [q] at e; cases e; exact .cons r (ih q)
  | br _ _ _ _ => intro e; cases e
  | ex _ _ _ _ => intro e; cases e
theorem new_node {K : PySem.W.Frag} {W W2 : Wd} {H H2 : Hp} {fp xf g : List Addr} {p : Addr} {o : HO} {vs : List V} {ts : List OT} (t : Stp W H [] W2 H2) (S : Sat K W2 H2 fp xf) (w : OwnAll K W2 H2 vs ts g) (F : Fresh H W2 g) (n : H2 p = none) :
    Stp W H [] W2 (upd H2 p o) ∧ Sat K W2 (upd H2 p o) fp xf ∧ OwnAll K W2 (upd H2 p o) vs ts g ∧ (p :: g).Nodup ∧ ∀ a ∈ p :: g, H a = none ∧ W2.G a = none ∧ W2.S a = none := by
  have hn : H p = none := by
    cases z : H p with
    | none => rfl
    | some u => exact absurd n (t.al p (some_ne z))
  refine ⟨t.tr0 (.new n), S.new n, w.mono (.refl _) fun a m u e => by rw [upd_ne (ne_of_none e n)]; exact e, List.nodup_cons.mpr ⟨fun m => w.alloc p m n, F.1⟩, fun a m => ?_⟩
  rcases List.mem_cons.mp m with e | m
  · rw [e]
    exact ⟨hn, (S.free n).1, (S.free n).2⟩
  · exact F.2 a m
theorem dp_lst (h : PA X es (LA X.K mr)) : PE X (.List es pos) (LP X.K (mLst mr)) := pe_imp (pe_lst h) fun σ H Q h => by
  obtain ⟨W, env, fp, xf, Q0, E, S, hm, k⟩ := h
  refine ⟨W, env, fp, xf, _, E, S, hm, fun rs ⟨ts, e, hl, q⟩ vs W2 H2 g t2 S2 os F => ?_⟩
  have w := os.items e
  refine ⟨by rw [← sizeL_eq, w.len]; exact hl, fun p n => ?_⟩
  obtain ⟨t3, S3, w3, nd, z⟩ := new_node (o := .lst vs) t2 S2 w F n
  exact k _ q _ W2 _ t3 S3 ⟨p :: g, .lst upd_same w3, nd, z⟩
theorem dp_tup {x1} (h : PA X es (LA X.K mr)) : PE X (.Tuple es x1 pos) (LP X.K (mTup mr)) := pe_imp (pe_tup h) fun σ H Q h => by
  obtain ⟨W, env, fp, xf, Q0, E, S, hm, k⟩ := h
  refine ⟨W, env, fp, xf, _, E, S, hm, fun rs ⟨ts, e, hl, q⟩ vs W2 H2 g t2 S2 os F => ?_⟩
  have w := os.items e
  refine ⟨by rw [← sizeL_eq, w.len]; exact hl, fun p n => ?_⟩
  obtain ⟨t3, S3, w3, nd, z⟩ := new_node (o := .tup vs) t2 S2 w F n
  exact k _ q _ W2 _ t3 S3 ⟨p :: g, .tup upd_same w3, nd, z⟩
end
end R
namespace R
open PySem PySem.Spec PyProof.Rows L2
section
variable {K : PySem.W.Frag} {W W1 W2 W' : Wd} {H H1 H2 H' : Hp} {f f1 fp xf : List Addr} {σ : L2.St} {Q : VK} {r : Rs} {v : V} {env : Env}
theorem ResAll.ffz {vs : List V} {rs : List Rs} {g : List Addr} (os : ResAll K H fp W2 H2 vs rs g) : ∀ {W3 : Wd}, W2.Le W3 → W3.S = W2.S → Sat K W H fp xf → Stp W H [] W3 H2 → Sat K W3 H2 fp xf → g.Nodup → (∀ a ∈ g, H a = none ∧ W3.G a = none ∧ W3.S a = none) →
    ∃ W4 g', Stp W H [] W4 H2 ∧ Sat K W4 H2 fp xf ∧ W3.Le W4 ∧ W4.S = W3.S ∧ ResAll K H fp W4 H2 vs (rs.map Rs.ffz) g' ∧ Fresh H W4 g' ∧ (∀ a ∈ g', a ∈ g) ∧ ∀ a, a ∉ g → W4.G a = W3.G a := by
  induction os with
  | nil => intro W3 l e S t S3 nd z; exact ⟨W3, [], t, S3, .refl _, rfl, .nil, ⟨List.nodup_nil, fun _ m => (by cases m)⟩, fun _ m => (by cases m), fun _ _ => rfl⟩
  | fz r _ ih =>
    intro W3 l e S t S3 nd z
    obtain ⟨W4, g', t4, S4, l4, e4, o4, F4, i4, k4⟩ := ih l e S t S3 nd z
    exact ⟨W4, g', t4, S4, l4, e4, .fz (r.mono (l.trans l4)) o4, F4, i4, k4⟩
  | br o y _ ih =>
    intro W3 l e S t S3 nd z
    obtain ⟨W4, g', t4, S4, l4, e4, o4, F4, i4, k4⟩ := ih l e S t S3 nd z
    exact ⟨W4, g', t4, S4, l4, e4, .br (o.mono (l.trans l4) fun _ _ _ q => q) (fun a m => by rw [e4, e]; exact y a m) o4, F4, i4, k4⟩
  | ex o y _ ih =>
    intro W3 l e S t S3 nd z
    obtain ⟨W4, g', t4, S4, l4, e4, o4, F4, i4, k4⟩ := ih l e S t S3 nd z
    exact ⟨W4, g', t4, S4, l4, e4, .ex (o.mono (l.trans l4) fun _ _ _ q => q) (fun a m => by rw [e4, e]; exact y a m) o4, F4, i4, k4⟩
  | nw o _ ih =>
    rename_i v x f vs rs g _
    intro W3 l e S t S3 nd z
    obtain ⟨n1, n2, n3⟩ := List.nodup_append.mp nd
    have zf : ∀ a ∈ f, H a = none ∧ W3.G a = none ∧ W3.S a = none := fun a m => z a (List.mem_append_left _ m)
    have zg : ∀ a ∈ g, H a = none ∧ W3.G a = none ∧ W3.S a = none := fun a m => z a (List.mem_append_right _ m)
    have dj : ∀ a ∈ f, a ∉ g := fun a m m2 => n3 a m a m2 rfl
    cases q : x.fzd with
    | none =>
      obtain ⟨W4, g', t4, S4, l4, e4, o4, F4, i4, k4⟩ := ih l e S t S3 n2 zg
      refine ⟨W4, f ++ g', t4, S4, l4, e4, ?_, ⟨List.nodup_append.mpr ⟨n1, F4.1, fun a m b m2 e => by subst e; exact dj a m (i4 a m2)⟩, fun a m => ?_⟩, fun a m => ?_, fun a m => k4 a fun m2 => m (List.mem_append_right _ m2)⟩
      · show ResAll K H fp W4 H2 _ ((match x.fzd with | some d => .fz d | none => .nw x) :: rs.map Rs.ffz) (f ++ g')
        rw [q]
        exact .nw (o.mono (l.trans l4) fun _ _ _ q => q) o4
      · rcases List.mem_append.mp m with m | m
        · exact ⟨(zf a m).1, (k4 a (dj a m)).trans (zf a m).2.1, by rw [e4]; exact (zf a m).2.2⟩
        · exact F4.2 a m
      · exact (List.mem_append.mp m).elim (List.mem_append_left _) fun m => List.mem_append_right _ (i4 a m)
    | some d =>
      have o3 := o.mono l fun _ _ _ q => q
      obtain ⟨W5, F, R, sk⟩ := freeze o3 (Fz.of q) n1 fun a m => (zf a m).2
      have e5 : W5.S = W3.S := sk (by rw [q]; exact fun z => nomatch z)
      have za : ∀ a ∈ f, a ∉ fp ∧ a ∉ xf := fun a m => ⟨fun m2 => (S.off a m2).2.2 (zf a m).1, fun m2 => (S.xof a m2).2.2 (zf a m).1⟩
      have l5 : W3.Le W5 := F.le fun a m => (zf a m).2
      have zg5 : ∀ a ∈ g, H a = none ∧ W5.G a = none ∧ W5.S a = none := fun a m => by
        have n : a ∉ f := fun m2 => dj a m2 m
        exact ⟨(zg a m).1, (F.out a n).1.trans (zg a m).2.1, by rw [e5]; exact (zg a m).2.2⟩
      obtain ⟨W4, g', t4, S4, l4, e4, o4, F4, i4, k4⟩ := ih (l.trans l5) (e5.trans e) S (t.trans F.stp fun a m => .inr (zf a m).1) (F.sat S3 (fun a m => ⟨(zf a m).2.1, (zf a m).2.2, o3.alloc a m⟩) za) n2 zg5
      refine ⟨W4, g', t4, S4, l5.trans l4, e4.trans e5, ?_, F4, fun a m => List.mem_append_right _ (i4 a m), fun a m => (k4 a fun m2 => m (List.mem_append_right _ m2)).trans (F.out a fun m2 => m (List.mem_append_left _ m2)).1⟩
      show ResAll K H fp W4 H2 _ ((match x.fzd with | some d => .fz d | none => .nw x) :: rs.map Rs.ffz) g'
      rw [q]
      exact .fz (R.mono l4) o4
theorem LA.next {m : DA} {Q1 : List Rs → Prop} {q : List V → Hp → Prop} (E : EnvOk K W H σ env fp xf) (S : Sat K W H fp xf) (h : m env Q1)
    (k : ∀ rs, Q1 rs → ∀ vs W1 H1 g, Stp W H [] W1 H1 → Sat K W1 H1 fp xf → EnvOk K W1 H1 σ env fp xf → ResAll K H fp W1 H1 vs rs g → Fresh H W1 g → q vs H1) : LA K m σ H q :=
  ⟨W, env, fp, xf, Q1, E, S, h, fun r hr v W1 H1 g t1 S1 o F => k r hr v W1 H1 g t1 S1 (E.keep S t1) o F⟩
theorem LA.ops {m : DA} {R : List Rs → (Rs → Prop) → Prop} {q : List V → Hp → Prop} (h : LP K (mB R m) σ H Q)
    (hop : ∀ (W : Wd) (fp xf : List Addr) (Q0 : Rs → Prop) rs vs W2 H2 g, R rs Q0 → Ops K H Q Q0 W2 H2 W fp xf → ResAll K H fp W2 H2 vs rs g → Fresh H W2 g → q vs H2) : LA K m σ H q := by
  obtain ⟨W, env, fp, xf, Q0, E, S, hm, k⟩ := h
  refine LA.next E S hm fun rs hr vs W1 H1 g t1 S1 E1 os F => ?_
  obtain ⟨W4, g', t4, S4, _, _, o4, F4, _, _⟩ := os.ffz (.refl _) rfl S t1 S1 F.1 F.2
  exact hop W fp xf Q0 _ vs W4 H1 g' hr ⟨S, t4, S4, k⟩ o4 F4
theorem ResAll.nil_inv {vs : List V} {g : List Addr} (h : ResAll K H fp W' H' vs [] g) : vs = [] ∧ g = [] := by
  cases h; exact ⟨rfl, rfl⟩
theorem ResAll.cons_inv {vs : List V} {rs : List Rs} {g : List Addr} (h : ResAll K H fp W' H' vs (r :: rs) g) (F : Fresh H W' g) : ∃ v us g', vs = v :: us ∧ ResOk K H fp W' H' v r ∧ ResAll K H fp W' H' us rs g' ∧ Fresh H W' g' := by
  cases h with
  | fz a b => exact ⟨_, _, _, rfl, a, b, F⟩
  | nw a b =>
    obtain ⟨n1, n2, n3⟩ := List.nodup_append.mp F.1
    exact ⟨_, _, _, rfl, ⟨_, a, n1, fun c m => F.2 c (List.mem_append_left _ m)⟩, b, n2, fun c m => F.2 c (List.mem_append_right _ m)⟩
  | br a z b => exact ⟨_, _, _, rfl, ⟨_, a, z⟩, b, F⟩
  | ex a z b => exact ⟨_, _, _, rfl, ⟨_, a, z⟩, b, F⟩
theorem ResAll.one {vs : List V} {g : List Addr} (h : ResAll K H fp W' H' vs [r] g) (F : Fresh H W' g) : ∃ v, vs = [v] ∧ ResOk K H fp W' H' v r := by
  obtain ⟨v, us, g', rfl, o, h, _⟩ := h.cons_inv F
  obtain ⟨rfl, _⟩ := h.nil_inv
  exact ⟨v, rfl, o⟩
theorem ResAll.two {vs : List V} {g : List Addr} {r2 : Rs} (h : ResAll K H fp W' H' vs [r, r2] g) (F : Fresh H W' g) : ∃ v u, vs = [v, u] ∧ ResOk K H fp W' H' v r ∧ ResOk K H fp W' H' u r2 := by
  obtain ⟨v, us, g', rfl, o, h, F2⟩ := h.cons_inv F
  obtain ⟨u, rfl, o2⟩ := h.one F2
  exact ⟨v, u, rfl, o, o2⟩
theorem allOf_ints {vs : List V} {ds : List D} {ns : List Int} (h : allOf D.int? ds = some ns) (r : RepAll K W vs ds) : vs = ns.map V.int := by
  rw [allOf_inv (g := D.int) int?_inv h] at r
  clear h
  induction ns generalizing vs with
  | nil => cases r; rfl
  | cons n ns ih =>
    cases r with
    | cons a b => cases a; rw [ih b, List.map_cons]
theorem allOf_bls {vs : List V} {ds : List D} {ns : List Bool} (h : allOf D.bl? ds = some ns) (r : RepAll K W vs ds) : vs = ns.map V.bl := by
  rw [allOf_inv (g := D.bl) bl?_inv h] at r
  clear h
  induction ns generalizing vs with
  | nil => cases r; rfl
  | cons n ns ih =>
    cases r with
    | cons a b => cases a; rw [ih b, List.map_cons]
theorem allOf_strs {vs : List V} {ds : List D} {ns : List Str} (h : allOf D.str? ds = some ns) (r : RepAll K W vs ds) : vs = ns.map V.str := by
  rw [allOf_inv (g := D.str) str?_inv h] at r
  clear h
  induction ns generalizing vs with
  | nil => cases r; rfl
  | cons n ns ih =>
    cases r with
    | cons a b => cases a; rw [ih b, List.map_cons]
theorem RepAll.take : ∀ (n : Nat) {vs : List V} {ds : List D}, RepAll K W vs ds → RepAll K W (vs.take n) (ds.take n)
  | 0, _, _, _ => .nil
  | _ + 1, _, _, .nil => .nil
  | n + 1, _, _, .cons a b => .cons a (RepAll.take n b)
theorem RepAll.drop : ∀ (n : Nat) {vs : List V} {ds : List D}, RepAll K W vs ds → RepAll K W (vs.drop n) (ds.drop n)
  | 0, _, _, h => h
  | _ + 1, _, _, .nil => .nil
  | n + 1, _, _, .cons _ b => RepAll.drop n b
theorem RepAll.cut {vs : List V} {ds : List D} (h : RepAll K W vs ds) (lo hi : Option Int) : RepAll K W (cutV vs lo hi) (cut' ds lo hi) := by
  show RepAll K W ((vs.drop (HT.sIx vs.length 0 lo)).take (HT.sIx vs.length vs.length hi - HT.sIx vs.length 0 lo)) ((ds.drop (HT.sIx ds.length 0 lo)).take (HT.sIx ds.length ds.length hi - HT.sIx ds.length 0 lo))
  rw [h.len]
  exact RepAll.take _ (RepAll.drop _ h)
theorem cutV_whole {vs : List V} {lo hi : Option Int} (h : (cutV vs lo hi).length < vs.length) : ¬ (HT.sIx vs.length 0 lo = 0 ∧ HT.sIx vs.length vs.length hi = vs.length) := by
  rintro ⟨a, b⟩
  unfold cutV at h
  rw [a, b, List.drop_zero, Nat.sub_zero, List.take_of_length_le (Nat.le_refl _)] at h
  exact Nat.lt_irrefl _ h
end
def LO (K : PySem.W.Frag) (m : DO) : TO := fun σ H Q => ∃ (W : Wd) (env : Env) (fp xf : List Addr) (Q0 : Option Int → Prop), EnvOk K W H σ env fp xf ∧ Sat K W H fp xf ∧ m env Q0 ∧
  ∀ r, Q0 r → ∀ W' H', Stp W H [] W' H' → Sat K W' H' fp xf → Q r H'
section
variable {X : Cx} {a b c : Expr} {ma mb mc : DE} {pos : Pos} {ta tb : DT} {rest : List Expr} {es : List Expr} {mr : DA} {ml mh : DO} {lo hi : Option Expr}
theorem do_none : PO X none (LO X.K mNoP) := by
  refine ⟨?_⟩
  have h := (po_none (X := X)).run
  intro pins s σ H Q I hw
  obtain ⟨W, env, fp, xf, Q0, E, S, hm, k⟩ := hw
  exact h pins s σ H Q I (k none hm W H .refl S)
theorem po_imp {e : Option Expr} {t t' : TO} (h : PO X e t) (k : ∀ σ H Q, t' σ H Q → t σ H Q) : PO X e t' := ⟨fun pins s σ H Q I w => h.run pins s σ H Q I (k σ H Q w)⟩
theorem do_some (h : PE X a (LP X.K ma)) : PO X (some a) (LO X.K (mPart ma)) := po_imp (po_some h) fun σ H Q h => by
  obtain ⟨W, env, fp, xf, Q0, E, S, hm, k⟩ := h
  refine LP.next E S hm fun r hr v W1 H1 t1 S1 E1 o => ?_
  split at hr
  · exact ⟨_, int_of o, k _ hr W1 H1 t1 S1⟩
  · exact hr.elim
def rSlAll (K : PySem.W.Frag) : V → Option Int → Option Int → Hp → VK → Prop := fun x lo hi H Q => rSlL K x lo hi H Q ∨ rSlT K x lo hi H Q
theorem dp_sl {p2 : Pos} (he : PE X a (LP X.K ma)) (hl : PO X lo (LO X.K ml)) (hu : PO X hi (LO X.K mh)) : PE X (.Subscript a (.Slice lo hi none p2) pos) (LP X.K (mSl ma ml mh)) := pe_imp (pe_slice (r := rSlAll X.K) (sl_list.or sl_tup) he hl hu) fun σ H Q h => by
  obtain ⟨W, env, fp, xf, Q0, E, S, hm, k⟩ := h
  refine ⟨W, env, fp, xf, _, E, S, hm, fun r1 h1 v1 W1' H1 t1' S1' o1' => ?_⟩
  obtain ⟨W1, t1, S1, _, o1⟩ := ffz_ok S t1' S1' o1'
  refine ⟨W1, env, fp, xf, _, E.keep S t1, S1, h1, fun l hl W2 H2 t2 S2 => ?_⟩
  refine ⟨W2, env, fp, xf, _, (E.keep S t1).keep S1 t2, S2, hl, fun u hu W3 H3 t3 S3 => ?_⟩
  have o3 := (o1.keep t2 (t2.le S1 fun _ m => by cases m)).keep t3 (t3.le S2 fun _ m => by cases m)
  have O : Ops X.K H Q Q0 W3 H3 W fp xf := ⟨S, (t1.tr0 t2).tr0 t3, S3, k⟩
  generalize r1.ffz = r at hu o3
  unfold oSl at hu
  split at hu
  · rename_i ds
    obtain ⟨hlen, q⟩ := hu
    cases (show Rep X.K W3 v1 (.tup ds) from o3) with
    | tup g rs =>
      have rc := rs.cut l u
      refine .inr ⟨_, _, rfl, .of (O.S2.sub _ _ g), cutV_whole (by rw [rc.len, rs.len]; exact hlen), fun p n => ?_⟩
      obtain ⟨t4, S4, w4, nd, z⟩ := new_node (o := .tup (cutV _ l u)) O.t O.S2 (OwnAll.leafs (vs := []) rc) ⟨List.nodup_nil, fun _ m => by cases m⟩ n
      have ow : Own X.K W3 (upd H3 p (.tup (cutV _ l u))) (.ref p) (.tup ((cut' ds l u).map .leaf)) [p] := .tup upd_same w4
      have zz : ∀ a ∈ [p], H a = none ∧ W3.G a = none ∧ W3.S a = none := fun a m => z a m
      obtain ⟨W', t', S', _, o'⟩ := ffz_ok (r := .nw (.tup ((cut' ds l u).map .leaf))) (v := .ref p) O.S t4 S4 ⟨_, ow, nd, zz⟩
      have o' : ResOk X.K H fp W' _ (.ref p) (match (OT.tup ((cut' ds l u).map .leaf)).fzd with | some d => .fz d | none => .nw (.tup ((cut' ds l u).map .leaf))) := o'
      rw [fzd_tup] at o'
      exact k _ q _ W' _ t' S' o'
  · obtain ⟨ds, e, q⟩ := hu
    obtain ⟨p, vs, rfl, g, rs⟩ := els_L e o3 O.S2
    exact .inl ⟨p, vs, rfl, .of g, fun l' n => O.newL q (rs.cut l u) l' n⟩
theorem dp_callB {id : String} {x : Str} {r : List V → Hp → VK → Prop} {p : Pos} {Rd : List Rs → (Rs → Prop) → Prop} (hc : CallR X (.builtin id) r)
    (I : ∀ (H : Hp) (Q : VK) (W : Wd) (fp xf : List Addr) (Q0 : Rs → Prop) rs vs W2 H2 g, Rd rs Q0 → Ops X.K H Q Q0 W2 H2 W fp xf → ResAll X.K H fp W2 H2 vs rs g → Fresh H W2 g → r vs H2 Q)
    (hm : X.mg x = none) (hv : bootBuiltins x = some (.builtin id)) (ha : PA X (a :: es) (LA X.K mr)) (hg : Gl X x := by rfl) (hn : x ≠ "__name__" := by decide) (hdb : (x == ("__debug__" : Str)) = false := by decide)
    (hs : starEach (a :: es) X.env = (false, eval a X.env) :: starEach es X.env := by rfl) (hpl : (backTo pos (starEach es X.env)).any (·.1) = false := by rfl) : PE X (.Call (.Name x p) (a :: es) [] pos) (LP X.K (mB Rd mr)) :=
  pe_imp (pe_callB hc hg hm hv ha hn hdb hs hpl) fun σ H Q h => LA.ops h fun W fp xf Q0 rs vs W2 H2 g hr O os F => I H Q W fp xf Q0 rs vs W2 H2 g hr O os F
theorem dp_callTy {T : String} {x : Str} {r : List V → Hp → VK → Prop} {p : Pos} {Rd : List Rs → (Rs → Prop) → Prop} (hc : CallR X (.type T) r)
    (I : ∀ (H : Hp) (Q : VK) (W : Wd) (fp xf : List Addr) (Q0 : Rs → Prop) rs vs W2 H2 g, Rd rs Q0 → Ops X.K H Q Q0 W2 H2 W fp xf → ResAll X.K H fp W2 H2 vs rs g → Fresh H W2 g → r vs H2 Q)
    (hm : X.mg x = none) (hv : bootBuiltins x = some (.type T)) (ha : PA X (a :: es) (LA X.K mr)) (hg : Gl X x := by rfl) (hn : x ≠ "__name__" := by decide) (hdb : (x == ("__debug__" : Str)) = false := by decide)
    (hs : starEach (a :: es) X.env = (false, eval a X.env) :: starEach es X.env := by rfl) (hpl : (backTo pos (starEach es X.env)).any (·.1) = false := by rfl) : PE X (.Call (.Name x p) (a :: es) [] pos) (LP X.K (mB Rd mr)) :=
  pe_imp (pe_callTy hc hg hm hv ha hn hdb hs hpl) fun σ H Q h => LA.ops h fun W fp xf Q0 rs vs W2 H2 g hr O os F => I H Q W fp xf Q0 rs vs W2 H2 g hr O os F
end
end R
namespace R
open PySem PySem.Spec PyProof.Rows L2
section
variable {X : Cx} {a b c : Expr} {ma mb mc : DE} {pos : Pos} {es : List Expr} {mr : DA}
theorem dp_len {p : Pos} (hm : X.mg "len" = none) (ha : PA X [a] (LA X.K mr)) (hg : Gl X "len" := by rfl) (hs : starEach [a] X.env = (false, eval a X.env) :: starEach [] X.env := by rfl) : PE X (.Call (.Name "len" p) [a] [] pos) (LP X.K (mB oLen mr)) :=
  dp_callB (call_len_seq.or call_len_str) (fun H Q W fp xf Q0 rs vs W2 H2 g hr O os F => by
    unfold oLen at hr
    split at hr
    · obtain ⟨v, rfl, o⟩ := os.one F
      exact .inr ⟨_, congrArg (fun z => [z]) (str_of o), by rw [← sizeL_eq]; exact hr.1, O.fin hr.2 (.int _)⟩
    · obtain ⟨ts, e, q⟩ := hr
      obtain ⟨v, rfl, o⟩ := os.one F
      obtain ⟨p, us, f, rfl, s, w, _⟩ := kids_ok e o O.S2
      exact .inl ⟨p, us, rfl, s, by rw [w.len]; exact O.fin q (.int _)⟩
    · exact hr.elim) hm PySem.boot_len ha hg (hs := hs)
theorem dp_int1 {p : Pos} (hm : X.mg "int" = none) (ha : PA X [a] (LA X.K mr)) (hg : Gl X "int" := by rfl) (hs : starEach [a] X.env = (false, eval a X.env) :: starEach [] X.env := by rfl) : PE X (.Call (.Name "int" p) [a] [] pos) (LP X.K (mB oInt1 mr)) :=
  dp_callTy call_int1 (fun H Q W fp xf Q0 rs vs W2 H2 g hr O os F => by
    unfold oInt1 at hr
    split at hr
    · obtain ⟨v, rfl, o⟩ := os.one F
      exact .inl ⟨_, congrArg (fun z => [z]) (int_of o), O.fin hr (.int _)⟩
    · obtain ⟨v, rfl, o⟩ := os.one F
      exact .inr ⟨_, congrArg (fun z => [z]) (bl_of o), O.fin hr (.int _)⟩
    · exact hr.elim) hm (by decide +kernel) ha hg (hs := hs)
theorem min_if (i j : Int) : (if j < i then j else i) = min i j := by
  rw [Int.min_def]
  split <;> split <;> omega
theorem max_if (i j : Int) : (if j > i then j else i) = max i j := by
  rw [Int.max_def]
  split <;> split <;> omega
theorem dp_min2 {p : Pos} (hc : X.calm = true) (hm : X.mg "min" = none) (ha : PA X [a, b] (LA X.K mr)) (hg : Gl X "min" := by rfl) (hs : starEach [a, b] X.env = (false, eval a X.env) :: starEach [b] X.env := by rfl) (hpl : (backTo pos (starEach [b] X.env)).any (·.1) = false := by rfl) : PE X (.Call (.Name "min" p) [a, b] [] pos) (LP X.K (mB oMin2 mr)) :=
  dp_callB (call_min2 hc) (fun H Q W fp xf Q0 rs vs W2 H2 g hr O os F => by
    unfold oMin2 at hr
    split at hr
    · obtain ⟨v, u, rfl, o1, o2⟩ := os.two F
      refine ⟨_, _, by rw [int_of o1, int_of o2], ?_⟩
      rw [min_if]
      exact O.fin hr (.int _)
    · exact hr.elim) hm (by decide +kernel) ha hg (hs := hs) (hpl := hpl)
theorem dp_max2 {p : Pos} (hc : X.calm = true) (hm : X.mg "max" = none) (ha : PA X [a, b] (LA X.K mr)) (hg : Gl X "max" := by rfl) (hs : starEach [a, b] X.env = (false, eval a X.env) :: starEach [b] X.env := by rfl) (hpl : (backTo pos (starEach [b] X.env)).any (·.1) = false := by rfl) : PE X (.Call (.Name "max" p) [a, b] [] pos) (LP X.K (mB oMax2 mr)) :=
  dp_callB (call_max2 hc) (fun H Q W fp xf Q0 rs vs W2 H2 g hr O os F => by
    unfold oMax2 at hr
    split at hr
    · obtain ⟨v, u, rfl, o1, o2⟩ := os.two F
      refine ⟨_, _, by rw [int_of o1, int_of o2], ?_⟩
      rw [max_if]
      exact O.fin hr (.int _)
    · exact hr.elim) hm (by decide +kernel) ha hg (hs := hs) (hpl := hpl)
theorem nuMin3_int (i j k : Int) : nuMin3 (.int i) (.int j) (.int k) = some (.int (min (min i j) k)) := by
  have h2 : ∀ i j : Int, nuMin2 (.int i) (.int j) = some (.int (min i j)) := fun i j => by
    show some (if decide (j < i) = true then V.int j else V.int i) = _
    rw [Int.min_def]
    by_cases h : j < i
    · rw [if_pos (decide_eq_true h), if_neg (by omega)]
    · rw [if_neg (by rw [decide_eq_false h]; exact Bool.false_ne_true), if_pos (by omega)]
  show (nuMin2 (.int i) (.int j)).bind _ = _
  rw [h2]
  exact h2 _ _
theorem dp_min3 {p : Pos} (hc : X.calm = true) (hm : X.mg "min" = none) (ha : PA X [a, b, c] (LA X.K mr)) (hg : Gl X "min" := by rfl) (hs : starEach [a, b, c] X.env = (false, eval a X.env) :: starEach [b, c] X.env := by rfl) (hpl : (backTo pos (starEach [b, c] X.env)).any (·.1) = false := by rfl) : PE X (.Call (.Name "min" p) [a, b, c] [] pos) (LP X.K (mB oMin3 mr)) :=
  dp_callB (call_min3Nu hc) (fun H Q W fp xf Q0 rs vs W2 H2 g hr O os F => by
    unfold oMin3 at hr
    split at hr
    · obtain ⟨v, us, g', rfl, o1, os, F⟩ := os.cons_inv F
      obtain ⟨v2, v3, rfl, o2, o3⟩ := os.two F
      refine ⟨v, v2, v3, _, rfl, by rw [int_of o1, int_of o2, int_of o3]; exact nuMin3_int _ _ _, O.fin hr (.int _)⟩
    · exact hr.elim) hm (by decide +kernel) ha hg (hs := hs) (hpl := hpl)
def rSumT (K : PySem.W.Frag) : List V → Hp → VK → Prop := fun vs H Q => ∃ (a : Addr) (ns : List Int), vs = [V.ref a] ∧ SqT K H a (ns.map V.int) ∧ Q (.int ns.sum) H
theorem cr_sumT (hc : X.calm = true) : CallR X (.builtin "sum") (rSumT X.K) := by
  intro pins s σ H vs us Q I r h
  obtain ⟨a, ns, rfl, hs, q⟩ := h
  obtain ⟨its, rv, hl, _⟩ := I.tuple hs
  rw [Vals.ref1 r]
  have hi : IntsAre its ns := rv.ints
  obtain ⟨xs, e⟩ := hi.allInts.items
  have hn : numsOf (intItems xs).toList = ns := by rw [← e]; exact hi.numsOf
  rw [nums_intItems] at hn
  have hl2 : s.heap.IsTuple a (intItems xs) := by
    rw [e] at hl
    exact hl
  refine PySem.W.ktm_sumG (I.ok.hd hc) hl2 fun h' tk t' hk => ?_
  rw [preSum_eq, List.take_of_length_le (by simp), hn]
  exact ⟨.int _, H, I.kept hk, ⟨_, rfl⟩, q⟩
theorem dp_sum {p : Pos} (hc : X.calm = true) (hm : X.mg "sum" = none) (ha : PA X [a] (LA X.K mr)) (hg : Gl X "sum" := by rfl) (hs : starEach [a] X.env = (false, eval a X.env) :: starEach [] X.env := by rfl) : PE X (.Call (.Name "sum" p) [a] [] pos) (LP X.K (mB oSum mr)) :=
  dp_callB ((cr_sum hc).or (cr_sumT hc)) (fun H Q W fp xf Q0 rs vs W2 H2 g hr O os F => by
    unfold oSum at hr
    split at hr
    · obtain ⟨ns, e, q⟩ := hr
      obtain ⟨v, rfl, o⟩ := os.one F
      cases (show Rep X.K W2 v (.tup _) from o) with
      | tup g r =>
        have e2 := allOf_ints e r
        subst e2
        exact .inr ⟨_, ns, rfl, .of (O.S2.sub _ _ g), O.fin q (.int _)⟩
    · obtain ⟨ds, ns, e1, e2, q⟩ := hr
      obtain ⟨v, rfl, o⟩ := os.one F
      obtain ⟨p, us, rfl, g, r⟩ := els_L e1 o O.S2
      have e3 := allOf_ints e2 r
      subst e3
      exact .inl ⟨p, ns, rfl, .of g, O.fin q (.int _)⟩
    · exact hr.elim) hm (by decide +kernel) ha hg (hs := hs)
theorem dp_all {p : Pos} (hc : X.calm = true) (hm : X.mg "all" = none) (ha : PA X [a] (LA X.K mr)) (hg : Gl X "all" := by rfl) (hs : starEach [a] X.env = (false, eval a X.env) :: starEach [] X.env := by rfl) : PE X (.Call (.Name "all" p) [a] [] pos) (LP X.K (mB oAll mr)) :=
  dp_callB (cr_all hc) (fun H Q W fp xf Q0 rs vs W2 H2 g hr O os F => by
    unfold oAll at hr
    split at hr
    · obtain ⟨ds, ns, e1, e2, q⟩ := hr
      obtain ⟨v, rfl, o⟩ := os.one F
      obtain ⟨p, us, rfl, g, r⟩ := els_L e1 o O.S2
      have e3 := allOf_bls e2 r
      subst e3
      exact ⟨p, ns, rfl, .of g, O.fin q (.bl _)⟩
    · exact hr.elim) hm (by decide +kernel) ha hg (hs := hs)
theorem len_pos {α : Type} {l : List α} (h : l ≠ []) : 0 < l.length := List.length_pos_iff.mpr h
theorem dp_maxL {p : Pos} (hc : X.calm = true) (hm : X.mg "max" = none) (ha : PA X [a] (LA X.K mr)) (hg : Gl X "max" := by rfl) (hs : starEach [a] X.env = (false, eval a X.env) :: starEach [] X.env := by rfl) : PE X (.Call (.Name "max" p) [a] [] pos) (LP X.K (mB oMaxL mr)) :=
  dp_callB (cr_max hc) (fun H Q W fp xf Q0 rs vs W2 H2 g hr O os F => by
    unfold oMaxL at hr
    split at hr
    · obtain ⟨ds, ns, e1, e2, hne, q⟩ := hr
      obtain ⟨v, rfl, o⟩ := os.one F
      obtain ⟨p, us, rfl, g, r⟩ := els_L e1 o O.S2
      have e3 := allOf_ints e2 r
      subst e3
      exact ⟨p, ns, rfl, .of g, len_pos hne, fun m h1 h2 => O.fin (q m h1 h2) (.int _)⟩
    · exact hr.elim) hm (by decide +kernel) ha hg (hs := hs)
theorem dp_list {p : Pos} (hm : X.mg "list" = none) (ha : PA X [a] (LA X.K mr)) (hg : Gl X "list" := by rfl) (hs : starEach [a] X.env = (false, eval a X.env) :: starEach [] X.env := by rfl) : PE X (.Call (.Name "list" p) [a] [] pos) (LP X.K (mB oList mr)) :=
  dp_callTy call_list_of (fun H Q W fp xf Q0 rs vs W2 H2 g hr O os F => by
    unfold oList at hr
    split at hr
    · obtain ⟨v, rfl, o⟩ := os.one F
      cases (show Rep X.K W2 v (.lst _) from o) with
      | lst g r => exact ⟨_, _, rfl, .inl (.of (O.S2.sub _ _ g)), fun l n => O.newL hr r l n⟩
    · obtain ⟨v, rfl, o⟩ := os.one F
      cases (show Rep X.K W2 v (.tup _) from o) with
      | tup g r => exact ⟨_, _, rfl, .inr (.of (O.S2.sub _ _ g)), fun l n => O.newL hr r l n⟩
    · obtain ⟨ds, e, q⟩ := hr
      obtain ⟨v, rfl, o⟩ := os.one F
      obtain ⟨p, us, rfl, g, r⟩ := els_L e o O.S2
      exact ⟨p, us, rfl, .inl (.of g), fun l n => O.newL q r l n⟩
    · exact hr.elim) hm (by decide +kernel) ha hg (hs := hs)
end
end R
namespace R
open PySem PySem.Spec PyProof.Rows L2
section
variable {K : PySem.W.Frag} {W W1 W2 W' : Wd} {H H1 H2 H' : Hp} {f f1 fp xf : List Addr} {σ : L2.St} {Q : VK} {r : Rs} {v : V} {env : Env}
theorem List.set_getElem_self_some {α : Type} {l : List α} {i : Nat} {x : α} (h : l[i]? = some x) : l.set i x = l := by
  obtain ⟨hi, e⟩ := List.getElem?_eq_some_iff.mp h
  rw [← e, List.set_getElem_self]
theorem Sat.perm {fp' xf' : List Addr} (s : Sat K W H fp xf) (p : fp'.Perm fp) (x : ∀ a ∈ xf', a ∈ xf) : Sat K W H fp' xf' :=
  ⟨s.sub, s.vol, p.nodup_iff.mpr s.nd, fun a m => s.off a (p.mem_iff.mp m), fun a m => ⟨fun q => (s.xof a (x a m)).1 (p.mem_iff.mp q), (s.xof a (x a m)).2⟩⟩
theorem Sat.less {g : List Addr} (s : Sat K W H (g ++ fp) xf) : Sat K W H fp xf :=
  ⟨s.sub, s.vol, (List.nodup_append.mp s.nd).2.1, fun a m => s.off a (List.mem_append_right _ m), fun a m => ⟨fun q => (s.xof a m).1 (List.mem_append_right _ q), (s.xof a m).2⟩⟩
theorem EnvOk.len (E : EnvOk K W H σ env fp xf) : σ.length = env.length := by
  induction E with
  | nil => rfl
  | no _ ih => simp [ih]
  | fz _ _ ih => simp [ih]
  | nw _ _ ih => simp [ih]
  | ex _ _ ih => simp [ih]
theorem EnvOk.clear {σ : L2.St} {env : Env} {fp xf : List Addr} (E : EnvOk K W H σ env fp xf) : ∀ (i : Nat) (x : Option V), ∃ f fp' xf', EnvOk K W H (σ.set i x) (env.set i none) fp' xf' ∧ fp.Perm (f ++ fp') ∧ (∀ a ∈ xf', a ∈ xf) ∧
    ∀ t v, env[i]? = some (some (.nw t)) → σ[i]? = some (some v) → Own K W H v t f := by
  induction E with
  | nil => intro i x; exact ⟨[], [], [], .nil, .refl _, fun _ m => m, fun t v e => by simp at e⟩
  | no E ih =>
    intro i x
    cases i with
    | zero => exact ⟨[], _, _, .no E, .refl _, fun _ m => m, fun t v e => by simp at e⟩
    | succ i =>
      obtain ⟨f, fp', xf', a, b, c, d⟩ := ih i x
      exact ⟨f, fp', xf', .no a, b, c, fun t v e1 e2 => d t v (by simpa using e1) (by simpa using e2)⟩
  | fz r E ih =>
    intro i x
    cases i with
    | zero => exact ⟨[], _, _, .no E, .refl _, fun _ m => m, fun t v e => by simp at e⟩
    | succ i =>
      obtain ⟨f, fp', xf', a, b, c, d⟩ := ih i x
      exact ⟨f, fp', xf', .fz r a, b, c, fun t v e1 e2 => d t v (by simpa using e1) (by simpa using e2)⟩
  | nw r E ih =>
    rename_i v t f0 σ e fp xf
    intro i x
    cases i with
    | zero => exact ⟨f0, _, _, .no E, .refl _, fun _ m => m, fun t v e1 e2 => by simp at e1 e2; subst e1 e2; exact r⟩
    | succ i =>
      obtain ⟨f, fp', xf', a, b, c, d⟩ := ih i x
      refine ⟨f, f0 ++ fp', xf', .nw r a, ?_, c, fun t v e1 e2 => d t v (by simpa using e1) (by simpa using e2)⟩
      have q : (f0 ++ (f ++ fp')).Perm (f ++ (f0 ++ fp')) := by
        rw [← List.append_assoc, ← List.append_assoc]
        exact List.perm_append_comm.append_right _
      exact (b.append_left f0).trans q
  | ex r E ih =>
    intro i x
    cases i with
    | zero => exact ⟨[], _, _, .no E, .refl _, fun _ m => List.mem_append_right _ m, fun t v e => by simp at e⟩
    | succ i =>
      obtain ⟨f, fp', xf', a, b, c, d⟩ := ih i x
      exact ⟨f, fp', _, .ex r a, b, fun z m => (List.mem_append.mp m).elim (List.mem_append_left _) fun m => List.mem_append_right _ (c z m), fun t v e1 e2 => d t v (by simpa using e1) (by simpa using e2)⟩
theorem EnvOk.fill {σ : L2.St} {env : Env} {fp xf : List Addr} (E : EnvOk K W H σ env fp xf) : ∀ {i : Nat}, i < σ.length → env[i]? = some none →
    (∀ d, r = .fz d → Rep K W v d → EnvOk K W H (σ.set i (some v)) (env.set i (some r)) fp xf) ∧
    (∀ t f, r = .nw t → Own K W H v t f → ∃ fp', EnvOk K W H (σ.set i (some v)) (env.set i (some r)) fp' xf ∧ fp'.Perm (f ++ fp)) ∧
    (∀ t f, r = .ex t → Own K W H v t f → ∃ xf', EnvOk K W H (σ.set i (some v)) (env.set i (some r)) fp xf' ∧ ∀ a ∈ xf', a ∈ f ∨ a ∈ xf) := by
  induction E with
  | nil => intro i hi; simp at hi
  | no E ih =>
    intro i hi he
    cases i with
    | zero => exact ⟨fun d e q => by subst e; exact .fz q E, fun t f e q => by subst e; exact ⟨_, .nw q E, .refl _⟩, fun t f e q => by subst e; exact ⟨_, .ex q E, fun a m => List.mem_append.mp m⟩⟩
    | succ i =>
      obtain ⟨a, b, c⟩ := ih (i := i) (by simpa using hi) (by simpa using he)
      refine ⟨fun d e q => .no (a d e q), fun t f e q => ?_, fun t f e q => ?_⟩
      · obtain ⟨fp', x, y⟩ := b t f e q
        exact ⟨fp', .no x, y⟩
      · obtain ⟨fp', x, y⟩ := c t f e q
        exact ⟨fp', .no x, y⟩
  | fz r0 E ih =>
    intro i hi he
    cases i with
    | zero => simp at he
    | succ i =>
      obtain ⟨a, b, c⟩ := ih (i := i) (by simpa using hi) (by simpa using he)
      refine ⟨fun d e q => .fz r0 (a d e q), fun t f e q => ?_, fun t f e q => ?_⟩
      · obtain ⟨fp', x, y⟩ := b t f e q
        exact ⟨fp', .fz r0 x, y⟩
      · obtain ⟨fp', x, y⟩ := c t f e q
        exact ⟨fp', .fz r0 x, y⟩
  | nw r0 E ih =>
    rename_i f0 _ _ fp xf
    intro i hi he
    cases i with
    | zero => simp at he
    | succ i =>
      obtain ⟨a, b, c⟩ := ih (i := i) (by simpa using hi) (by simpa using he)
      refine ⟨fun d e q => .nw r0 (a d e q), fun t f e q => ?_, fun t f e q => ?_⟩
      · obtain ⟨fp', x, y⟩ := b t f e q
        refine ⟨f0 ++ fp', .nw r0 x, (y.append_left f0).trans ?_⟩
        rw [← List.append_assoc, ← List.append_assoc]
        exact List.perm_append_comm.append_right _
      · obtain ⟨fp', x, y⟩ := c t f e q
        exact ⟨fp', .nw r0 x, y⟩
  | ex r0 E ih =>
    intro i hi he
    cases i with
    | zero => simp at he
    | succ i =>
      obtain ⟨a, b, c⟩ := ih (i := i) (by simpa using hi) (by simpa using he)
      refine ⟨fun d e q => .ex r0 (a d e q), fun t f e q => ?_, fun t f e q => ?_⟩
      · obtain ⟨fp', x, y⟩ := b t f e q
        exact ⟨fp', .ex r0 x, y⟩
      · obtain ⟨fp', x, y⟩ := c t f e q
        refine ⟨_, .ex r0 x, fun a m => ?_⟩
        rcases List.mem_append.mp m with m | m
        · exact .inr (List.mem_append_left _ m)
        · exact (y a m).imp id (List.mem_append_right _)
def SlotOk (K : PySem.W.Frag) (W : Wd) (H : Hp) (fp : List Addr) (v : V) (r : Rs) (f : List Addr) : Prop := match r with
  | .fz d => f = [] ∧ Rep K W v d
  | .nw t => Own K W H v t f
  | .ex t => f = [] ∧ ∃ g, Own K W H v t g ∧ ∀ a ∈ g, a ∉ fp ∧ W.S a = none
  | .br _ => False
theorem perm4 (g fr f fp1 : List Addr) : (g ++ (fr ++ (f ++ fp1))).Perm (fr ++ (f ++ (g ++ fp1))) := by
  have a : (g ++ (fr ++ (f ++ fp1))).Perm (fr ++ (g ++ (f ++ fp1))) := by
    rw [← List.append_assoc g fr, ← List.append_assoc fr g]
    exact List.perm_append_comm.append_right _
  have b : (g ++ (f ++ fp1)).Perm (f ++ (g ++ fp1)) := by
    rw [← List.append_assoc, ← List.append_assoc]
    exact List.perm_append_comm.append_right _
  exact a.trans (b.append_left fr)
theorem EnvOk.put {i : Nat} {f fr : List Addr} (E : EnvOk K W H σ env fp xf) (S : Sat K W H (fr ++ (f ++ fp)) xf) (o : SlotOk K W H (fr ++ (f ++ fp)) v r f) : ∃ fp' xf', EnvOk K W H (σ.set i (some v)) (env.set i (some r)) fp' xf' ∧ Sat K W H (fr ++ fp') xf' ∧ ∀ a ∈ fp', a ∈ f ∨ a ∈ fp := by
  by_cases hi : i < σ.length
  case neg =>
    rw [List.set_eq_of_length_le (by omega), List.set_eq_of_length_le (by rw [← E.len]; omega)]
    refine ⟨fp, xf, E, Sat.less (g := f) (S.perm ?_ fun _ m => m), fun _ m => .inr m⟩
    rw [← List.append_assoc f fr, ← List.append_assoc fr f]
    exact List.perm_append_comm.append_right _
  obtain ⟨g, fp1, xf1, E1, p1, x1, _⟩ := E.clear i none
  have hi2 : i < (σ.set i none).length := by simpa using hi
  have he : (env.set i none)[i]? = some none := by
    rw [List.getElem?_set_self]
    rw [← E.len]; exact hi
  have sub1 : ∀ a ∈ fp1, a ∈ fp := fun a m => p1.mem_iff.mpr (List.mem_append_right _ m)
  have S1 : Sat K W H (fr ++ (f ++ fp1)) xf1 := by
    have q : (g ++ (fr ++ (f ++ fp1))).Perm (fr ++ (f ++ fp)) := (perm4 g fr f fp1).trans ((p1.symm.append_left f).append_left fr)
    exact (S.perm q x1).less
  obtain ⟨a, b, c⟩ := E1.fill (r := r) (v := v) hi2 he
  have es : (σ.set i none).set i (some v) = σ.set i (some v) := List.set_set _
  have ee : (env.set i none).set i (some r) = env.set i (some r) := List.set_set _
  rw [es, ee] at a b c
  cases r with
  | fz d =>
    obtain ⟨rfl, o⟩ := o
    exact ⟨fp1, xf1, a d rfl o, S1, fun z m => .inr (sub1 z m)⟩
  | nw t =>
    obtain ⟨fp', e, p⟩ := b t f rfl o
    exact ⟨fp', xf1, e, S1.perm (p.append_left fr) fun _ m => m, fun z m => (List.mem_append.mp (p.mem_iff.mp m)).imp id (sub1 z)⟩
  | ex t =>
    obtain ⟨rfl, g2, o, z2⟩ := o
    obtain ⟨xf', e, p⟩ := c t g2 rfl o
    refine ⟨fp1, xf', e, ⟨S1.sub, S1.vol, S1.nd, S1.off, fun z m => ?_⟩, fun z m => .inr (sub1 z m)⟩
    rcases p z m with m | m
    · refine ⟨fun q => (z2 z m).1 ?_, (z2 z m).2, o.alloc z m⟩
      rcases List.mem_append.mp q with q | q
      · exact List.mem_append_left _ q
      · exact List.mem_append_right _ (sub1 z q)
    · exact S1.xof z m
  | br t => exact o.elim
end
structure Post (K : PySem.W.Frag) (W : Wd) (H : Hp) (fp : List Addr) (pr : List Nat) (σ σ' : L2.St) (W' : Wd) (H' : Hp) (env' : Env) (fp' xf' : List Addr) : Prop where
  t : Stp W H fp W' H'
  E : EnvOk K W' H' σ' env' fp' xf'
  S : Sat K W' H' fp' xf'
  nf : ∀ a ∈ fp', a ∈ fp ∨ H a = none
  pr : ∀ i ∈ pr, σ'[i]? = σ[i]?
def RetOk (K : PySem.W.Frag) (H : Hp) (fp fp' : List Addr) (W' : Wd) (H' : Hp) (v : V) (r : Rs) : Prop := match r with
  | .fz d => Rep K W' v d
  | .nw t => ∃ f, Own K W' H' v t f ∧ f.Nodup ∧ ∀ a ∈ f, (H a = none ∨ a ∈ fp) ∧ a ∉ fp' ∧ W'.G a = none ∧ W'.S a = none
  | _ => False
structure RtOk (K : PySem.W.Frag) (ex : Nat → Hp → Prop) (W : Wd) (H : Hp) (fp : List Addr) (pr : List Nat) (σ : L2.St) (Kr : Rs → Env → Prop) (Dr : V → Hp → Prop) : Prop where
  rt : ∀ r e, Kr r e → ∀ v σ' W' H' fp' xf', Post K W H fp pr σ σ' W' H' e fp' xf' → RetOk K H fp fp' W' H' v r → Dr v H'
  x : ∀ k e, Kr (.fz (.exn k)) e → ∀ σ' W' H' fp' xf', Post K W H fp pr σ σ' W' H' e fp' xf' → ex k H'
instance {K : PySem.W.Frag} {ex : Nat → Hp → Prop} {W : Wd} {H : Hp} {fp : List Addr} {pr : List Nat} {σ : L2.St} {Kr : Rs → Env → Prop} {Dr : V → Hp → Prop} : CoeFun (RtOk K ex W H fp pr σ Kr Dr) (fun _ => ∀ r e, Kr r e → ∀ v σ' W' H' fp' xf', Post K W H fp pr σ σ' W' H' e fp' xf' → RetOk K H fp fp' W' H' v r → Dr v H') := ⟨RtOk.rt⟩
def LS (K : PySem.W.Frag) (ex : Nat → Hp → Prop) (pr : List Nat) (m : DS) : TS := fun D σ H => ∃ (W : Wd) (env : Env) (fp xf : List Addr) (K0 : DK), EnvOk K W H σ env fp xf ∧ Sat K W H fp xf ∧ m env K0 ∧
  (∀ e, K0.nx e → ∀ σ' W' H' fp' xf', Post K W H fp pr σ σ' W' H' e fp' xf' → D.nx σ' H') ∧
  (∀ e, K0.bk e → ∀ σ' W' H' fp' xf', Post K W H fp pr σ σ' W' H' e fp' xf' → D.bk σ' H') ∧
  (∀ e, K0.ct e → ∀ σ' W' H' fp' xf', Post K W H fp pr σ σ' W' H' e fp' xf' → D.ct σ' H') ∧
  RtOk K ex W H fp pr σ K0.rt D.rt
def exT : Nat → Hp → Prop := fun _ _ => True
section
variable {K : PySem.W.Frag} {W W1 W2 W' : Wd} {H H1 H2 H' : Hp} {f f1 fp fp1 fp2 xf xf1 xf2 : List Addr} {σ σ1 σ2 : L2.St} {Q : VK} {r : Rs} {v : V} {env env1 env2 : Env} {pr : List Nat}
theorem Post.pure (t : Stp W H [] W1 H1) (E : EnvOk K W1 H1 σ env fp xf) (S : Sat K W1 H1 fp xf) : Post K W H fp pr σ σ W1 H1 env fp xf := ⟨t.up, E, S, fun _ m => .inl m, fun _ _ => rfl⟩
theorem Post.trans (a : Post K W H fp pr σ σ1 W1 H1 env1 fp1 xf1) (b : Post K W1 H1 fp1 pr σ1 σ2 W2 H2 env2 fp2 xf2) : Post K W H fp pr σ σ2 W2 H2 env2 fp2 xf2 :=
  ⟨a.t.trans b.t a.nf, b.E, b.S, fun c m => (b.nf c m).elim (a.nf c) fun z => .inr (by
    cases q : H c with
    | none => rfl
    | some o => exact absurd z (a.t.al c (some_ne q))), fun i m => (b.pr i m).trans (a.pr i m)⟩
theorem RetOk.back {fp'' : List Addr} (h : RetOk K H1 fp1 fp'' W2 H2 v r) (a : Post K W H fp pr σ σ1 W1 H1 env1 fp1 xf1) : RetOk K H fp fp'' W2 H2 v r := by
  cases r with
  | fz d => exact h
  | nw t =>
    obtain ⟨f, o, nd, z⟩ := h
    refine ⟨f, o, nd, fun c m => ⟨?_, (z c m).2⟩⟩
    rcases (z c m).1 with q | q
    · cases q2 : H c with
      | none => exact .inl rfl
      | some o => exact absurd q (a.t.al c (some_ne q2))
    · exact (a.nf c q).symm
  | br t => exact h
  | ex t => exact h
theorem RetOk.of (h : ResOk K H fp W2 H2 v r) (ho : r.own) (S : Sat K W H fp xf) : RetOk K H fp fp W2 H2 v r := by
  cases r with
  | fz d => exact h
  | nw t =>
    obtain ⟨f, o, nd, z⟩ := h
    exact ⟨f, o, nd, fun a m => ⟨.inl (z a m).1, fun q => (S.off a q).2.2 (z a m).1, (z a m).2⟩⟩
  | br t => exact ho.elim
  | ex t => exact ho.elim
theorem RtOk.after {ex : Nat → Hp → Prop} {Kr : Rs → Env → Prop} {Dr : V → Hp → Prop} (P : Post K W H fp pr σ σ1 W1 H1 env1 fp1 xf1) (rt : RtOk K ex W H fp pr σ Kr Dr) : RtOk K ex W1 H1 fp1 pr σ1 Kr Dr :=
  ⟨fun r e q v σ' W' H' fp' xf' p o => rt.rt r e q v σ' W' H' fp' xf' (P.trans p) (o.back P), fun k e q σ' W' H' fp' xf' p => rt.x k e q σ' W' H' fp' xf' (P.trans p)⟩
theorem LS.from {ex : Nat → Hp → Prop} {m : DS} {D : Ends} {K0 : DK} (P : Post K W H fp pr σ σ1 W1 H1 env1 fp1 xf1) (h : m env1 K0)
    (nx : ∀ e, K0.nx e → ∀ σ' W' H' fp' xf', Post K W H fp pr σ σ' W' H' e fp' xf' → D.nx σ' H')
    (bk : ∀ e, K0.bk e → ∀ σ' W' H' fp' xf', Post K W H fp pr σ σ' W' H' e fp' xf' → D.bk σ' H')
    (ct : ∀ e, K0.ct e → ∀ σ' W' H' fp' xf', Post K W H fp pr σ σ' W' H' e fp' xf' → D.ct σ' H')
    (rt : RtOk K ex W H fp pr σ K0.rt D.rt) : LS K ex pr m D σ1 H1 :=
  ⟨W1, env1, fp1, xf1, K0, P.E, P.S, h, fun e q σ' W' H' fp' xf' p => nx e q σ' W' H' fp' xf' (P.trans p), fun e q σ' W' H' fp' xf' p => bk e q σ' W' H' fp' xf' (P.trans p),
    fun e q σ' W' H' fp' xf' p => ct e q σ' W' H' fp' xf' (P.trans p), rt.after P⟩
theorem ResOk.toSlot (h : ResOk K H fp W2 H2 v r) (hs : r.slot) (S : Sat K W H fp xf) (S2 : Sat K W2 H2 fp xf) : ∃ f, SlotOk K W2 H2 (f ++ fp) v r f ∧ Sat K W2 H2 (f ++ fp) xf ∧ ∀ a ∈ f, H a = none := by
  cases r with
  | fz d => exact ⟨[], ⟨rfl, h⟩, S2, fun _ m => by cases m⟩
  | nw t =>
    obtain ⟨f, o, nd, z⟩ := h
    refine ⟨f, o, ⟨S2.sub, S2.vol, List.nodup_append.mpr ⟨nd, S2.nd, fun a m b m2 e => ?_⟩, fun a m => ?_, fun a m => ⟨fun q => ?_, (S2.xof a m).2⟩⟩, fun a m => (z a m).1⟩
    · subst e
      exact (S.off a m2).2.2 (z a m).1
    · rcases List.mem_append.mp m with m | m
      · exact ⟨(z a m).2.1, (z a m).2.2, o.alloc a m⟩
      · exact S2.off a m
    · rcases List.mem_append.mp q with q | q
      · exact (S.xof a m).2.2 (z a q).1
      · exact (S2.xof a m).1 q
  | ex t =>
    obtain ⟨f, o, z⟩ := h
    exact ⟨[], ⟨rfl, f, o, fun a m => ⟨(z a m).2, (z a m).1⟩⟩, S2, fun _ m => by cases m⟩
  | br t => exact hs.elim
theorem Post.store {i : Nat} (S : Sat K W H fp xf) (t : Stp W H [] W1 H1) (E : EnvOk K W1 H1 σ env fp xf) (S1 : Sat K W1 H1 fp xf) (o : ResOk K H fp W1 H1 v r) (hs : r.slot) (hp : i ∉ pr) :
    ∃ fp' xf', Post K W H fp pr σ (σ.set i (some v)) W1 H1 (env.set i (some r)) fp' xf' := by
  obtain ⟨f, so, sf, z⟩ := o.toSlot hs S S1
  obtain ⟨fp', xf', E', S', y⟩ := E.put (fr := []) sf so
  refine ⟨fp', xf', t.up, E', S', fun a m => (y a m).elim (fun q => .inr (z a q)) .inl, fun j m => ?_⟩
  rw [List.getElem?_set_ne]
  intro e
  exact hp (by rw [e]; exact m)
end
section
variable {X : Cx} {a b c : Expr} {ma mb mc : DE} {pos : Pos} {ta tb : DT} {st : Stmt} {rest s1 s2 : List Stmt} {m m1 m2 : DS} {pr : List Nat}
theorem dss_nil : PSs X [] (LS X.K ex pr mNext) := pss_imp pss_nil fun D σ H h => by
  obtain ⟨W, env, fp, xf, K0, E, S, hm, nx, _⟩ := h
  exact nx _ hm σ W H fp xf (.pure .refl E S)
theorem dss_cons (h1 : PS X st (LS X.K ex pr m1)) (h2 : PSs X rest (LS X.K ex pr m2)) : PSs X (st :: rest) (LS X.K ex pr (mSeq m1 m2)) := pss_imp (pss_cons h1 h2) fun D σ H h => by
  obtain ⟨W, env, fp, xf, K0, E, S, hm, nx, bk, ct, rt⟩ := h
  exact ⟨W, env, fp, xf, _, E, S, hm, fun e q σ' W' H' fp' xf' P => LS.from P q nx bk ct rt, bk, ct, rt⟩
theorem dss_one (h1 : PS X st (LS X.K ex pr m1)) : PSs X [st] (LS X.K ex pr m1) := pss_one h1
theorem ds_never : PS X st (LS X.K ex pr mNever) := ps_imp ps_never fun D σ H h => by
  obtain ⟨W, env, fp, xf, K0, E, S, hm, _⟩ := h
  exact hm
theorem ds_if (hc : PT X c (LT X.K ta)) (ha : PSs X s1 (LS X.K ex pr m1)) (hb : PSs X s2 (LS X.K ex pr m2)) : PS X (.If c s1 s2 pos) (LS X.K ex pr (mIfS ta m1 m2)) := ps_imp (ps_if hc ha hb) fun D σ H h => by
  obtain ⟨W, env, fp, xf, K0, E, S, hm, nx, bk, ct, rt⟩ := h
  refine LT.next E S hm fun c hc W1 H1 t1 S1 E1 => ?_
  cases c with
  | true => exact iteT (LS.from (.pure t1 E1 S1) (show m1 env K0 from hc) nx bk ct rt)
  | false => exact iteF (LS.from (.pure t1 E1 S1) (show m2 env K0 from hc) nx bk ct rt)
theorem ds_ret (ha : PE X a (LP X.K ma)) : PS X (.Return (some a) pos) (LS X.K ex pr (mRet ma)) := ps_imp (ps_ret ha) fun D σ H h => by
  obtain ⟨W, env, fp, xf, K0, E, S, hm, nx, bk, ct, rt⟩ := h
  refine LP.next E S hm fun r hr v W1 H1 t1 S1 E1 o => ?_
  exact rt r env hr.2 v σ W1 H1 fp xf (.pure t1 E1 S1) (.of o hr.1 S)
theorem ds_retN : PS X (.Return none pos) (LS X.K ex pr mRetN) := ps_imp ps_retN fun D σ H h => by
  obtain ⟨W, env, fp, xf, K0, E, S, hm, nx, bk, ct, rt⟩ := h
  exact rt _ env hm .non σ W H fp xf (.pure .refl E S) Rep.non
theorem ds_drop (ha : PE X a (LP X.K ma)) (hs : swapsWith a none pos.line X.env = pure false := by rfl) : PS X (.Expr a pos) (LS X.K ex pr (mDrop ma)) := ps_imp (ps_expr ha hs) fun D σ H h => by
  obtain ⟨W, env, fp, xf, K0, E, S, hm, nx, bk, ct, rt⟩ := h
  refine LP.next E S hm fun r hr v W1 H1 t1 S1 E1 o => ?_
  exact nx env hr σ W1 H1 fp xf (.pure t1 E1 S1)
theorem ds_fz {i : Nat} (hp : i ∉ pr := by decide) (h : PS X st (LS X.K ex pr m)) : PS X st (LS X.K ex pr (mFzS i m)) := ps_imp h fun D σ H h => by
  obtain ⟨W, env, fp, xf, K0, E, S, ⟨t, d, he, z, hm⟩, nx, bk, ct, rt⟩ := h
  obtain ⟨v, ev, _⟩ := E.get he S
  obtain ⟨f, fp1, xf1, E1, p1, x1, ow⟩ := E.clear i none
  have o := ow t v he ev
  have sp : Sat X.K W H (f ++ fp1) xf1 := S.perm p1.symm x1
  obtain ⟨nd, _, dj⟩ := List.nodup_append.mp sp.nd
  have zf : ∀ a ∈ f, W.G a = none ∧ W.S a = none ∧ H a ≠ none := fun a m => sp.off a (List.mem_append_left _ m)
  obtain ⟨W', F, R, _⟩ := freeze o z nd fun a m => ⟨(zf a m).1, (zf a m).2.1⟩
  have S1 := F.sat sp.less zf fun a m => ⟨fun q => dj a m a q rfl, fun q => (sp.xof a q).1 (List.mem_append_left _ m)⟩
  have l := F.le fun a m => ⟨(zf a m).1, (zf a m).2.1⟩
  have E2 := E1.mono (W' := W') (H' := H) l fun _ _ _ e => e
  have hi : i < σ.length := (List.getElem?_eq_some_iff.mp ev).1
  have he2 : (env.set i none)[i]? = some none := by
    rw [List.getElem?_set_self]
    rw [← E.len]; exact hi
  have E3 := (E2.fill (r := .fz d) (v := v) (by simpa using hi) he2).1 d rfl R
  rw [List.set_set, List.set_set] at E3
  have es : σ.set i (some v) = σ := List.set_getElem_self_some ev
  rw [es] at E3
  have P : Post X.K W H fp pr σ σ W' H (env.set i (some (.fz d))) fp1 xf1 := ⟨⟨fun a h n => F.out a fun q => n (p1.mem_iff.mpr (List.mem_append_left _ q)), fun _ _ e _ _ => e, fun _ h => h⟩, E3, S1, fun a m => .inl (p1.mem_iff.mpr (List.mem_append_right _ m)), fun _ _ => rfl⟩
  exact LS.from P hm nx bk ct rt
end
end R
namespace R
open PySem PySem.Spec PyProof.Rows L2
def LG (K : PySem.W.Frag) (pr : Nat → Prop) (g : DG) : TG := fun v σ H Q => ∃ (W : Wd) (env : Env) (fp xf f fr : List Addr) (r : Rs) (Q0 : Env → Prop), EnvOk K W H σ env fp xf ∧ Sat K W H (fr ++ (f ++ fp)) xf ∧ ResAll K H (fr ++ (f ++ fp)) W H [v] [r] f ∧ g env r Q0 ∧
  ∀ e, Q0 e → ∀ σ' fp' xf', EnvOk K W H σ' e fp' xf' → Sat K W H (fr ++ fp') xf' → (∀ a ∈ fp', a ∈ f ∨ a ∈ fp) → (∀ i, pr i → σ'[i]? = σ[i]?) → Q σ' H
def LGs (K : PySem.W.Frag) (pr : Nat → Prop) (gs : List DG) : TGs := fun vs σ H Q => ∃ (W : Wd) (env : Env) (fp xf f fr : List Addr) (rs : List Rs) (Q0 : Env → Prop), EnvOk K W H σ env fp xf ∧ Sat K W H (fr ++ (f ++ fp)) xf ∧ ResAll K H (fr ++ (f ++ fp)) W H vs rs f ∧ gsN gs rs env Q0 ∧
  ∀ e, Q0 e → ∀ σ' fp' xf', EnvOk K W H σ' e fp' xf' → Sat K W H (fr ++ fp') xf' → (∀ a ∈ fp', a ∈ f ∨ a ∈ fp) → (∀ i, pr i → σ'[i]? = σ[i]?) → Q σ' H
section
variable {K : PySem.W.Frag} {W W1 W2 W' : Wd} {H H1 H2 H' : Hp} {f f1 fp fp1 fp2 xf xf1 xf2 : List Addr} {σ σ1 σ2 : L2.St} {Q : VK} {r : Rs} {v : V} {env env1 env2 : Env} {pr : List Nat}
theorem slot_of {fq : List Addr} {H0 : Hp} (h : ResAll K H0 fq W H [v] [r] f) (hs : r.slot) : SlotOk K W H fq v r f := by
  cases h with
  | fz a b => cases b; exact ⟨rfl, a⟩
  | nw a b => cases b; rw [List.append_nil]; exact a
  | br a z b => exact hs.elim
  | ex a z b => cases b; exact ⟨rfl, _, a, fun c m => ⟨(z c m).2, (z c m).1⟩⟩
end
section
variable {X : Cx} {a b c : Expr} {ma mb mc : DE} {pos : Pos} {ta tb : DT} {st : Stmt} {rest s1 s2 : List Stmt} {m m1 m2 : DS} {pr : List Nat} {g : DG} {gs : List DG} {es : List Expr}
theorem dg_name {i : Nat} {x : Str} {pr : Nat → Prop} (hN : X.N.Nodup) (hi : X.N[i]? = some x) (hx : Loc X.env.scope x := by first | exact Or.inl rfl | exact Or.inr rfl) (hp : ¬ pr i := by decide) (hf : X.fn x = true ∨ X.env.scope.names.lookup x = some .local := by first | exact .inl rfl | exact .inr rfl | assumption) :
    PG X (.Name x pos) (LG X.K pr (gN i)) := by
  refine ⟨fun pins s σ H v u Q I r h => (pg_name hN hi hx hf).run pins s σ H v u Q I r ?_⟩
  obtain ⟨W, env, fp, xf, f, fr, rs, Q0, E, S, o, ⟨hs, hq⟩, k⟩ := h
  obtain ⟨fp', xf', E', S', y⟩ := E.put (i := i) S (slot_of o hs)
  exact k _ hq _ fp' xf' E' S' y fun j m => by
    rw [List.getElem?_set_ne]
    intro e
    exact hp (by rw [e]; exact m)
theorem dgs_nil {pr : Nat → Prop} : PGs X [] (LGs X.K pr []) := by
  refine ⟨fun pins s σ H vs us Q I r h => pgs_nil.run pins s σ H vs us Q I r ?_⟩
  obtain ⟨W, env, fp, xf, f, fr, rs, Q0, E, S, o, hq, k⟩ := h
  cases rs with
  | nil =>
    obtain ⟨rfl, rfl⟩ := o.nil_inv
    exact ⟨rfl, k _ hq _ fp xf E S (fun a m => .inr m) fun _ _ => rfl⟩
  | cons r rs => exact hq.elim
theorem ResAll.head {K : PySem.W.Frag} {H0 : Hp} {fq : List Addr} {W : Wd} {H : Hp} {vs : List V} {r : Rs} {rs : List Rs} {f : List Addr} (o : ResAll K H0 fq W H vs (r :: rs) f) : ∃ v us f1 f2, vs = v :: us ∧ f = f1 ++ f2 ∧ ResAll K H0 fq W H [v] [r] f1 ∧ ResAll K H0 fq W H us rs f2 := by
  cases o with
  | fz a b => exact ⟨_, _, [], _, rfl, rfl, .fz a .nil, b⟩
  | nw a b => exact ⟨_, _, _, _, rfl, rfl, by have z := ResAll.nw (H := H0) (fp := fq) a .nil; rw [List.append_nil] at z; exact z, b⟩
  | br a z b => exact ⟨_, _, [], _, rfl, rfl, .br a z .nil, b⟩
  | ex a z b => exact ⟨_, _, [], _, rfl, rfl, .ex a z .nil, b⟩
theorem ResAll.refp {K : PySem.W.Frag} {H0 H1 : Hp} {fq fq' : List Addr} {W : Wd} {H : Hp} {vs : List V} {rs : List Rs} {f : List Addr} (o : ResAll K H0 fq W H vs rs f) (h : ∀ a ∈ fq', a ∈ fq) : ResAll K H1 fq' W H vs rs f := by
  induction o with
  | nil => exact .nil
  | fz a _ ih => exact .fz a ih
  | nw a _ ih => exact .nw a ih
  | br a z _ ih => exact .br a z ih
  | ex a z _ ih => exact .ex a (fun c m => ⟨(z c m).1, fun q => (z c m).2 (h c q)⟩) ih
theorem dgs_cons {pr : Nat → Prop} (h1 : PG X a (LG X.K pr g)) (h2 : PGs X es (LGs X.K pr gs))
    (he : (assignEach (a :: es) X.env).map (·.2) = assign a X.env :: (assignEach es X.env).map (·.2) := by rfl) : PGs X (a :: es) (LGs X.K pr (g :: gs)) := by
  refine ⟨fun pins s σ H vs us Q I rv h => (pgs_cons h1 h2 he).run pins s σ H vs us Q I rv ?_⟩
  obtain ⟨W, env, fp, xf, f, fr, rs, Q0, E, S, o, hq, k⟩ := h
  cases rs with
  | nil => exact hq.elim
  | cons r rs =>
    obtain ⟨v, us, f1, f2, rfl, rfl, o1, o2⟩ := o.head
    refine ⟨v, us, rfl, W, env, fp, xf, f1, fr ++ f2, r, _, E, ?_, ?_, hq, fun e hq σ' fp' xf' E' S' y z => ?_⟩
    · refine S.perm ?_ fun _ m => m
      rw [List.append_assoc, List.append_assoc]
      refine List.Perm.append_left fr ?_
      rw [← List.append_assoc, ← List.append_assoc]
      exact List.perm_append_comm.append_right _
    · refine o1.refp fun a m => ?_
      simp only [List.mem_append] at m ⊢
      rcases m with (m | m) | m | m
      · exact .inl m
      · exact .inr (.inl (.inr m))
      · exact .inr (.inl (.inl m))
      · exact .inr (.inr m)
    · rw [List.append_assoc] at S'
      refine ⟨W, e, fp', xf', f2, fr, rs, _, E', S', ?_, hq, fun e2 hq2 σ2 fp2 xf2 E2 S2 y2 z2 => ?_⟩
      · refine o2.refp fun a m => ?_
        simp only [List.mem_append] at m ⊢
        rcases m with m | m | m
        · exact .inl m
        · exact .inr (.inl (.inr m))
        · exact (y a m).elim (fun q => .inr (.inl (.inl q))) fun q => .inr (.inr q)
      · refine k e2 hq2 σ2 fp2 xf2 E2 S2 (fun a m => ?_) fun i m => (z2 i m).trans (z i m)
        rcases y2 a m with q | q
        · exact .inl (List.mem_append_right _ q)
        · exact (y a q).imp (List.mem_append_left _) id
theorem parts_ok {K : PySem.W.Frag} {H0 : Hp} {fq : List Addr} {W : Wd} {H : Hp} {v : V} {r : Rs} {rs : List Rs} {f fp xf fr : List Addr} (h : r.parts = some rs) (o : ResAll K H0 fq W H [v] [r] f) (S : Sat K W H (fr ++ (f ++ fp)) xf) :
    ∃ a vs g, v = .ref a ∧ SqT K H a vs ∧ ResAll K H0 fq W H vs rs g ∧ Sat K W H (fr ++ (g ++ fp)) xf ∧ ∀ x ∈ g, x ∈ f := by
  cases r with
  | fz d =>
    cases d with
    | tup ds =>
      cases h
      cases o with
      | fz a b =>
        cases b
        cases a with
        | tup g rr =>
          refine ⟨_, _, [], rfl, .of (S.sub _ _ g), ?_, S, fun _ m => by cases m⟩
          have key : ∀ {vs : List V} {ds : List D}, RepAll K W vs ds → ResAll K H0 fq W H vs (ds.map .fz) [] := by
            intro vs ds
            induction ds generalizing vs with
            | nil => intro h; cases h; exact .nil
            | cons d ds ih => intro h; cases h with | cons a b => exact .fz a (ih b)
          exact key rr
    | _ => cases h
  | nw t =>
    cases t with
    | tup ts =>
      cases h
      cases o with
      | nw a b =>
        cases b
        rw [List.append_nil] at S ⊢
        cases a with
        | tup g rr =>
          rename_i p us f'
          have key : ∀ {vs : List V} {ts : List OT} {f : List Addr}, OwnAll K W H vs ts f → ResAll K H0 fq W H vs (ts.map nwOf) f := by
            intro vs ts
            induction ts generalizing vs with
            | nil => intro f h; cases h; exact .nil
            | cons t ts ih =>
              intro f h
              cases h with
              | cons a b =>
                cases t with
                | leaf d => cases a with | leaf a => exact .fz a (ih b)
                | lst _ => exact .nw a (ih b)
                | tup _ => exact .nw a (ih b)
                | ins _ _ _ => exact .nw a (ih b)
                | d0 => exact .nw a (ih b)
                | xo => exact .nw a (ih b)
                | dk _ _ => exact .nw a (ih b)
          refine ⟨p, us, f', rfl, .of g, key rr, ?_, fun _ m => List.mem_cons_of_mem _ m⟩
          refine Sat.less (g := [p]) (S.perm ?_ fun _ m => m)
          exact (List.perm_append_comm (l₁ := [p]) (l₂ := fr)).append_right (f' ++ fp) |>.trans (by rw [List.append_assoc]; exact .refl _) |> fun z => by rw [List.append_assoc] at z; exact z
    | _ => cases h
  | br t => cases h
  | ex t =>
    cases t with
    | tup ts =>
      cases h
      cases o with
      | ex a z b =>
        cases b
        cases a with
        | tup g rr =>
          rename_i p us f'
          have key : ∀ {vs : List V} {ts : List OT} {f : List Addr}, OwnAll K W H vs ts f → (∀ a ∈ f, W.S a = none ∧ a ∉ fq) → ResAll K H0 fq W H vs (ts.map exOf) [] := by
            intro vs ts
            induction ts generalizing vs with
            | nil => intro f h _; cases h; exact .nil
            | cons t ts ih =>
              intro f h z
              cases h with
              | cons a b =>
                have zb := fun c m => z c (List.mem_append_right _ m)
                have za := fun c m => z c (List.mem_append_left _ m)
                cases t with
                | leaf d => cases a with | leaf a => exact .fz a (ih b zb)
                | lst _ => exact .ex a za (ih b zb)
                | tup _ => exact .ex a za (ih b zb)
                | ins _ _ _ => exact .ex a za (ih b zb)
                | d0 => exact .ex a za (ih b zb)
                | xo => exact .ex a za (ih b zb)
                | dk _ _ => exact .ex a za (ih b zb)
          exact ⟨p, us, [], rfl, .of g, key rr fun c m => z c (List.mem_cons_of_mem _ m), S, fun _ m => by cases m⟩
    | _ => cases h
theorem ResAll.len {K : PySem.W.Frag} {H0 : Hp} {fq : List Addr} {W : Wd} {H : Hp} {vs : List V} {rs : List Rs} {f : List Addr} (o : ResAll K H0 fq W H vs rs f) : vs.length = rs.length := by
  induction o with
  | nil => rfl
  | fz _ _ ih => simp [ih]
  | nw _ _ ih => simp [ih]
  | br _ _ _ ih => simp [ih]
  | ex _ _ _ ih => simp [ih]
theorem dg_tup {k n : Nat} {pr : Nat → Prop} (hc : X.calm = true) (h : PGs X es (LGs X.K pr gs)) (hg : gs.length = n := by rfl) (hn : (assignEach es X.env).length = n := by rfl) (hst : (assignEach es X.env).findIdx? (·.1) = none := by rfl) : PG X (.Tuple es k pos) (LG X.K pr (gT gs)) := by
  refine ⟨fun pins s σ H v u Q I rv h' => (pg_tup hc h hn hst).run pins s σ H v u Q I rv ?_⟩
  obtain ⟨W, env, fp, xf, f, fr, r, Q0, E, S, o, ⟨ps, ep, el, hq⟩, kk⟩ := h'
  obtain ⟨a, vs, g, rfl, ht, os, S', y⟩ := parts_ok ep o S
  refine ⟨a, vs, rfl, ht, by rw [os.len, el, hg], W, env, fp, xf, g, fr, ps, Q0, E, S', os.refp fun a m => ?_, hq, fun e q σ' fp' xf' E' S' y2 z2 => kk e q σ' fp' xf' E' S' (fun c m => (y2 c m).imp (y c) id) z2⟩
  simp only [List.mem_append] at m ⊢
  rcases m with m | m | m
  · exact .inl m
  · exact .inr (.inl (y a m))
  · exact .inr (.inr m)
theorem LG.of {K : PySem.W.Frag} {W W1 : Wd} {H H1 : Hp} {fp xf : List Addr} {σ : L2.St} {env : Env} {r : Rs} {v : V} {g : DG} {Q0 : Env → Prop} {Q : L2.St → Hp → Prop} (S : Sat K W H fp xf) (t : Stp W H [] W1 H1) (E : EnvOk K W1 H1 σ env fp xf) (S1 : Sat K W1 H1 fp xf) (o : ResOk K H fp W1 H1 v r) (h : g env r Q0)
    (k : ∀ e, Q0 e → ∀ σ' fp' xf', Post K W H fp pr σ σ' W1 H1 e fp' xf' → Q σ' H1) : LG K (· ∈ pr) g v σ H1 Q := by
  have fin : ∀ f, Sat K W1 H1 ([] ++ (f ++ fp)) xf → (∀ a ∈ f, H a = none) → ResAll K H1 ([] ++ (f ++ fp)) W1 H1 [v] [r] f → LG K (· ∈ pr) g v σ H1 Q := fun f s z o => ⟨W1, env, fp, xf, f, [], r, Q0, E, s, o, h, fun e q σ' fp' xf' E' S' y2 z2 =>
    k e q σ' fp' xf' ⟨t.up, E', S', fun a m => (y2 a m).elim (fun q => .inr (z a q)) .inl, z2⟩⟩
  cases r with
  | fz d => exact fin [] S1 (fun _ m => by cases m) (.fz o .nil)
  | nw x =>
    obtain ⟨f, so, sf, z⟩ := o.toSlot trivial S S1
    have w := ResAll.nw (H := H1) (fp := [] ++ (f ++ fp)) (v := v) so .nil
    rw [List.append_nil] at w
    exact fin f sf z w
  | br x =>
    obtain ⟨f, o, z⟩ := o
    exact fin [] S1 (fun _ m => by cases m) (.br o z .nil)
  | ex x =>
    obtain ⟨f, o, z⟩ := o
    exact fin [] S1 (fun _ m => by cases m) (.ex o z .nil)
theorem ds_asgG {tg : Expr} (ha : PE X a (LP X.K ma)) (hg : PG X tg (LG X.K (· ∈ pr) g)) (hs : swapsWithSole [tg] a pos.line X.env = pure false := by rfl) (hw : swappedStores [tg] a X.env = pure none := by rfl)
    (h1 : (assignEach [tg] X.env).map (·.2) = [assign tg X.env] := by rfl) : PS X (.Assign [tg] a pos) (LS X.K ex pr (mAsgG g ma)) := ps_imp (ps_asg ha hg hs hw h1) fun D σ H h => by
  obtain ⟨W, env, fp, xf, K0, E, S, hm, nx, bk, ct, rt⟩ := h
  refine LP.next E S hm fun r hr v W1 H1 t1 S1 E1 o => ?_
  exact LG.of S t1 E1 S1 o hr fun e q σ' fp' xf' P => nx e q σ' W1 H1 fp' xf' P
theorem ds_asg {i : Nat} {x : Str} {p : Pos} (hN : X.N.Nodup) (hi : X.N[i]? = some x) (ha : PE X a (LP X.K ma)) (hx : Loc X.env.scope x := by first | exact Or.inl rfl | exact Or.inr rfl) (hp : i ∉ pr := by decide) (hs : swapsWith a (some (.Name x p)) pos.line X.env = pure false := by rfl)
    (hf : X.fn x = true ∨ X.env.scope.names.lookup x = some .local := by first | exact .inl rfl | exact .inr rfl | assumption) : PS X (.Assign [.Name x p] a pos) (LS X.K ex pr (mAsgG (gN i) ma)) :=
  ps_imp (ps_set hN hi hx ha hs hf) fun D σ H h => by
  obtain ⟨W, env, fp, xf, K0, E, S, hm, nx, bk, ct, rt⟩ := h
  refine LP.next E S hm fun r hr v W1 H1 t1 S1 E1 o => ?_
  obtain ⟨fp', xf', P⟩ := Post.store (i := i) (pr := pr) S t1 E1 S1 o hr.1 hp
  exact nx _ hr.2 _ W1 H1 fp' xf' P
theorem ip_of {op : Operator} {r : R2} (ho : OpR X (inplaceOp op) r) : PIp X op r := fun pins s σ H x y v u Q I rx ry q => ho pins s σ H x y v u Q I rx ry q
theorem ds_aug {i : Nat} {x : Str} {p : Pos} {op : Operator} {r2 : R2} {Rd : Rs → Rs → (Rs → Prop) → Prop} (ho : OpR X (inplaceOp op) r2)
    (I : ∀ (H : Hp) (Q : VK) (W : Wd) (fp xf : List Addr) (Q0 : Rs → Prop) r1 rr v1 v2 W2 H2, Rd r1 rr Q0 → Ops X.K H Q Q0 W2 H2 W fp xf → ResOk X.K H fp W2 H2 v1 r1 → ResOk X.K H fp W2 H2 v2 rr → r2 v1 v2 H2 Q)
    (hN : X.N.Nodup) (hi : X.N[i]? = some x) (ha : PE X a (LP X.K ma)) (hx : Loc X.env.scope x := by first | exact Or.inl rfl | exact Or.inr rfl) (hp : i ∉ pr := by decide)
    (hf : X.fn x = true ∨ X.env.scope.names.lookup x = some .local := by first | exact .inl rfl | exact .inr rfl | assumption) : PS X (.AugAssign (.Name x p) op a pos) (LS X.K ex pr (mAug i Rd ma)) :=
  ps_imp (ps_aug hN hi hx ha (ip_of ho) hf) fun D σ H h => by
  obtain ⟨W, env, fp, xf, K0, E, S, ⟨d, he, hm⟩, nx, bk, ct, rt⟩ := h
  obtain ⟨v, ev, _, od⟩ := E.get he S
  refine ⟨v, ev, LP.next E S hm fun r hr v2 W1' H1 t1' S1' E1' o' => ?_⟩
  obtain ⟨W1, t1, S1, _, o⟩ := ffz_ok S t1' S1' o'
  have E1 := E.keep S t1
  have l := t1.le S fun _ m => by cases m
  exact I H _ W fp xf _ _ _ v v2 W1 H1 hr ⟨S, t1, S1, fun r hr v' W' H' t' S' o' => by
    obtain ⟨fp', xf', P⟩ := Post.store (i := i) (pr := pr) S t' (E.keep S t') S' o' hr.1 hp
    exact nx _ hr.2 _ W' H' fp' xf' P⟩ ((od d rfl).mono l) o
theorem ds_augI {i : Nat} {x : Str} {p : Pos} {op : Operator} {C C' : Int → Int → Prop} {g : Int → Int → Int} {g' : Int → Int → Int} (ho : OpR X (inplaceOp op) (rI C' fun i j => .int (g' i j))) (hC : ∀ i j, C i j → C' i j) (hg : ∀ i j, C i j → g' i j = g i j)
    (hN : X.N.Nodup) (hi : X.N[i]? = some x) (ha : PE X a (LP X.K ma)) (hx : Loc X.env.scope x := by first | exact Or.inl rfl | exact Or.inr rfl) (hp : i ∉ pr := by decide)
    (hf : X.fn x = true ∨ X.env.scope.names.lookup x = some .local := by first | exact .inl rfl | exact .inr rfl | assumption) : PS X (.AugAssign (.Name x p) op a pos) (LS X.K ex pr (mAug i (i2 C fun i j => .int (g i j)) ma)) :=
  ds_aug ho (fun H Q W fp xf Q0 r1 rr v1 v2 W2 H2 hr O o1 o2 => by
    obtain ⟨i, j, rfl, rfl, hc, q⟩ := i2_inv hr
    refine ⟨i, j, int_of o1, int_of o2, hC i j hc, O.fin q ?_⟩
    show Rep X.K W2 (V.int (g' i j)) _
    rw [hg i j hc]
    exact .int _) hN hi ha hx hp hf
theorem rI0_of {g : Int → Int → V} {f : Value → Value → Sem Value} (h : OpR X f (rI0 g)) : OpR X f (rI (fun _ _ => True) g) := fun pins s σ H x y v u Q I rx ry q => by
  obtain ⟨i, j, a, b, _, q⟩ := q
  exact h pins s σ H x y v u Q I rx ry ⟨i, j, a, b, q⟩
theorem ds_while (hp : PassesOwn (model X.prog X.w) X.A X.env X.xe) (hc : PT X c (LT X.K ta)) (hb : PSs X s1 (LS X.K ex pr m)) : PS X (.While c s1 [] pos) (LS X.K ex pr (mWhile ta m)) := ps_imp (ps_while hp hc hb) fun D σ H h => by
  obtain ⟨W, env, fp, xf, K0, E, S, ⟨Wm, ⟨m0, w0⟩, turn⟩, nx, bk, ct, rt⟩ := h
  refine ⟨fun m σ' H' => ∃ e W' fp' xf', Wm m e ∧ Post X.K W H fp pr σ σ' W' H' e fp' xf', ⟨m0, env, W, fp, xf, w0, .pure .refl E S⟩, fun m1 σ' H' ⟨e, W', fp', xf', w, P⟩ => ?_⟩
  refine LT.next P.E P.S (turn m1 e w) fun c hc W1 H1 t1 S1 E1 => ?_
  have P1 := P.trans (.pure t1 E1 S1)
  cases c with
  | true =>
    refine iteT ⟨fun σ2 H2 => ∃ m', m' < m1 ∧ ∃ e W' fp' xf', Wm m' e ∧ Post X.K W H fp pr σ σ2 W' H2 e fp' xf', fun _ _ h => h, ?_⟩
    exact LS.from P1 hc (fun e ⟨m', l, w'⟩ σ2 W2 H2 fp2 xf2 P2 => ⟨m', l, e, W2, fp2, xf2, w', P2⟩) nx (fun e ⟨m', l, w'⟩ σ2 W2 H2 fp2 xf2 P2 => ⟨m', l, e, W2, fp2, xf2, w', P2⟩) rt
  | false => exact iteF (nx e hc σ' W1 H1 fp' xf' P1)
end
end R
namespace R
open PySem PySem.Spec PyProof.Rows L2
def ItOk (K : PySem.W.Frag) (J : It) (xs : List Rs) (W : Wd) (H : Hp) (f fp : List Addr) : Prop := ∀ W' H' fp' xf', Stp W H f W' H' → W.Le W' → Sat K W' H' fp' xf' → (∀ a ∈ fp', a ∈ fp ∨ H a = none) →
  (∀ i, xs.length ≤ i → J.stop i H') ∧ (∀ i, i < xs.length → J.go i H') ∧ ∀ i x H'' r, J.yld i H' x H'' → xs[i]? = some r → Stp W' H' [] W' H'' ∧ Sat K W' H'' fp' xf' ∧ ResOk K H' fp' W' H'' x r
def LI (K : PySem.W.Frag) (m : DI) : TI := fun σ H R => ∃ (W : Wd) (env : Env) (fp xf : List Addr) (Q0 : Bool → List Rs → Prop), EnvOk K W H σ env fp xf ∧ Sat K W H fp xf ∧ m env Q0 ∧
  ∀ st xs, Q0 st xs → ∀ J W' H', Stp W H [] W' H' → Sat K W' H' fp xf → (∀ f, (st = true ∨ f = []) → (∀ a ∈ f, a ∈ fp) → ItOk K J xs W' H' f fp) → R J H'
section
variable {K : PySem.W.Frag} {W W1 W2 W' : Wd} {H H1 H2 H' : Hp} {f f1 fp fp1 fp2 xf xf1 xf2 : List Addr} {σ σ1 σ2 : L2.St} {Q : VK} {r : Rs} {v : V} {env env1 env2 : Env} {pr : List Nat}
theorem items_stay {ts : List OT} (o : ResOk K H fp W1 H1 v r) (ek : r.t.kids = some ts) (S1 : Sat K W1 H1 fp xf) : ∃ (p : Addr) (vs : List V), v = .ref p ∧ vs.length = ts.length ∧
    (((∃ xs, SqL K H1 p xs) ∧ ∀ f, (r.stays = true ∨ f = []) → (∀ a ∈ f, a ∈ fp) → ∀ W' H' fp' xf', Stp W1 H1 f W' H' → W1.Le W' → Sat K W' H' fp' xf' → SqL K H' p vs) ∨
      ((∃ xs, SqT K H1 p xs) ∧ ∀ f, (r.stays = true ∨ f = []) → (∀ a ∈ f, a ∈ fp) → ∀ W' H' fp' xf', Stp W1 H1 f W' H' → W1.Le W' → Sat K W' H' fp' xf' → SqT K H' p vs)) ∧
    ∀ f, (r.stays = true ∨ f = []) → (∀ a ∈ f, a ∈ fp) → ∀ W' H' fp' xf', Stp W1 H1 f W' H' → W1.Le W' → Sat K W' H' fp' xf' → (∀ a ∈ fp', a ∈ fp ∨ H1 a = none) → ∀ (i : Nat) (u : V) (x : Rs), vs[i]? = some u → (ts.map (Rs.kid r))[i]? = some x → ResOk K H' fp' W' H' u x := by
  have lf : ∀ {d : D}, Rep K W1 v d → (OT.leaf d).kids = some ts → ∃ (p : Addr) (vs : List V) (ds : List D), v = .ref p ∧ ts = ds.map .leaf ∧ RepAll K W1 vs ds ∧
      (((∃ xs, SqL K H1 p xs) ∧ ∀ W' H' fp' xf', W1.Le W' → Sat K W' H' fp' xf' → SqL K H' p vs) ∨ ((∃ xs, SqT K H1 p xs) ∧ ∀ W' H' fp' xf', W1.Le W' → Sat K W' H' fp' xf' → SqT K H' p vs)) := by
    intro d q h
    cases q with
    | lst g r => cases h; exact ⟨_, _, _, rfl, rfl, r, .inl ⟨⟨_, .of (S1.sub _ _ g)⟩, fun W' H' fp' xf' l S => .of (S.sub _ _ (l.g _ _ g))⟩⟩
    | tup g r => cases h; exact ⟨_, _, _, rfl, rfl, r, .inr ⟨⟨_, .of (S1.sub _ _ g)⟩, fun W' H' fp' xf' l S => .of (S.sub _ _ (l.g _ _ g))⟩⟩
    | rol g r => cases h; exact ⟨_, _, _, rfl, rfl, r, .inl ⟨⟨_, SqL.mono S1.sub g⟩, fun W' H' fp' xf' l S => SqL.mono S.sub (SqL.mono l.g g)⟩⟩
    | non => cases h
    | bl _ => cases h
    | int _ => cases h
    | str _ => cases h
    | ins _ _ => cases h
    | vol _ => cases h
    | dct _ _ => cases h
    | any _ => cases h
    | adr _ => cases h
    | cod _ => cases h
    | obj _ _ => cases h
  have key : ∀ {vs : List V} {ds : List D} {i : Nat} {u : V} {d : D}, RepAll K W1 vs ds → vs[i]? = some u → ds[i]? = some d → Rep K W1 u d := by
    intro vs ds i
    induction i generalizing vs ds with
    | zero => intro u d h e1 e2; cases h with | nil => simp at e1 | cons a b => simp at e1 e2; subst e1 e2; exact a
    | succ i ih => intro u d h e1 e2; cases h with | nil => simp at e1 | cons a b => exact ih b (by simpa using e1) (by simpa using e2)
  have fzk : ∀ {r : Rs} {ds : List D} {vs : List V}, RepAll K W1 vs ds → ∀ W' H' fp', W1.Le W' → ∀ (i : Nat) (u : V) (x : Rs), vs[i]? = some u → ((ds.map OT.leaf).map (Rs.kid r))[i]? = some x → ResOk K H' fp' W' H' u x := by
    intro r ds vs rr W' H' fp' l i u x eu ex
    rw [List.getElem?_map, List.getElem?_map] at ex
    cases q : ds[i]? with
    | none => rw [q] at ex; cases ex
    | some d =>
      rw [q] at ex
      have ex : some (r.kid (.leaf d)) = some x := ex
      cases ex
      have w := (key rr eu q).mono l
      cases r <;> exact w
  -- cells that stay
  have own : ∀ {t : OT} {g : List Addr}, Own K W1 H1 v t g → t.kids = some ts → (∀ a ∈ g, W1.S a = none) → ∃ (p : Addr) (vs : List V), v = .ref p ∧ vs.length = ts.length ∧
      (((∃ xs, SqL K H1 p xs) ∧ ∀ f, (∀ a ∈ g, a ∉ f) → ∀ W' H' fp' xf', Stp W1 H1 f W' H' → W1.Le W' → Sat K W' H' fp' xf' → SqL K H' p vs) ∨ ((∃ xs, SqT K H1 p xs) ∧ ∀ f, (∀ a ∈ g, a ∉ f) → ∀ W' H' fp' xf', Stp W1 H1 f W' H' → W1.Le W' → Sat K W' H' fp' xf' → SqT K H' p vs)) ∧
      ∀ f, (∀ a ∈ g, a ∉ f) → ∀ W' H', Stp W1 H1 f W' H' → W1.Le W' → ∀ (i : Nat) (u : V), vs[i]? = some u → ∃ (t : OT) (h : List Addr), ts[i]? = some t ∧ Own K W' H' u t h ∧ ∀ a ∈ h, a ∈ g := by
    intro t g o h z
    have go : ∀ {p : Addr} {vs : List V} {g' : List Addr}, OwnAll K W1 H1 vs ts g' → (∀ a ∈ g', a ∈ g) → ∀ f, (∀ a ∈ g, a ∉ f) → ∀ W' H', Stp W1 H1 f W' H' → W1.Le W' → ∀ (i : Nat) (u : V), vs[i]? = some u → ∃ (t : OT) (h : List Addr), ts[i]? = some t ∧ Own K W' H' u t h ∧ ∀ a ∈ h, a ∈ g := by
      intro p vs g' w sub f n W' H' st l i u eu
      have hi : i < ts.length := by
        rw [← w.len]
        exact (List.getElem?_eq_some_iff.mp eu).1
      obtain ⟨u', h, e1, o1, s1⟩ := w.get (List.getElem?_eq_getElem hi)
      rw [eu] at e1
      cases e1
      exact ⟨_, h, List.getElem?_eq_getElem hi, o1.mono l fun a m o e => st.kp a o e (n a (sub a (s1 a m))) (z a (sub a (s1 a m))), fun a m => sub a (s1 a m)⟩
    cases o with
    | leaf q =>
      obtain ⟨p, vs, ds, e1, e2, rr, zz⟩ := lf q h
      refine ⟨p, vs, e1, by rw [rr.len, e2, List.length_map], ?_, ?_⟩
      · rcases zz with ⟨y, w⟩ | ⟨y, w⟩
        · exact .inl ⟨y, fun _ _ W' H' fp' xf' _ l S => w W' H' fp' xf' l S⟩
        · exact .inr ⟨y, fun _ _ W' H' fp' xf' _ l S => w W' H' fp' xf' l S⟩
      · subst e2
        exact go (p := p) (OwnAll.leafs (vs := []) rr) fun _ m => by cases m
    | lst g1 w =>
      cases h
      exact ⟨_, _, rfl, w.len, .inl ⟨⟨_, .of g1⟩, fun f n W' H' fp' xf' st l S => .of (st.kp _ _ g1 (n _ List.mem_cons_self) (z _ List.mem_cons_self))⟩, go (p := 0) w fun _ m => List.mem_cons_of_mem _ m⟩
    | tup g1 w =>
      cases h
      exact ⟨_, _, rfl, w.len, .inr ⟨⟨_, .of g1⟩, fun f n W' H' fp' xf' st l S => .of (st.kp _ _ g1 (n _ List.mem_cons_self) (z _ List.mem_cons_self))⟩, go (p := 0) w fun _ m => List.mem_cons_of_mem _ m⟩
    | ins _ _ => cases h
    | d0 _ => cases h
    | xo _ => cases h
    | dk _ _ => cases h
  cases r with
  | fz d =>
    obtain ⟨p, vs, ds, rfl, rfl, rr, z⟩ := lf o ek
    refine ⟨p, vs, rfl, by rw [rr.len, List.length_map], ?_, fun f _ _ W' H' fp' xf' t l S y i u x eu ex => fzk (r := .fz d) rr W' H' fp' l i u x eu ex⟩
    rcases z with ⟨y, w⟩ | ⟨y, w⟩
    · exact .inl ⟨y, fun _ _ _ W' H' fp' xf' _ l S => w W' H' fp' xf' l S⟩
    · exact .inr ⟨y, fun _ _ _ W' H' fp' xf' _ l S => w W' H' fp' xf' l S⟩
  | nw t =>
    obtain ⟨g, ow, nd, z⟩ := o
    obtain ⟨p, vs, rfl, hl, zz, w⟩ := own ow ek fun a m => (z a m).2.2
    refine ⟨p, vs, rfl, hl, ?_, fun f hf _ W' H' fp' xf' t l S y i u x eu ex => ?_⟩
    · rcases zz with ⟨y, w⟩ | ⟨y, w⟩
      · exact .inl ⟨y, fun f hf _ W' H' fp' xf' t l S => w f (fun a _ m => by rw [hf.resolve_left Bool.false_ne_true] at m; cases m) W' H' fp' xf' t l S⟩
      · exact .inr ⟨y, fun f hf _ W' H' fp' xf' t l S => w f (fun a _ m => by rw [hf.resolve_left Bool.false_ne_true] at m; cases m) W' H' fp' xf' t l S⟩
    · have hf := hf.resolve_left Bool.false_ne_true
      subst hf
      obtain ⟨c, h, e1, o1, s1⟩ := w [] (fun a _ m => by cases m) W' H' t l i u eu
      rw [List.getElem?_map, e1] at ex
      cases ex
      have zz : ∀ a ∈ h, W'.S a = none := fun a m => (t.kpS (ow.alloc a (s1 a m))).2.trans (z a (s1 a m)).2.2
      cases c with
      | leaf d => cases o1 with | leaf q => exact q
      | lst _ => exact ⟨h, o1, zz⟩
      | tup _ => exact ⟨h, o1, zz⟩
      | ins _ _ _ => exact ⟨h, o1, zz⟩
      | d0 => exact ⟨h, o1, zz⟩
      | xo => exact ⟨h, o1, zz⟩
      | dk _ _ => exact ⟨h, o1, zz⟩
  | br t =>
    obtain ⟨g, ow, z⟩ := o
    obtain ⟨p, vs, rfl, hl, zz, w⟩ := own ow ek z
    refine ⟨p, vs, rfl, hl, ?_, fun f hf _ W' H' fp' xf' t l S y i u x eu ex => ?_⟩
    · rcases zz with ⟨y, w⟩ | ⟨y, w⟩
      · exact .inl ⟨y, fun f hf _ W' H' fp' xf' t l S => w f (fun a _ m => by rw [hf.resolve_left Bool.false_ne_true] at m; cases m) W' H' fp' xf' t l S⟩
      · exact .inr ⟨y, fun f hf _ W' H' fp' xf' t l S => w f (fun a _ m => by rw [hf.resolve_left Bool.false_ne_true] at m; cases m) W' H' fp' xf' t l S⟩
    · have hf := hf.resolve_left Bool.false_ne_true
      subst hf
      obtain ⟨c, h, e1, o1, s1⟩ := w [] (fun a _ m => by cases m) W' H' t l i u eu
      rw [List.getElem?_map, e1] at ex
      cases ex
      have zz : ∀ a ∈ h, W'.S a = none := fun a m => (t.kpS (ow.alloc a (s1 a m))).2.trans (z a (s1 a m))
      cases c with
      | leaf d => cases o1 with | leaf q => exact q
      | lst _ => exact ⟨h, o1, zz⟩
      | tup _ => exact ⟨h, o1, zz⟩
      | ins _ _ _ => exact ⟨h, o1, zz⟩
      | d0 => exact ⟨h, o1, zz⟩
      | xo => exact ⟨h, o1, zz⟩
      | dk _ _ => exact ⟨h, o1, zz⟩
  | ex t =>
    obtain ⟨g, ow, z⟩ := o
    obtain ⟨p, vs, rfl, hl, zz, w⟩ := own ow ek fun a m => (z a m).1
    refine ⟨p, vs, rfl, hl, ?_, fun f _ hf W' H' fp' xf' t l S y i u x eu ex => ?_⟩
    · rcases zz with ⟨y, w⟩ | ⟨y, w⟩
      · exact .inl ⟨y, fun f _ hf W' H' fp' xf' t l S => w f (fun a m m2 => (z a m).2 (hf a m2)) W' H' fp' xf' t l S⟩
      · exact .inr ⟨y, fun f _ hf W' H' fp' xf' t l S => w f (fun a m m2 => (z a m).2 (hf a m2)) W' H' fp' xf' t l S⟩
    · obtain ⟨c, h, e1, o1, s1⟩ := w f (fun a m m2 => (z a m).2 (hf a m2)) W' H' t l i u eu
      rw [List.getElem?_map, e1] at ex
      cases ex
      have zz : ∀ a ∈ h, W'.S a = none ∧ a ∉ fp' := fun a m => by
        have ma := s1 a m
        refine ⟨(t.wx a (ow.alloc a ma) fun m2 => (z a ma).2 (hf a m2)).2.trans (z a ma).1, fun q => ?_⟩
        rcases y a q with q | q
        · exact (z a ma).2 q
        · exact ow.alloc a ma q
      cases c with
      | leaf d => cases o1 with | leaf q => exact q
      | lst _ => exact ⟨h, o1, zz⟩
      | tup _ => exact ⟨h, o1, zz⟩
      | ins _ _ _ => exact ⟨h, o1, zz⟩
      | d0 => exact ⟨h, o1, zz⟩
      | xo => exact ⟨h, o1, zz⟩
      | dk _ _ => exact ⟨h, o1, zz⟩
end
def iSeq (K : PySem.W.Frag) (tl : TE) : TI := fun σ H R => tl σ H fun x H1 => ∃ a, x = .ref a ∧ (((∃ xs, SqL K H1 a xs) ∧ R (Itl K a) H1) ∨ ((∃ xs, SqT K H1 a xs) ∧ R (Itt K a) H1))
section
variable {X : Cx} {tg a b c : Expr} {ma mb mc : DE} {pos : Pos} {ta tb : DT} {st : Stmt} {rest s1 s2 : List Stmt} {m m1 m2 : DS} {pr : List Nat} {g : DG} {gs : List DG} {es : List Expr} {mi : DI} {mr : DA}
theorem pi_seq {l : Expr} {tl : TE} (hl : PE X l tl) : PI X tg l (iSeq X.K tl) := by
  refine ⟨fun pins s σ H R I h => ?_⟩
  refine thn (hl.run pins s σ H _ I h) fun v s1 ⟨x, H1, I1, r1, q1⟩ => ?_
  obtain ⟨a, e, q⟩ := q1
  subst e
  cases r1
  rcases q with ⟨⟨xs, hq⟩, q⟩ | ⟨⟨xs, hq⟩, q⟩
  · obtain ⟨its, rv, p, hz⟩ := I1.list hq
    refine wpAny_pyIter_list p.isList ?_
    refine ⟨s1.heap.objs.size, [s1.heap.objs.size], _, _, H1, rfl, I1.kept (t' := s1.toks) fun b o e => Heap.get?_push_of_some _ e, turn_list a _, ⟨_, Heap.get?_push_size _ rfl, rfl, rfl⟩, fun b hb => ?_, q⟩
    have e : b = s1.heap.objs.size := by simpa using hb
    subst e
    exact I1.fpOk (Nat.le_refl _) (I1.hok.fresh (Nat.le_refl _))
  · obtain ⟨its, rv, p, hz⟩ := I1.tuple hq
    refine wpAny_pyIter_tuple (show s1.heap.IsTuple a its.toArray from p) ?_
    refine ⟨s1.heap.objs.size, [s1.heap.objs.size], _, _, H1, rfl, I1.kept (t' := s1.toks) fun b o e => Heap.get?_push_of_some _ e, turn_tuple a _, ⟨_, Heap.get?_push_size _ rfl, rfl, rfl⟩, fun b hb => ?_, q⟩
    have e : b = s1.heap.objs.size := by simpa using hb
    subst e
    exact I1.fpOk (Nat.le_refl _) (I1.hok.fresh (Nat.le_refl _))
theorem pi_imp {t t' : TI} (h : PI X tg a t) (k : ∀ σ H Q, t' σ H Q → t σ H Q) : PI X tg a t' := ⟨fun pins s σ H Q I w => h.run pins s σ H Q I (k σ H Q w)⟩
theorem di_list (ha : PE X a (LP X.K ma)) : PI X tg a (LI X.K (mItL ma)) := pi_imp (pi_seq ha) fun σ H R h => by
  obtain ⟨W, env, fp, xf, Q0, E, S, hm, k⟩ := h
  refine LP.next E S hm fun r ⟨ts, ek, hq⟩ v W1' H1 t1' S1' E1' o' => ?_
  obtain ⟨W1, t1, S1, _, o⟩ := ffz_ok S t1' S1' o'
  obtain ⟨p, vs, rfl, hl, zz, w⟩ := items_stay o ek S1
  have lx : (ts.map (Rs.kid r.ffz)).length = ts.length := List.length_map _
  refine ⟨p, rfl, ?_⟩
  rcases zz with ⟨e, z⟩ | ⟨e, z⟩
  · refine .inl ⟨e, k _ _ hq _ W1 H1 t1 S1 fun f hf hs W' H' fp' xf' t l S' y => ⟨fun i hi => ⟨vs, z f hf hs W' H' fp' xf' t l S', by omega⟩, fun i hi => ?_, fun i x H'' c hy hx => ?_⟩⟩
    · have hi2 : i < vs.length := by omega
      exact ⟨vs, vs[i], z f hf hs W' H' fp' xf' t l S', List.getElem?_eq_getElem hi2⟩
    · obtain ⟨rfl, hv⟩ := hy
      exact ⟨.refl, S', w f hf hs W' H'' fp' xf' t l S' y i x c (hv vs (z f hf hs W' H'' fp' xf' t l S')) hx⟩
  · refine .inr ⟨e, k _ _ hq _ W1 H1 t1 S1 fun f hf hs W' H' fp' xf' t l S' y => ⟨fun i hi => ⟨vs, z f hf hs W' H' fp' xf' t l S', by omega⟩, fun i hi => ?_, fun i x H'' c hy hx => ?_⟩⟩
    · have hi2 : i < vs.length := by omega
      exact ⟨vs, vs[i], z f hf hs W' H' fp' xf' t l S', List.getElem?_eq_getElem hi2⟩
    · obtain ⟨rfl, hv⟩ := hy
      exact ⟨.refl, S', w f hf hs W' H'' fp' xf' t l S' y i x c (hv vs (z f hf hs W' H'' fp' xf' t l S')) hx⟩
theorem rng_len (lo : Int) (n : Nat) : (rng lo n).length = n := by unfold rng; rw [List.length_map, List.length_range]
theorem rng_get {lo : Int} {n i : Nat} {r : Rs} (h : (rng lo n)[i]? = some r) : r = .fz (.int (lo + (i : Int))) := by
  unfold rng at h
  rw [List.getElem?_map] at h
  cases q : (List.range n)[i]? with
  | none => rw [q] at h; cases h
  | some j =>
    rw [q] at h
    have hj : j = i := by
      obtain ⟨hi, e⟩ := List.getElem?_eq_some_iff.mp q
      rw [List.getElem_range] at e
      exact e.symm
    subst hj
    cases h
    rfl
theorem rng_ok {K : PySem.W.Frag} {W : Wd} {H : Hp} {f fp : List Addr} {lo : Int} {n : Nat} : ItOk K (Itr lo n) (rng lo n) W H f fp := fun W' H' fp' xf' t l S y => ⟨fun i hi => by rw [rng_len] at hi; exact hi, fun i hi => by rw [rng_len] at hi; exact hi, fun i x H'' r hy hx => by
  obtain ⟨rfl, rfl⟩ := hy
  rw [rng_get hx]
  exact ⟨.refl, S, Rep.int _⟩⟩
theorem di_rng1 {p : Pos} (hm : X.mg "range" = none) (ha : PE X a (LP X.K ma)) (hg : Gl X "range" := by rfl) (hs : starEach [a] X.env = [(false, eval a X.env)] := by rfl) : PI X tg (.Call (.Name "range" p) [a] [] pos) (LI X.K (mItR1 ma)) :=
  pi_imp (pi_range1 hg hm (pa_cons ha pa_nil hs) hs) fun σ H R h => by
  obtain ⟨W, env, fp, xf, Q0, E, S, hm, k⟩ := h
  refine LP.next E S hm fun r hr v W1 H1 t1 S1 E1 o => ?_
  split at hr
  · obtain ⟨h1, h2, q⟩ := hr
    refine ⟨_, congrArg (fun z => [z]) (int_of o), h1, h2, ?_⟩
    exact k _ _ q _ W1 H1 t1 S1 fun f _ _ => rng_ok
  · exact hr.elim
theorem ds_for (hp : PassesOwn (model X.prog X.w) X.A X.env X.xe) (hc : X.calm = true) (hi : PI X tg a (LI X.K mi)) (hg : PG X tg (LG X.K (· ∈ pr) g)) (hb : PSs X s1 (LS X.K ex pr m)) (hs : ∀ x, foldedSetIterable a X.env x = pure x := by intro _; rfl) :
    PS X (.For tg a s1 [] pos) (LS X.K ex pr (mFor mi g m)) := ps_imp (ps_for hp hc hi hg hb hs) fun D σ H h => by
  obtain ⟨W, env, fp, xf, K0, E, S, hm, nx, bk, ct, rt⟩ := h
  refine ⟨W, env, fp, xf, _, E, S, hm, fun st xs ⟨hst, Pv, p0, turn, done⟩ J W1 H1 t1 S1 it => ?_⟩
  have IO := it fp (.inl hst) fun _ m => m
  refine ⟨fun i n σ' H' => i + n = xs.length ∧ ∃ e W' fp' xf', Pv i e ∧ Post X.K W H fp pr σ σ' W' H' e fp' xf' ∧ Stp W1 H1 fp W' H' ∧ ∀ a ∈ fp', a ∈ fp ∨ H1 a = none, ⟨xs.length, by omega, env, W1, fp, xf, p0, .pure t1 (E.keep S t1) S1, .refl, fun _ m => .inl m⟩, fun i n σ' H' ⟨hl, e, W', fp', xf', pi, P, t2, y⟩ => ?_⟩
  have l2 := t2.le S1 fun a m => .inl m
  obtain ⟨i1, i2, i3⟩ := IO W' H' fp' xf' t2 l2 P.S y
  cases n with
  | zero =>
    refine .inl ⟨i1 i (by omega), ?_⟩
    have ei : i = xs.length := by omega
    subst ei
    exact nx e (done e pi) σ' W' H' fp' xf' P
  | succ n =>
    have hi : i < xs.length := by omega
    refine .inr ⟨i2 i hi, fun σ2 H2 => ∃ e W' fp' xf', Pv (i + 1) e ∧ Post X.K W H fp pr σ σ2 W' H2 e fp' xf' ∧ Stp W1 H1 fp W' H2 ∧ ∀ a ∈ fp', a ∈ fp ∨ H1 a = none, fun σ2 H2 h => ⟨n, Nat.lt_succ_self n, by omega, h⟩, fun x H2 hy => ?_⟩
    obtain ⟨t3, S3, o3⟩ := i3 i x H2 _ hy (List.getElem?_eq_getElem hi)
    have E3 := P.E.keep P.S t3
    have comb : ∀ {σ3 W3 H3 e3 fp3 xf3}, Post X.K W' H' fp' pr σ' σ3 W3 H3 e3 fp3 xf3 → Stp W1 H1 fp W3 H3 ∧ ∀ a ∈ fp3, a ∈ fp ∨ H1 a = none := fun P3 => ⟨t2.trans P3.t y, fun a m => (P3.nf a m).elim (y a) fun z => .inr (by
      cases q : H1 a with
      | none => rfl
      | some o => exact absurd z (t2.al a (some_ne q)))⟩
    refine LG.of P.S t3 E3 S3 o3 (turn i _ e (List.getElem?_eq_getElem hi) pi) fun e4 q4 σ4 fp4 xf4 P4 => ?_
    have P5 := P.trans P4
    have again : ∀ e5, Pv (i + 1) e5 → ∀ σ5 W5 H5 fp5 xf5, Post X.K W H2 fp4 pr σ4 σ5 W5 H5 e5 fp5 xf5 → True := fun _ _ _ _ _ _ _ _ => trivial
    refine ⟨W', e4, fp4, xf4, _, P4.E, P4.S, q4, fun e5 q5 σ5 W5 H5 fp5 xf5 P6 => ?_, fun e5 q5 σ5 W5 H5 fp5 xf5 P6 => nx e5 q5 σ5 W5 H5 fp5 xf5 (P5.trans P6), fun e5 q5 σ5 W5 H5 fp5 xf5 P6 => ?_, rt.after P5⟩
    · have c := comb (P4.trans P6)
      exact ⟨e5, W5, fp5, xf5, q5, P5.trans P6, c.1, c.2⟩
    · have c := comb (P4.trans P6)
      exact ⟨e5, W5, fp5, xf5, q5, P5.trans P6, c.1, c.2⟩
end
end R
namespace R
open PySem PySem.Spec PyProof.Rows L2
section
variable {K : PySem.W.Frag} {W W1 W2 W' : Wd} {H H1 H2 H' : Hp} {f f1 fp fp1 fp2 xf xf1 xf2 : List Addr} {σ σ1 σ2 : L2.St} {Q : VK} {r : Rs} {v : V} {env env1 env2 : Env}
theorem Sat.lend (S : Sat K W H fp xf) : Sat K W H [] (fp ++ xf) := ⟨S.sub, S.vol, List.nodup_nil, fun _ m => (by cases m), fun a m => ⟨by simp, (List.mem_append.mp m).elim (fun q => ⟨(S.off a q).2.1, (S.off a q).2.2⟩) fun q => (S.xof a q).2⟩⟩
theorem Sat.less0 {xf' : List Addr} (S : Sat K W H fp xf) (h : ∀ a ∈ xf', a ∈ xf) : Sat K W H fp xf' := ⟨S.sub, S.vol, S.nd, S.off, fun a m => S.xof a (h a m)⟩
theorem Sat.back {xf' : List Addr} (S : Sat K W H fp xf) (t : Stp W H [] W' H') (S' : Sat K W' H' [] xf') : Sat K W' H' fp xf :=
  ⟨S'.sub, S'.vol, S.nd, fun a m => by
    obtain ⟨o1, o2, o3⟩ := S.off a m
    obtain ⟨e1, e2⟩ := t.kpS o3
    exact ⟨e1.trans o1, e2.trans o2, t.al a o3⟩, fun a m => by
    obtain ⟨o1, o2, o3⟩ := S.xof a m
    exact ⟨o1, (t.kpS o3).2.trans o2, t.al a o3⟩⟩
theorem EnvOk.lent (E : EnvOk K W H σ env fp xf) : ∃ xf', EnvOk K W H σ (Env.lent env) [] xf' ∧ ∀ a ∈ xf', a ∈ fp ∨ a ∈ xf := by
  induction E with
  | nil => exact ⟨[], .nil, fun _ m => by cases m⟩
  | no _ ih => obtain ⟨x, e, z⟩ := ih; exact ⟨x, .no e, z⟩
  | fz q _ ih => obtain ⟨x, e, z⟩ := ih; exact ⟨x, .fz q e, z⟩
  | nw q _ ih => obtain ⟨x, e, z⟩ := ih; exact ⟨_, .ex q e, fun a m => (List.mem_append.mp m).elim (fun m => .inl (List.mem_append_left _ m)) fun m => (z a m).imp (List.mem_append_right _) id⟩
  | ex q _ ih => obtain ⟨x, e, z⟩ := ih; exact ⟨_, .ex q e, fun a m => (List.mem_append.mp m).elim (fun m => .inr (List.mem_append_left _ m)) fun m => (z a m).imp id (List.mem_append_right _)⟩
theorem EnvOk.wipe (E : EnvOk K W H σ env [] xf) : ∀ ws : List Nat, ∃ xf', EnvOk K W H (L2.wipe σ ws) (Env.wipe env ws) [] xf' ∧ ∀ a ∈ xf', a ∈ xf
  | [] => ⟨xf, E, fun _ m => m⟩
  | w :: ws => by
    obtain ⟨x, e, z⟩ := EnvOk.wipe E ws
    obtain ⟨f, fp', xf', e2, p, z2, _⟩ := e.clear w none
    have h : f ++ fp' = [] := List.nil_perm.mp p |> fun q => q
    obtain ⟨_, rfl⟩ := List.append_eq_nil_iff.mp h
    exact ⟨xf', e2, fun a m => z a (z2 a m)⟩
theorem wipe_at (σ : L2.St) : ∀ (ws : List Nat) (i : Nat), (L2.wipe σ ws)[i]? = if i ∈ ws ∧ i < σ.length then some none else σ[i]?
  | [], i => by rw [if_neg (by simp)] <;> rfl
  | w :: ws, i => by
    show ((L2.wipe σ ws).set w none)[i]? = _
    by_cases e : w = i
    · subst e
      by_cases hl : w < σ.length
      · rw [List.getElem?_set_self (by rw [L2.wipe_length]; exact hl), if_pos ⟨List.mem_cons_self, hl⟩]
      · rw [List.getElem?_eq_none (by rw [List.length_set, L2.wipe_length]; omega), if_neg (fun z => hl z.2), List.getElem?_eq_none (by omega)]
    · rw [List.getElem?_set_ne e, wipe_at σ ws i]
      have q : (i ∈ w :: ws ∧ i < σ.length) ↔ (i ∈ ws ∧ i < σ.length) := by
        constructor
        · rintro ⟨a, b⟩
          exact ⟨(List.mem_cons.mp a).resolve_left fun z => e z.symm, b⟩
        · rintro ⟨a, b⟩
          exact ⟨List.mem_cons_of_mem _ a, b⟩
      by_cases h : i ∈ ws ∧ i < σ.length
      · rw [if_pos h, if_pos (q.mpr h)]
      · rw [if_neg h, if_neg fun z => h (q.mp z)]
theorem wipe_same {σ2 : L2.St} {ws : List Nat} (hl : σ2.length = σ.length) (h : ∀ i, i ∉ ws → σ2[i]? = (L2.wipe σ ws)[i]?) : L2.wipe σ2 ws = L2.wipe σ ws := by
  apply List.ext_getElem?
  intro i
  rw [wipe_at, wipe_at, hl]
  by_cases hi : i ∈ ws ∧ i < σ.length
  · rw [if_pos hi, if_pos hi]
  · rw [if_neg hi, if_neg hi]
    by_cases m : i ∈ ws
    · have : ¬ i < σ.length := fun z => hi ⟨m, z⟩
      rw [List.getElem?_eq_none (by omega), List.getElem?_eq_none (by omega)]
    · rw [h i m, wipe_at, if_neg fun z => m z.1]
theorem ResOk.lent (h : ResOk K H fp W1 H1 v r) : ∃ f, ResAll K H [] W1 H1 [v] [r.arg] f ∧ f = [] := by
  cases r with
  | fz d => exact ⟨[], .fz h .nil, rfl⟩
  | nw t => obtain ⟨f, o, _, z⟩ := h; exact ⟨[], .ex o (fun a m => ⟨(z a m).2.2, by simp⟩) .nil, rfl⟩
  | br t => obtain ⟨f, o, z⟩ := h; exact ⟨[], .ex o (fun a m => ⟨z a m, by simp⟩) .nil, rfl⟩
  | ex t => obtain ⟨f, o, z⟩ := h; exact ⟨[], .ex o (fun a m => ⟨(z a m).1, by simp⟩) .nil, rfl⟩
theorem OwnAll.snoc {t : OT} : ∀ {vs : List V} {ts : List OT} {g : List Addr}, OwnAll K W H vs ts g → Own K W H v t f → OwnAll K W H (vs ++ [v]) (ts ++ [t]) (g ++ f)
  | _, _, _, .nil, o => by
    have z := OwnAll.cons o .nil
    rw [List.append_nil] at z
    exact z
  | _, _, _, .cons a b, o => by
    rw [List.append_assoc]
    exact .cons a (OwnAll.snoc b o)
structure LcOk (K : PySem.W.Frag) (W : Wd) (H : Hp) (fp xf : List Addr) (D : Addr) (acc : List OT) (W' : Wd) (H' : Hp) : Prop where
  t : Stp W H [] W' H'
  S : Sat K W' H' fp xf
  own : ∃ vs g, H' D = some (.lst vs) ∧ OwnAll K W' H' vs acc g ∧ (D :: g).Nodup ∧ ∀ a ∈ D :: g, H a = none ∧ W'.G a = none ∧ W'.S a = none
theorem LcOk.keep {D : Addr} {acc : List OT} (L : LcOk K W H fp xf D acc W1 H1) (t : Stp W1 H1 [] W2 H2) (S : Sat K W2 H2 fp xf) : LcOk K W H fp xf D acc W2 H2 := by
  obtain ⟨vs, g, hD, ow, nd, z⟩ := L.own
  have l := t.le L.S fun _ m => by cases m
  have al : ∀ a ∈ D :: g, H1 a ≠ none := fun a m => (List.mem_cons.mp m).elim (fun e => by rw [e, hD]; exact fun z => nomatch z) (ow.alloc a)
  refine ⟨L.t.tr0 t, S, vs, g, t.kp D _ hD (by simp) (z D List.mem_cons_self).2.2, ow.mono l fun a m o e => t.kp a o e (by simp) (z a (List.mem_cons_of_mem _ m)).2.2, nd, fun a m => ?_⟩
  obtain ⟨e1, e2⟩ := t.kpS (al a m)
  exact ⟨(z a m).1, e1.trans (z a m).2.1, e2.trans (z a m).2.2⟩
theorem Sat.wr {p : Addr} {o : HO} (S : Sat K W H fp xf) (g : W.G p = none) (s : W.S p = none) : Sat K W (upd H p o) fp xf := by
  have n : ∀ a, H a ≠ none → upd H p o a ≠ none := fun a z => by
    by_cases e : a = p
    · rw [e, upd_same]; exact fun z => nomatch z
    · rw [upd_ne e]; exact z
  refine ⟨fun a u e => ?_, ⟨fun a k ps e => ?_, fun p q e => let ⟨x, cs, y⟩ := S.vol.tb p q e; ⟨x, cs, (upd_ne (fun z => by rw [z, s] at x; cases x)).trans y⟩⟩, S.nd, fun a m => ⟨(S.off a m).1, (S.off a m).2.1, n a (S.off a m).2.2⟩, fun a m => ⟨(S.xof a m).1, (S.xof a m).2.1, n a (S.xof a m).2.2⟩⟩
  · have q : a ≠ p := fun z => by rw [z, g] at e; cases e
    rw [upd_ne q]; exact S.sub a u e
  · obtain ⟨x, u, y, w⟩ := S.vol a k ps e
    have q : a ≠ p := fun z => by rw [z, s] at e; cases e
    exact ⟨x, u, by rw [upd_ne q]; exact y, w⟩
theorem LcOk.snoc {D : Addr} {acc : List OT} {t : OT} (L : LcOk K W H fp xf D acc W1 H1) (h : r.item = some t) (t1 : Stp W1 H1 [] W2 H2) (S2 : Sat K W2 H2 fp xf) (o : ResOk K H1 fp1 W2 H2 v r) : ∃ vs, H2 D = some (.lst vs) ∧ vs.length = acc.length ∧ LcOk K W H fp xf D (acc ++ [t]) W2 (upd H2 D (.lst (vs ++ [v]))) := by
  obtain ⟨vs, g, hD, ow, nd, z⟩ := L.own
  have l := t1.le L.S fun _ m => by cases m
  have al : ∀ a ∈ D :: g, H1 a ≠ none := fun a m => (List.mem_cons.mp m).elim (fun e => by rw [e, hD]; exact fun z => nomatch z) (ow.alloc a)
  have hD2 := t1.kp D _ hD (by simp) (z D List.mem_cons_self).2.2
  have ow2 := ow.mono l fun a m o e => t1.kp a o e (by simp) (z a (List.mem_cons_of_mem _ m)).2.2
  have z2 : ∀ a ∈ D :: g, H a = none ∧ W2.G a = none ∧ W2.S a = none := fun a m => by
    obtain ⟨e1, e2⟩ := t1.kpS (al a m)
    exact ⟨(z a m).1, e1.trans (z a m).2.1, e2.trans (z a m).2.2⟩
  have L2o : ∃ f, Own K W2 H2 v t f ∧ f.Nodup ∧ ∀ a ∈ f, H1 a = none ∧ W2.G a = none ∧ W2.S a = none := by
    cases r with
    | fz d => cases h; exact ⟨[], .leaf o, List.nodup_nil, fun _ m => by cases m⟩
    | nw x => cases h; exact o
    | br x => cases h
    | ex x => cases h
  obtain ⟨f, of, ndf, zf⟩ := L2o
  obtain ⟨nD, ng⟩ := List.nodup_cons.mp nd
  have dj : ∀ a ∈ D :: g, a ∉ f := fun a m m2 => al a m (zf a m2).1
  have up : ∀ a o, a ≠ D → H2 a = some o → upd H2 D (.lst (vs ++ [v])) a = some o := fun a o n e => (upd_ne n).trans e
  have zD := z2 D List.mem_cons_self
  have fH : ∀ a ∈ f, H a = none := fun a m => by
    cases q : H a with
    | none => rfl
    | some o => exact absurd (zf a m).1 (L.t.al a (some_ne q))
  refine ⟨vs, hD2, ow.len, ⟨?_, ?_, ?_⟩, S2.wr zD.2.1 zD.2.2, vs ++ [v], g ++ f, upd_same, ?_, ?_, fun a m => ?_⟩
  · exact (L.t.tr0 t1).wx
  · intro a o e m s
    refine up a o (fun q => by rw [q, zD.1] at e; cases e) ((L.t.tr0 t1).kp a o e m s)
  · intro a n
    by_cases q : a = D
    · rw [q, upd_same]; exact fun z => nomatch z
    · rw [upd_ne q]; exact (L.t.tr0 t1).al a n
  · refine OwnAll.snoc (ow2.mono (.refl _) fun a m o e => up a o (fun q => nD (by rw [← q]; exact m)) e) (of.mono (.refl _) fun a m o e => up a o (fun q => dj D List.mem_cons_self (by rw [← q]; exact m)) e)
  · rw [← List.cons_append]
    exact List.nodup_append.mpr ⟨nd, ndf, fun a m b m2 e => by subst e; exact dj a m m2⟩
  · rw [← List.cons_append] at m
    rcases List.mem_append.mp m with m | m
    · exact z2 a m
    · exact ⟨fH a m, (zf a m).2⟩
theorem lc_all {mi : DI} {g : DG} {t : DT} {e : DE} {ws : List Nat} (h : LP K (mLc mi g t e ws) σ H Q) : tLc (LI K mi) (LG K (fun i => i ∉ ws) g) (LT K t) (LP K e) ws σ H Q := by
  obtain ⟨W, env, fp, xf, Q0, E, S, hm, k⟩ := h
  refine ⟨W, env, fp, xf, _, E, S, hm, fun st xs ⟨Pv, p0, turn, done⟩ J W1 H1 t1 S1 it D nD => ?_⟩
  have IO := it [] (.inr rfl) fun _ m => by cases m
  have hD0 : H D = none := by
    cases q : H D with
    | none => rfl
    | some o => exact absurd nD (t1.al D (some_ne q))
  have L0 : LcOk K W H fp xf D [] W1 (upd H1 D (.lst [])) := ⟨t1.tr0 (.new nD), S1.new nD, [], [], upd_same, .nil, List.nodup_cons.mpr ⟨by simp, List.nodup_nil⟩, fun a m => by
    rw [List.mem_singleton.mp m]
    exact ⟨hD0, (S1.free nD).1, (S1.free nD).2⟩⟩
  refine ⟨fun i n H' => i + n = xs.length ∧ ∃ acc W', Pv i acc ∧ LcOk K W H fp xf D acc W' H' ∧ Stp W1 H1 [] W' H', ⟨xs.length, by omega, [], W1, p0, L0, .new nD⟩, fun i n H' ⟨hl, acc, W', pi, L, t2⟩ => ?_⟩
  have l2 := t2.le S1 fun _ m => by cases m
  obtain ⟨i1, i2, i3⟩ := IO W' H' fp xf t2 l2 L.S fun _ m => .inl m
  cases n with
  | zero =>
    have ei : i = xs.length := by omega
    subst ei
    refine .inl ⟨i1 _ (Nat.le_refl _), ?_⟩
    obtain ⟨vs, gg, hD, ow, nd, z⟩ := L.own
    exact k _ (done acc pi) _ W' H' L.t L.S ⟨D :: gg, .lst hD ow, nd, z⟩
  | succ n =>
    have hi : i < xs.length := by omega
    refine .inr ⟨i2 i hi, fun H2 => ∃ acc W', Pv (i + 1) acc ∧ LcOk K W H fp xf D acc W' H2 ∧ Stp W1 H1 [] W' H2, fun H2 ⟨acc, W', a, b, c⟩ => ⟨n, Nat.lt_succ_self n, by omega, acc, W', a, b, c⟩, fun x H2 hy => ?_⟩
    obtain ⟨t3, S3, o3⟩ := i3 i x H2 _ hy (List.getElem?_eq_getElem hi)
    have L3 := L.keep t3 S3
    have E3 : EnvOk K W' H2 σ env fp xf := (E.keep S L.t).keep L.S t3
    obtain ⟨hsz, hg⟩ := turn i _ acc (List.getElem?_eq_getElem hi) pi
    obtain ⟨xf1, E4, y4⟩ := E3.lent
    obtain ⟨xf2, E5, y5⟩ := E4.wipe ws
    obtain ⟨f0, oA, rfl⟩ := o3.lent
    have S5 : Sat K W' H2 [] xf2 := S3.lend.less0 fun a m => List.mem_append.mpr (y4 a (y5 a m))
    refine ⟨W', _, [], xf2, [], [], _, _, E5, S5, oA.refp fun _ m => m, hg, fun e1 ⟨hlen, ht⟩ σ6 fp6 xf6 E6 S6 y6 z6 => ?_⟩
    have hfp6 : fp6 = [] := by
      cases fp6 with
      | nil => rfl
      | cons a l => exact ((y6 a List.mem_cons_self).elim (fun m => by cases m) fun m => by cases m)
    subst hfp6
    refine ⟨wipe_same (by rw [E6.len, hlen, E3.len]) fun i hi => z6 i hi, W', e1, [], xf6, _, E6, S6, ht, fun b hb W7 H7 t7 S7 => ?_⟩
    have t37 := t2.tr0 (t3.tr0 t7)
    have Sb : Sat K W7 H7 fp xf := S3.back t7 S7
    have L7 := L3.keep t7 Sb
    cases b with
    | false => exact iteF ⟨acc, W7, hb, L7, t37⟩
    | true =>
      refine iteT ⟨W7, e1, [], xf6, _, E6.keep S6 t7, S7, hb, fun y ⟨ty, ey, py⟩ vy W8 H8 t8 S8 o8 => ?_⟩
      have Sb8 : Sat K W8 H8 fp xf := Sb.back t8 S8
      obtain ⟨vs, hD8, hl8, L9⟩ := L7.snoc ey t8 Sb8 o8
      refine ⟨vs, hD8, by rw [← sizeL_eq, hl8]; exact hsz, acc ++ [ty], W8, py, L9, ?_⟩
      have t18 := t37.tr0 t8
      refine ⟨t18.wx, fun a o e m s => ?_, fun a n => ?_⟩
      · rw [upd_ne fun q => by rw [q, nD] at e; cases e]
        exact t18.kp a o e m s
      · by_cases q : a = D
        · rw [q, upd_same]; exact fun z => nomatch z
        · rw [upd_ne q]; exact t18.al a n
end
section
variable {X : Cx} {tg a b c : Expr} {ma mb mc : DE} {pos : Pos} {ta tb : DT} {st : Stmt} {rest s1 s2 : List Stmt} {m m1 m2 : DS} {pr : List Nat} {g : DG} {gs : List DG} {es : List Expr} {mi : DI} {mr : DA} {elt iter : Expr} {ifs : List Expr} {scope : Scope} {own : List (Str × Nat)}
theorem dts_nil : PTs X [] (LT X.K mYes) := ⟨fun pins s σ H Q I h => by
  obtain ⟨W, env, fp, xf, Q0, E, S, hm, k⟩ := h
  exact pts_nil.run pins s σ H Q I (k true hm W H .refl S)⟩
theorem dts_one (h : PT X c (LT X.K ta)) : PTs X [c] (LT X.K ta) := pts_one h
theorem dp_lc (hc : X.calm = true) (hN : X.N.Nodup) (hi : PI X tg iter (LI X.K mi)) (ok : BlkOk X.N X.env.scope scope own)
    (hg : ∀ (s : Shared) (H : Hp) (C : Addr) (cl : List (Str × Addr)) (fp : List Addr), PG (X.blk s H scope (compEnvC scope cl C X.env) fp) tg (LG X.K (fun i => i ∉ own.map (·.2)) g)) (ht : ∀ (s : Shared) (H : Hp) (C : Addr) (cl : List (Str × Addr)) (fp : List Addr), PTs (X.blk s H scope (compEnvC scope cl C X.env) fp) ifs (LT X.K ta))
    (he : ∀ (s : Shared) (H : Hp) (C : Addr) (cl : List (Str × Addr)) (fp : List Addr), PE (X.blk s H scope (compEnvC scope cl C X.env) fp) elt (LP X.K ma)) (hs : ∀ x, foldedSetIterable iter X.env x = pure x := by intro _; rfl) :
    PE X (.ListComp elt [⟨tg, iter, ifs, 0⟩] scope pos) (LP X.K (mLc mi g ta ma (own.map (·.2)))) := pe_imp (pe_lc hc hN hi ok hg ht he hs) fun σ H Q h => lc_all h
theorem ds_setLc {i : Nat} {y : Str} {py : Pos} {spos : Pos} (hc : X.calm = true) (hN : X.N.Nodup) (hy : X.N[i]? = some y) (hyl : X.env.scope.names.lookup y = some .local) (hsw : swapsWith (.ListComp elt [⟨tg, iter, ifs, 0⟩] scope pos) (some (.Name y py)) spos.line X.env = pure true)
    (hi : PI X tg iter (LI X.K mi)) (ok : BlkOk X.N X.env.scope scope own)
    (hg : ∀ (s : Shared) (H : Hp) (C : Addr) (cl : List (Str × Addr)) (fp : List Addr), PG (X.blk s H scope (compEnvC scope cl C X.env) fp) tg (LG X.K (fun i => i ∉ own.map (·.2)) g)) (ht : ∀ (s : Shared) (H : Hp) (C : Addr) (cl : List (Str × Addr)) (fp : List Addr), PTs (X.blk s H scope (compEnvC scope cl C X.env) fp) ifs (LT X.K ta))
    (he : ∀ (s : Shared) (H : Hp) (C : Addr) (cl : List (Str × Addr)) (fp : List Addr), PE (X.blk s H scope (compEnvC scope cl C X.env) fp) elt (LP X.K ma)) (hp : i ∉ pr := by decide) (hs : ∀ x, foldedSetIterable iter X.env x = pure x := by intro _; rfl) :
    PS X (.Assign [.Name y py] (.ListComp elt [⟨tg, iter, ifs, 0⟩] scope pos) spos) (LS X.K ex pr (mAsgG (gN i) (mLc mi g ta ma (own.map (·.2))))) := ps_imp (ps_setLc hc hN hy hyl hsw hi ok hg ht he hs) fun D σ H h => by
  have w : LP X.K (mLc mi g ta ma (own.map (·.2))) σ H fun x H1 => gName i x σ H1 D.nx := by
    obtain ⟨W, env, fp, xf, K0, E, S, hm, nx, bk, ct, rt⟩ := h
    refine LP.next E S hm fun r hr v W1 H1 t1 S1 E1 o => ?_
    obtain ⟨fp', xf', P⟩ := Post.store (i := i) (pr := pr) S t1 E1 S1 o hr.1 hp
    exact nx _ hr.2 _ W1 H1 fp' xf' P
  exact lc_all w
theorem ds_setLcF {i : Nat} {y : Str} {py : Pos} {spos : Pos} (hc : X.calm = true) (hN : X.N.Nodup) (hy : X.N[i]? = some y) (hyl : X.env.scope.names.lookup y = some .local) (hsw : swapsWith (.ListComp elt [⟨tg, iter, ifs, 0⟩] scope pos) (some (.Name y py)) spos.line X.env = pure true)
    (hi : PI X tg iter (LI X.K mi)) (ok : BlkOk X.N X.env.scope scope own)
    (hg : ∀ (s : Shared) (H : Hp) (C : Addr) (cl : List (Str × Addr)) (fp : List Addr), PG (X.blk s H scope (compEnvC scope cl C X.env) fp) tg (LG X.K (fun i => i ∉ own.map (·.2)) g)) (ht : ∀ (s : Shared) (H : Hp) (C : Addr) (cl : List (Str × Addr)) (fp : List Addr), PTs (X.blk s H scope (compEnvC scope cl C X.env) fp) ifs (LT X.K ta))
    (he : ∀ (s : Shared) (H : Hp) (C : Addr) (cl : List (Str × Addr)) (fp : List Addr), PE (X.blk s H scope (compEnvC scope cl C X.env) fp) elt (LP X.K ma)) (hp : i ∉ pr := by decide) (hs : ∀ x, foldedSetIterable iter X.env x = pure x := by intro _; rfl) :
    PS X (.Assign [.Name y py] (.ListComp elt [⟨tg, iter, ifs, 0⟩] scope pos) spos) (LS X.K ex pr (mAsgG (gN i) (mFz (mLc mi g ta ma (own.map (·.2)))))) := ps_imp (ps_setLc hc hN hy hyl hsw hi ok hg ht he hs) fun D σ H h => by
  obtain ⟨W, env, fp, xf, K0, E, S, hm, nx, bk, ct, rt⟩ := h
  have w : LP X.K (mLc mi g ta ma (own.map (·.2))) σ H fun x H1 => gName i x σ H1 D.nx := by
    unfold mAsgG mFz at hm
    refine LP.next E S hm fun r hr v W1 H1 t1 S1 E1 o => ?_
    have fin : ∀ d W' , Stp W H [] W' H1 → Sat X.K W' H1 fp xf → Rep X.K W' v d → gN i env (.fz d) K0.nx → gName i v σ H1 D.nx := fun d W' t S' o hr => by
      obtain ⟨fp', xf', P⟩ := Post.store (i := i) (pr := pr) (r := .fz d) S t (E.keep S t) S' o hr.1 hp
      exact nx _ hr.2 _ W' H1 fp' xf' P
    cases r with
    | fz d => exact fin d W1 t1 S1 o hr
    | nw x =>
      obtain ⟨d, z, q⟩ := hr
      obtain ⟨f, ow, nd, y⟩ := o
      obtain ⟨W', F, R, _⟩ := freeze ow z nd fun a m => (y a m).2
      have za : ∀ a ∈ f, a ∉ fp ∧ a ∉ xf := fun a m => ⟨fun m2 => (S.off a m2).2.2 (y a m).1, fun m2 => (S.xof a m2).2.2 (y a m).1⟩
      exact fin d W' (t1.trans F.stp fun a m => .inr (y a m).1) (F.sat S1 (fun a m => ⟨(y a m).2.1, (y a m).2.2, ow.alloc a m⟩) za) R q
    | br t => exact hr.elim
    | ex t => exact hr.elim
  exact lc_all w
end
end R
namespace R
open PySem PySem.Spec PyProof.Rows L2
structure Room (k : Nat) (A : Around) : Prop extends L2.Room k A where
  gd : A.guards = some []
theorem Room.mono {j k : Nat} {A : Around} (r : Room k A) (h : j ≤ k) : Room j A := ⟨r.toRoom.mono h, r.gd⟩
theorem Room.deeper {k : Nat} {A : Around} (r : Room (k + 1) A) (env : PySem.Env) : Room k (A.deeper env) := ⟨r.toRoom.deeper env, r.gd⟩
theorem Room.in1 {k : Nat} {A : Around} (r : Room (k + 1) A) : Room k A.in1 := ⟨r.toRoom.in1, r.gd⟩
theorem Room.make {k : Nat} {A : Around} (r : Room (k + 1) A) (C : Addr) (us : List Value) (kw : List (Str × Value)) : Room k (A.under (.builtin "type.__call__" ⟨.ref C :: us, kw⟩)) := ⟨r.toRoom.make C us kw, by
  have h := r.gd
  first | exact h | simpa [Around.under, Code.guards, Code.isGuard, pushGuards, guardIds] using h⟩
structure FnOk (P : Program) (w : World) (K : PySem.W.Frag) (mg : Str → Option Value) (base : Heap) (CX : CXT) (k : Nat) (f : Addr) (fd : FuncData) (ps : List Str) (sp : Sp) : Prop where
  len : ∀ vs H Q E, sp vs H Q E → vs.length = ps.length
  run : ∀ (A : Around) (outer : List PySem.Env) (s : Shared) (H : Hp) (args : Args) (us : List Value) (vs : List V) (Q : VK) (E : XK), Room k A → Env0 P w K mg base A outer s H → BindsTo s fd args (ps.zip us) → Vals vs us → sp vs H Q E →
    codeAny (model P w) A (.call (.ref f) args) (CR CX outer P w H s Q E) s
section
variable {X : Cx} {CX : CXT} {k n : Nat} {f C : Addr} {fd : FuncData} {ps ks : List Str} {sp : Sp} {dvs : List V} {ds : List Value} {E : XK} {x m : Str} {p pos apos : Pos} {e o : Expr} {es : List Expr} {kws : List Keyword} {ta : TE} {t tk : TA} {pins : List (Addr × Obj)} {σ : L2.St} {H : Hp} {s : Shared} {Q : VK} {us ws : List Value} {vs zs : List V} {g : List Value → List Value → List Value} {gV : List V → List V → List V}
theorem seen (hx : Passes CX X E) (I : Inv X pins σ H s) {r : Result} {s' : Shared} (h : CR CX X.stack X.prog X.w H s Q E r s') : match (generalizing := false) r with | .ok (.ret v) => EP X pins σ Q v s' | .ok _ => False | .error e => X.xe e s' := by
  match r, h with
  | .error e, h => exact hx pins σ H s e s' I h
  | .ok (.ret u), h => exact I.after h
  | .ok .next, h => exact h
  | .ok .brk, h => exact h
  | .ok .cont, h => exact h
theorem run_fn (F : FnOk X.prog X.w X.K X.mg X.base CX k f fd ps sp) (hr : Room k X.A) (hb : Binds X.K fd ps ds) (hd : Vals dvs ds) (hx : Passes CX X E) (I : Inv X pins σ H s) (r : Vals vs us) (h : sp (vs ++ dvs) H Q E) : wpAny (model X.prog X.w) X.A (call (.ref f) us) (EP X pins σ Q) X.xe s :=
  have r2 := r.append hd
  wpAny_call (codeAny_mono (F.run X.A X.stack s H ⟨us, []⟩ _ _ Q E hr I.env0 (hb s us I.kIn (r2.length.symm.trans (F.len _ _ _ _ h))) r2 h) fun _ _ q => seen hx I q)
theorem pe_call (F : FnOk X.prog X.w X.K X.mg X.base CX k f fd ps sp) (hr : Room k X.A) (hg : Gl X x) (hm : X.mg x = some (.ref f)) (hk : PySem.W.keepIn X.K (.ref f) = true) (hb : Binds X.K fd ps ds) (hd : Vals dvs ds) (hx : Passes CX X E)
    (ha : PA X (e :: es) t) (hdb : (x == ("__debug__" : Str)) = false := by decide) (he : starEach (e :: es) X.env = (false, eval e X.env) :: starEach es X.env := by rfl) (hpl : (backTo pos (starEach es X.env)).any (·.1) = false := by rfl) :
    PE X (.Call (.Name x p) (e :: es) [] pos) (tCall sp dvs E t) :=
  ⟨fun pins s σ _ _ I h => wpAny_Call_Name_kw (ld_glob I hg hm (PySem.W.callWith_K (h₀ := X.base) I.ok.mod.kin hk (thn (ha.run pos pins s σ _ _ I h) fun _ _ ⟨_, _, I1, r, q⟩ => ⟨I1.kIn, run_fn F hr hb hd hx I1 r q⟩) he hpl) hdb)⟩
theorem pe_meth {pl : Sem Bool} (he : PE X o ta) (c : Cls X.K C) (hm : Meth X.K C m f) (F : FnOk X.prog X.w X.K X.mg X.base CX k f fd ps sp) (hr : Room k X.A) (hb : Binds X.K fd ps ds) (hd : Vals dvs ds) (hx : Passes CX X E) (ha : PA X (e :: es) t)
    (hst : starEach (e :: es) X.env = (false, eval e X.env) :: starEach es X.env := by rfl) (hpl : (backTo pos (starEach es X.env)).any (·.1) = false := by rfl)
    (ht : eval (.Call (.Attribute o m apos) (e :: es) [] pos) X.env = (do
      let ov ← eval o X.env
      standAt apos.atName
      let (f, first) ← holding [ov] (getMethod ov m pl)
      callWith pos f first (backTo pos (starEach (e :: es) X.env)) (backToKw pos (keywordEach [] X.env))) := by rfl) :
    PE X (.Call (.Attribute o m apos) (e :: es) [] pos) (tMeth C m sp dvs E ta t) := by
  refine ⟨fun pins s σ _ _ I h => PySem.W.methodCall_KW (pl := pl) (thn (he.run pins s σ _ _ I h) fun u s1 ⟨_, _, I1, rx, a, _, _, ex, ea, l, q⟩ => ?_) ht⟩
  subst ex
  cases rx
  exact getmeth_ok I1 ea c hm l (PySem.W.callWith_K (first := [.ref a]) (h₀ := X.base) I.ok.mod.kin hm.kp (thn (ha.run pos pins s1 σ _ _ I1 q) fun us _ ⟨vs, _, I2, r, q2⟩ => ⟨I2.kIn, run_fn (us := .ref a :: us) (vs := .ref a :: vs) F hr hb hd hx I2 (.cons rfl r) q2⟩) hst hpl)
theorem run_mk (M : Mk X.K C f) (F : FnOk X.prog X.w X.K X.mg X.base CX k f fd ps sp) (hr : Room (k + 1) X.A) (hx : Passes CX X E) (I : Inv X pins σ H s) (kw : List (Str × Value)) (ys : Addr → List Value) (ts : List V)
    (hb : ∀ (s' : Shared) (a : Addr), X.K.In s'.heap → ps.length = (ys a).length → BindsTo s' fd ⟨.ref a :: us, kw⟩ (ps.zip (ys a))) (r : ∀ a, Vals (.ref a :: ts) (ys a))
    (h : ∀ a dx, H a = none → H dx = none → dx ≠ a → sp (.ref a :: ts) (upd (upd H dx (.own a)) a (.ins C dx [])) (fun v H2 => v = .non ∧ Q (.ref a) H2) E) :
    wpAny (model X.prog X.w) X.A (call (.ref C) us kw) (EP X pins σ Q) X.xe s := by
  have hq := h (s.heap.objs.size + 1) s.heap.objs.size (I.hok.fresh (Nat.le_succ _)) (I.hok.fresh (Nat.le_refl _)) (Nat.ne_of_lt (Nat.lt_succ_self _))
  have I2 := Inv.made (C := C) I
  have r2 := r (s.heap.objs.size + 1)
  refine wpAny_call (make_map (f := f) I.kIn M.makes M.init (beq_iff_eq.mp M.fn) (codeAny_mono (F.run _ X.stack _ _ ⟨.ref (s.heap.objs.size + 1) :: us, kw⟩ _ _ _ E (hr.make C us kw) (I2.env0.make C us kw) (hb _ _ I2.kIn ((F.len _ _ _ _ hq).symm.trans r2.length)) r2 hq) fun r s' q => ?_))
  have q := seen hx I2 q
  match r, q with
  | .error e, q => exact q
  | .ok (.ret u), ⟨_, H', I3, rv, ev, q3⟩ =>
    subst ev
    exact ⟨rv, V.ref (s.heap.objs.size + 1), H', I3, rfl, q3⟩
  | .ok .next, q => exact q
  | .ok .brk, q => exact q
  | .ok .cont, q => exact q
theorem pe_make (M : Mk X.K C f) (F : FnOk X.prog X.w X.K X.mg X.base CX k f fd ps sp) (hr : Room (k + 1) X.A) (hg : Gl X x) (hm : X.mg x = some (.ref C)) (hb : Binds X.K fd ps ds) (hd : Vals dvs ds) (hx : Passes CX X E)
    (ha : PA X (e :: es) t) (hdb : (x == ("__debug__" : Str)) = false := by decide) (he : starEach (e :: es) X.env = (false, eval e X.env) :: starEach es X.env := by rfl) (hpl : (backTo pos (starEach es X.env)).any (·.1) = false := by rfl) :
    PE X (.Call (.Name x p) (e :: es) [] pos) (tMake C sp dvs E t) :=
  ⟨fun pins s σ _ _ I h => wpAny_Call_Name_kw (ld_glob I hg hm (PySem.W.callWith_K (h₀ := X.base) I.ok.mod.kin M.kp (thn (ha.run pos pins s σ _ _ I h) fun us _ ⟨vs, _, I1, r, q⟩ => ⟨I1.kIn, run_mk M F hr hx I1 [] (fun a => .ref a :: (us ++ ds)) (vs ++ dvs) (fun s' a X1 l => hb s' (.ref a :: us) X1 l.symm) (fun _ => .cons rfl (r.append hd)) q⟩) he hpl) hdb)⟩
end
section
variable {P : Program} {w : World} {K : PySem.W.Frag} {mg : Str → Option Value} {base : Heap} {x qual : Str} {params : Arguments} {body : List Stmt} {scope : Scope} {dvs : List V} {kws : List (Str × V)} {f : Addr} {fd : FuncData}
def CodeAt (K : PySem.W.Frag) (f : Addr) (cdv : Value) (q : Str) : Prop := ∃ (oc : Value) (od : Option Addr) (osl : Array (Option Value)) (fd : FuncData), K.lookup f = some ⟨oc, od, .func fd, osl⟩ ∧ fd.code = cdv ∧ PySem.W.codeIn K cdv q = true
theorem def_okL {CX : CXT} {N ps : List Str} {k : Nat} {sp : Sp} (F : FunD K x qual params body scope dvs kws f fd) (S : FnScope N ps scope) (len : ∀ vs H Q E, sp vs H Q E → vs.length = ps.length)
    (hbody : ∀ (cdv : Value), CodeAt K f cdv qual → ∀ (A : Around) (outer : List PySem.Env) (s : Shared) (H : Hp) (vs : List V) (Q : VK) (E : XK), Room k (A.deeper (envOfC qual scope s.heap.objs.size f cdv)) → sp vs H Q E →
      ∃ t, PSs (cxOf CX P w K mg base N qual scope f cdv A outer s H E) body t ∧ t { nx := fun _ H' => Q .non H', rt := Q } (L2.start N vs) H) : FnOk P w K mg base CX (k + 1) f fd ps sp := by
  obtain ⟨oc, od, dV, kV, doc, pm, an, cdv, ct, osl, rfl, lk, hcd, _, _⟩ := F.ex
  refine ⟨len, fun A outer s H args us vs Q E hr e0 hb r hsp => ?_⟩
  have KX : K.In s.heap := e0.mod.kin.keeps fun b o e => (e0.bs b o e).1
  refine codeAny_call_function hr.depth (KX _ _ lk) rfl S.co S.gen rfl (PySem.W.codeRec_of KX hcd) (hb _ _ _ _ (wpAny_newFunctionEnv_cells S.kind (fun ⟨n, v⟩ hy => (S.par n (List.of_mem_zip hy).1).imp id fun q => ⟨q, PySem.W.cellsFrom_some _ _ _ (.inl q)⟩) fun env he s1 z => ?_))
  subst he
  refine ⟨(e0.mod.nolimit.keeps fun b o e => (e0.bs b o e).1).keeps z.toInCall.keep, codeAny_func ?_⟩
  obtain ⟨t, ht, hq⟩ := hbody cdv ⟨oc, od, osl, _, lk, rfl, hcd⟩ A outer s H vs Q E (hr.deeper _) hsp
  refine wpAny_mono (ht.run [] s1 (L2.start N vs) H _ (inv_start S hr.hd e0 (len _ _ _ _ hsp) r z) hq) (fun fl s' hs => ?_) fun e s' hs => hs
  match fl, hs with
  | .ret u, ⟨v, _, H', J, rv, q⟩ => exact ⟨v, H', J.os, J.bare, J.base, J.hok, rv, q⟩
  | .next, ⟨_, H', J, q⟩ => exact ⟨.non, H', J.os, J.bare, J.base, J.hok, rfl, q⟩
  | .brk, ⟨_, _, _, q⟩ => exact (show False from q).elim
  | .cont, ⟨_, _, _, q⟩ => exact (show False from q).elim
end
end R
namespace R
open PySem PySem.Spec PyProof.Rows L2
def spR (K : PySem.W.Frag) (n : Nat) (F : Spec) : Sp := fun vs H Q _ => vs.length = n ∧ ∃ (W : Wd) (ss : Env) (fp xf : List Addr) (Q0 : Rs → Env → Prop), EnvOk K W H (vs.map some) ss fp xf ∧ Sat K W H fp xf ∧ F ss Q0 ∧
  ∀ r ss', Q0 r ss' → ∀ v W' H' fp' xf', Stp W H fp W' H' → EnvOk K W' H' (vs.map some) ss' fp' xf' → Sat K W' H' fp' xf' → (∀ a ∈ fp', a ∈ fp ∨ H a = none) → RetOk K H fp fp' W' H' v r → Q v H'
section
variable {K : PySem.W.Frag} {W W1 W2 W' : Wd} {H H1 H2 H' : Hp} {f f1 fp fp1 fp2 xf xf1 xf2 : List Addr} {σ σ1 σ2 : L2.St} {Q : VK} {r : Rs} {v : V} {env env1 env2 : Env}
theorem EnvOk.pick {σ : L2.St} {env : Env} {fp xf : List Addr} (E : EnvOk K W H σ env fp xf) : ∀ (us : L2.St) (es : Env), us.length = es.length → (∀ (i : Nat) (s : Rs), es[i]? = some (some s) → env[i]? = some (some s) ∧ us[i]? = σ[i]?) → ∃ fp' xf', EnvOk K W H us es fp' xf' ∧ fp'.Sublist fp ∧ ∀ a ∈ xf', a ∈ xf := by
  induction E with
  | nil =>
    intro us es hl h
    have key : ∀ (us : L2.St) (es : Env), us.length = es.length → (∀ (i : Nat) (s : Rs), es[i]? = some (some s) → False) → EnvOk K W H us es [] [] := by
      intro us
      induction us with
      | nil => intro es hl _; cases es with | nil => exact .nil | cons _ _ => simp at hl
      | cons u us ih =>
        intro es hl h
        cases es with
        | nil => simp at hl
        | cons e es =>
          cases e with
          | none => exact .no (ih es (by simpa using hl) fun i s q => h (i + 1) s (by simpa using q))
          | some s => exact (h 0 s rfl).elim
    exact ⟨[], [], key us es hl fun i s q => by have := (h i s q).1; simp at this, .refl _, fun _ m => m⟩
  | no E ih =>
    intro us es hl h
    cases es with
    | nil => cases us with | nil => exact ⟨[], [], .nil, List.nil_sublist _, fun _ m => by cases m⟩ | cons _ _ => simp at hl
    | cons e es =>
      cases us with
      | nil => simp at hl
      | cons u us =>
        obtain ⟨fp', xf', a, b, c⟩ := ih us es (by simpa using hl) fun i s q => by have := h (i + 1) s (by simpa using q); simpa using this
        cases e with
        | none => exact ⟨fp', xf', .no a, b, c⟩
        | some s => have := (h 0 s rfl).1; simp at this
  | fz q E ih =>
    intro us es hl h
    cases es with
    | nil => cases us with | nil => exact ⟨[], [], .nil, List.nil_sublist _, fun _ m => by cases m⟩ | cons _ _ => simp at hl
    | cons e es =>
      cases us with
      | nil => simp at hl
      | cons u us =>
        obtain ⟨fp', xf', a, b, c⟩ := ih us es (by simpa using hl) fun i s q => by have := h (i + 1) s (by simpa using q); simpa using this
        cases e with
        | none => exact ⟨fp', xf', .no a, b, c⟩
        | some s =>
          obtain ⟨e1, e2⟩ := h 0 s rfl
          simp at e1 e2
          subst e1 e2
          exact ⟨fp', xf', .fz q a, b, c⟩
  | nw q E ih =>
    intro us es hl h
    cases es with
    | nil => cases us with | nil => exact ⟨[], [], .nil, List.nil_sublist _, fun _ m => by cases m⟩ | cons _ _ => simp at hl
    | cons e es =>
      cases us with
      | nil => simp at hl
      | cons u us =>
        obtain ⟨fp', xf', a, b, c⟩ := ih us es (by simpa using hl) fun i s q => by have := h (i + 1) s (by simpa using q); simpa using this
        cases e with
        | none => exact ⟨fp', xf', .no a, b.trans (List.sublist_append_right _ _), c⟩
        | some s =>
          obtain ⟨e1, e2⟩ := h 0 s rfl
          simp at e1 e2
          subst e1 e2
          exact ⟨_, xf', .nw q a, List.Sublist.append_left b _, c⟩
  | ex q E ih =>
    intro us es hl h
    cases es with
    | nil => cases us with | nil => exact ⟨[], [], .nil, List.nil_sublist _, fun _ m => by cases m⟩ | cons _ _ => simp at hl
    | cons e es =>
      cases us with
      | nil => simp at hl
      | cons u us =>
        obtain ⟨fp', xf', a, b, c⟩ := ih us es (by simpa using hl) fun i s q => by have := h (i + 1) s (by simpa using q); simpa using this
        cases e with
        | none => exact ⟨fp', xf', .no a, b, fun z m => List.mem_append_right _ (c z m)⟩
        | some s =>
          obtain ⟨e1, e2⟩ := h 0 s rfl
          simp at e1 e2
          subst e1 e2
          exact ⟨fp', _, .ex q a, b, fun z m => (List.mem_append.mp m).elim (List.mem_append_left _) fun m => List.mem_append_right _ (c z m)⟩
theorem Sat.sublist {fp' xf' : List Addr} (S : Sat K W H fp xf) (h : fp'.Sublist fp) (x : ∀ a ∈ xf', a ∈ xf) : Sat K W H fp' xf' :=
  ⟨S.sub, S.vol, S.nd.sublist h, fun a m => S.off a (h.subset m), fun a m => ⟨fun q => (S.xof a (x a m)).1 (h.subset q), (S.xof a (x a m)).2⟩⟩
theorem EnvOk.app {σ2 : L2.St} {env2 : Env} {fp2 xf2 : List Addr} (b : EnvOk K W H σ2 env2 fp2 xf2) {σ : L2.St} {env : Env} {fp xf : List Addr} (a : EnvOk K W H σ env fp xf) : ∃ xf', EnvOk K W H (σ ++ σ2) (env ++ env2) (fp ++ fp2) xf' ∧ ∀ a ∈ xf', a ∈ xf ∨ a ∈ xf2 := by
  induction a with
  | nil => exact ⟨_, b, fun _ m => .inr m⟩
  | no _ ih => obtain ⟨x, e, z⟩ := ih; exact ⟨x, .no e, z⟩
  | fz q _ ih => obtain ⟨x, e, z⟩ := ih; exact ⟨x, .fz q e, z⟩
  | nw q _ ih =>
    obtain ⟨x, e, z⟩ := ih
    refine ⟨x, ?_, z⟩
    have w := EnvOk.nw q e
    rw [← List.append_assoc] at w
    exact w
  | ex q _ ih => obtain ⟨x, e, z⟩ := ih; exact ⟨_, .ex q e, fun a m => (List.mem_append.mp m).elim (fun m => .inl (List.mem_append_left _ m)) fun m => (z a m).imp (List.mem_append_right _) id⟩
theorem EnvOk.nones : ∀ (n : Nat), EnvOk K W H (List.replicate n none) (List.replicate n none) [] []
  | 0 => .nil
  | n + 1 => .no (EnvOk.nones n)
theorem ResAll.lend {vs : List V} {rs : List Rs} {g : List Addr} (os : ResAll K H fp W1 H1 vs rs g) (F : ∀ a ∈ g, W1.S a = none) : ∃ xf', EnvOk K W1 H1 (vs.map some) (rs.map fun r => some r.arg) [] xf' ∧ ∀ a ∈ xf', W1.S a = none ∧ H1 a ≠ none := by
  induction os with
  | nil => exact ⟨[], .nil, fun _ m => by cases m⟩
  | fz q _ ih => obtain ⟨x, e, z⟩ := ih F; exact ⟨x, .fz q e, z⟩
  | nw q _ ih =>
    obtain ⟨x, e, z⟩ := ih fun a m => F a (List.mem_append_right _ m)
    exact ⟨_, .ex q e, fun a m => (List.mem_append.mp m).elim (fun m => ⟨F a (List.mem_append_left _ m), q.alloc a m⟩) (z a)⟩
  | br q y _ ih => obtain ⟨x, e, z⟩ := ih F; exact ⟨_, .ex q e, fun a m => (List.mem_append.mp m).elim (fun m => ⟨y a m, q.alloc a m⟩) (z a)⟩
  | ex q y _ ih => obtain ⟨x, e, z⟩ := ih F; exact ⟨_, .ex q e, fun a m => (List.mem_append.mp m).elim (fun m => ⟨(y a m).1, q.alloc a m⟩) (z a)⟩
theorem Sat.only {xf' : List Addr} (S : Sat K W H fp xf) (h : ∀ a ∈ xf', W.S a = none ∧ H a ≠ none) : Sat K W H [] xf' := ⟨S.sub, S.vol, List.nodup_nil, fun _ m => (by cases m), fun a m => ⟨by simp, h a m⟩⟩
theorem EnvOk.consts : ∀ {vs : List V} {ds : List D}, RepAll K W vs ds → EnvOk K W H (vs.map some) (ds.map fun d => some (.fz d)) [] []
  | _, _, .nil => .nil
  | _, _, .cons a b => .fz a (EnvOk.consts b)
theorem map_none {α : Type} (ss : Env) : (ss.map fun _ => (none : Option α)) = List.replicate ss.length none := by
  induction ss with
  | nil => rfl
  | cons s ss ih => rw [List.map_cons, ih, List.length_cons, List.replicate_succ]
theorem call1 {F : Spec1} {vs dvs : List V} {rs : List Rs} {dv : List D} {n : Nat} {E : XK} {Q0 : Rs → Prop} {g : List Addr} (hn : (vs ++ dvs).length = n) (O : Ops K H Q Q0 W2 H2 W fp xf) (os : ResAll K H fp W2 H2 vs rs g) (G : Fresh H W2 g) (hd : ∀ W, RepAll K W dvs dv)
    (h : F (rs.map (fun r => some r.arg) ++ dv.map fun d => some (.fz d)) fun r => r.own ∧ Q0 r) : spR K n F.io (vs ++ dvs) H2 Q E := by
  obtain ⟨xf1, E1, z1⟩ := os.lend fun a m => (G.2 a m).2.2
  obtain ⟨xf2, E2, z2⟩ := (EnvOk.consts (hd W2)).app E1
  have S2 : Sat K W2 H2 [] xf2 := O.S2.only fun a m => (z2 a m).elim (z1 a) fun m => by cases m
  rw [← List.map_append] at E2
  refine ⟨hn, W2, _, [], xf2, fun r _ => r.own ∧ Q0 r, E2, S2, h, fun r ss' ⟨ho, q⟩ v W' H' fp' xf' t E' S' nf o => ?_⟩
  have Sb := O.S2.back t (S'.sublist (List.nil_sublist _) fun _ m => m)
  refine O.k r q v W' H' (O.t.tr0 t) Sb ?_
  cases r with
  | fz d => exact o
  | nw x =>
    obtain ⟨f, ow, nd, z⟩ := o
    refine ⟨f, ow, nd, fun a m => ⟨?_, (z a m).2.2⟩⟩
    rcases (z a m).1 with q | q
    · cases q2 : H a with
      | none => rfl
      | some o => exact absurd q (O.t.al a (some_ne q2))
    · cases q
  | br x => exact ho.elim
  | ex x => exact ho.elim
end
section
variable {X : Cx} {CX : CXT} {k n : Nat} {f C : Addr} {fd : FuncData} {ps : List Str} {F1 : Spec1} {F0 : Spec} {dvs : List V} {dv : List D} {ds : List Value} {E : XK} {x m : Str} {p pos apos : Pos} {e o : Expr} {es : List Expr} {mo : DE} {ma : DA}
theorem args_eq {rs : List Rs} {dv : List D} : args rs dv = (rs.map Rs.ffz).map (fun r => some r.arg) ++ dv.map fun d => some (.fz d) := by
  unfold args
  rw [List.map_map] <;> rfl
theorem args_len {rs : List Rs} {dv : List D} {vs : List V} {dvs : List V} (h : vs.length = rs.length) (hd : dvs.length = dv.length) : (args rs dv).length = (vs ++ dvs).length := by
  unfold args
  rw [List.length_append, List.length_append, List.length_map, List.length_map, h, hd]
theorem dp_call (F : FnOk X.prog X.w X.K X.mg X.base CX k f fd ps (spR X.K n F1.io)) (hr : Room k X.A) (hm : X.mg x = some (.ref f)) (hk : PySem.W.keepIn X.K (.ref f) = true) (hb : Binds X.K fd ps ds) (hv : Vals dvs ds) (hd : ∀ W, RepAll X.K W dvs dv) (hx : Passes CX X E) (ha : PA X (e :: es) (LA X.K ma))
    (hg : Gl X x := by rfl) (hst : starEach (e :: es) X.env = (false, eval e X.env) :: starEach es X.env := by rfl) (hpl : (backTo pos (starEach es X.env)).any (·.1) = false := by rfl) (hdb : (x == ("__debug__" : Str)) = false := by decide) :
    PE X (.Call (.Name x p) (e :: es) [] pos) (LP X.K (mCall n F1 ma dv)) := pe_imp (pe_call F hr hg hm hk hb hv hx ha hdb hst hpl) fun σ H Q h => by
  obtain ⟨W, env, fp, xf, Q0, En, S, hm, k⟩ := h
  refine LA.next En S hm fun rs ⟨hn, hr⟩ vs W1 H1 g t1 S1 E1 os G => ?_
  obtain ⟨W4, g', t4, S4, _, _, o4, G4, _, _⟩ := os.ffz (.refl _) rfl S t1 S1 G.1 G.2
  rw [args_eq] at hr
  exact call1 ((args_len os.len (hd W1).len).symm.trans hn) ⟨S, t4, S4, k⟩ o4 G4 hd hr
def CellsOk (W : Wd) (fp : List Addr) (r : Rs) (f : List Addr) : Prop := match r with
  | .ex _ => ∀ a ∈ f, W.S a = none ∧ a ∉ fp
  | .fz _ => f = []
  | _ => ∀ a ∈ f, W.S a = none
theorem inst_ok {K : PySem.W.Frag} {W2 : Wd} {H H2 : Hp} {fp xf : List Addr} {v : V} {r : Rs} {C : Nat} {ks : List Str} {ts : List OT} (h : r.t.inst = some (C, ks, ts)) (o : ResOk K H fp W2 H2 v r) (S : Sat K W2 H2 fp xf) : ∃ a dx fs f, v = .ref a ∧ H2 a = some (.ins C dx fs) ∧ fs.map (·.1) = ks ∧ OwnAll K W2 H2 (fs.map (·.2)) ts f ∧ CellsOk W2 fp r f := by
  have lf : ∀ {d : D}, Rep K W2 v d → (OT.leaf d).inst = some (C, ks, ts) → ∃ a dx fs, v = .ref a ∧ H2 a = some (.ins C dx fs) ∧ fs.map (·.1) = ks ∧ OwnAll K W2 H2 (fs.map (·.2)) ts [] := by
    intro d q h
    cases q with
    | ins g r => cases h; exact ⟨_, _, _, rfl, S.sub _ _ g, rfl, OwnAll.leafs (vs := []) r⟩
    | lst _ _ => cases h
    | tup _ _ => cases h
    | rol _ _ => cases h
    | non => cases h
    | bl _ => cases h
    | int _ => cases h
    | str _ => cases h
    | vol _ => cases h
    | dct _ _ => cases h
    | any _ => cases h
    | adr _ => cases h
    | cod _ => cases h
    | obj _ _ => cases h
  have own : ∀ {t : OT} {f : List Addr}, Own K W2 H2 v t f → t.inst = some (C, ks, ts) → ∃ a dx fs f', v = .ref a ∧ H2 a = some (.ins C dx fs) ∧ fs.map (·.1) = ks ∧ OwnAll K W2 H2 (fs.map (·.2)) ts f' ∧ ∀ a ∈ f', a ∈ f := by
    intro t f o h
    cases o with
    | leaf q => obtain ⟨a, dx, fs, x1, x2, x3, x4⟩ := lf q h; exact ⟨a, dx, fs, [], x1, x2, x3, x4, fun _ m => by cases m⟩
    | ins g r => cases h; exact ⟨_, _, _, _, rfl, g, rfl, r, fun _ m => List.mem_cons_of_mem _ m⟩
    | lst _ _ => cases h
    | tup _ _ => cases h
    | d0 _ => cases h
    | xo _ => cases h
    | dk _ _ => cases h
  cases r with
  | fz d => obtain ⟨a, dx, fs, x1, x2, x3, x4⟩ := lf o h; exact ⟨a, dx, fs, [], x1, x2, x3, x4, rfl⟩
  | nw t =>
    obtain ⟨f, o, z⟩ := o
    obtain ⟨a, dx, fs, f', x1, x2, x3, x4, i⟩ := own o h
    exact ⟨a, dx, fs, f', x1, x2, x3, x4, fun a m => (z.2 a (i a m)).2.2⟩
  | br t =>
    obtain ⟨f, o, z⟩ := o
    obtain ⟨a, dx, fs, f', x1, x2, x3, x4, i⟩ := own o h
    exact ⟨a, dx, fs, f', x1, x2, x3, x4, fun a m => z a (i a m)⟩
  | ex t =>
    obtain ⟨f, o, z⟩ := o
    obtain ⟨a, dx, fs, f', x1, x2, x3, x4, i⟩ := own o h
    exact ⟨a, dx, fs, f', x1, x2, x3, x4, fun a m => z a (i a m)⟩
theorem lookup_no {m : Str} : ∀ {fs : List (Str × V)}, (fs.map (·.1)).contains m = false → fs.lookup m = none
  | [], _ => rfl
  | (a, b) :: fs, h => by
    have h2 : (m == a || (fs.map (·.1)).contains m) = false := by
      have h3 := h
      rw [List.map_cons, List.contains_cons] at h3
      exact h3
    obtain ⟨h3, h4⟩ := Bool.or_eq_false_iff.mp h2
    rw [List.lookup_cons, h3]
    exact lookup_no h4
theorem dp_fld (c : Cls X.K C) (n : NoAttr X.K C x) (he : PE X o (LP X.K mo)) (hb : attributeBase o x X.env (eval o X.env) = eval o X.env := by rfl) : PE X (.Attribute o x pos) (LP X.K (mFld C x mo)) := pe_imp (pe_fld he hb) fun σ H Q h => by
  obtain ⟨W, env, fp, xf, Q0, E, S, hm, k⟩ := h
  refine LP.next E S hm fun r ⟨ks, ts, t, ei, ea, q⟩ v W1' H1 t1' S1' E1' o' => ?_
  obtain ⟨W1, t1, S1, _, o⟩ := ffz_ok S t1' S1' o'
  obtain ⟨a, dx, fs, f, rfl, g, rfl, w, z⟩ := inst_ok ei o S1
  have key : ∀ {fs : List (Str × V)} {ts : List OT} {f : List Addr}, OwnAll X.K W1 H1 (fs.map (·.2)) ts f → assoc x (fs.map (·.1)) ts = some t → ∃ u g, fs.lookup x = some u ∧ Own X.K W1 H1 u t g ∧ ∀ a ∈ g, a ∈ f := by
    intro fs
    induction fs with
    | nil => intro ts f w e; cases w; cases e
    | cons p fs ih =>
      obtain ⟨kx, u⟩ := p
      intro ts f w e
      cases w with
      | cons o1 r1 =>
        rename_i t1 ts1 f1 g1
        have e : (if kx = x then some t1 else assoc x (fs.map (·.1)) ts1) = some t := e
        rw [List.lookup_cons]
        by_cases hk : kx = x
        · rw [if_pos hk] at e
          cases e
          rw [hk, beq_self_eq_true]
          exact ⟨u, f1, rfl, o1, fun a m => List.mem_append_left _ m⟩
        · rw [if_neg hk] at e
          have hk2 : (x == kx) = false := by simpa using fun q => hk q.symm
          rw [hk2]
          obtain ⟨u', g', e1, o2, s2⟩ := ih r1 e
          exact ⟨u', g', e1, o2, fun a m => List.mem_append_right _ (s2 a m)⟩
  obtain ⟨u, g2, el, ou, s2⟩ := key w ea
  refine ⟨a, C, dx, fs, u, rfl, g, c, n, el, k _ q u W1 H1 t1 S1 ?_⟩
  generalize r.ffz = r at z
  have lf : ∀ d, t = .leaf d → Rep X.K W1 u d := by
    intro d e
    subst e
    cases ou with
    | leaf q => exact q
  cases r with
  | fz d =>
    have z : f = [] := z
    subst z
    cases t with
    | leaf d => exact lf d rfl
    | lst _ => exact ⟨g2, ou, fun a m => absurd (s2 a m) (by simp)⟩
    | tup _ => exact ⟨g2, ou, fun a m => absurd (s2 a m) (by simp)⟩
    | ins _ _ _ => exact ⟨g2, ou, fun a m => absurd (s2 a m) (by simp)⟩
    | d0 => exact ⟨g2, ou, fun a m => absurd (s2 a m) (by simp)⟩
    | xo => exact ⟨g2, ou, fun a m => absurd (s2 a m) (by simp)⟩
    | dk _ _ => exact ⟨g2, ou, fun a m => absurd (s2 a m) (by simp)⟩
  | nw x =>
    cases t with
    | leaf d => exact lf d rfl
    | lst _ => exact ⟨g2, ou, fun a m => z a (s2 a m)⟩
    | tup _ => exact ⟨g2, ou, fun a m => z a (s2 a m)⟩
    | ins _ _ _ => exact ⟨g2, ou, fun a m => z a (s2 a m)⟩
    | d0 => exact ⟨g2, ou, fun a m => z a (s2 a m)⟩
    | xo => exact ⟨g2, ou, fun a m => z a (s2 a m)⟩
    | dk _ _ => exact ⟨g2, ou, fun a m => z a (s2 a m)⟩
  | br x =>
    cases t with
    | leaf d => exact lf d rfl
    | lst _ => exact ⟨g2, ou, fun a m => z a (s2 a m)⟩
    | tup _ => exact ⟨g2, ou, fun a m => z a (s2 a m)⟩
    | ins _ _ _ => exact ⟨g2, ou, fun a m => z a (s2 a m)⟩
    | d0 => exact ⟨g2, ou, fun a m => z a (s2 a m)⟩
    | xo => exact ⟨g2, ou, fun a m => z a (s2 a m)⟩
    | dk _ _ => exact ⟨g2, ou, fun a m => z a (s2 a m)⟩
  | ex x =>
    cases t with
    | leaf d => exact lf d rfl
    | lst _ => exact ⟨g2, ou, fun a m => z a (s2 a m)⟩
    | tup _ => exact ⟨g2, ou, fun a m => z a (s2 a m)⟩
    | ins _ _ _ => exact ⟨g2, ou, fun a m => z a (s2 a m)⟩
    | d0 => exact ⟨g2, ou, fun a m => z a (s2 a m)⟩
    | xo => exact ⟨g2, ou, fun a m => z a (s2 a m)⟩
    | dk _ _ => exact ⟨g2, ou, fun a m => z a (s2 a m)⟩
theorem meth_all {σ : L2.St} {H : Hp} {Q : VK} (hd : ∀ W, RepAll X.K W dvs dv) (h : LP X.K (mMeth n C m F1 mo ma dv) σ H Q) : tMeth C m (spR X.K n F1.io) dvs E (LP X.K mo) (LA X.K ma) σ H Q := by
  obtain ⟨W, env, fp, xf, Q0, En, S, hm, k⟩ := h
  refine LP.next En S hm fun r ⟨ks, ts, ei, en, hq⟩ v W1' H1 t1' S1' E1' o' => ?_
  obtain ⟨W1, t1, S1, _, o⟩ := ffz_ok S t1' S1' o'
  obtain ⟨a, dx, fs, f, rfl, g, rfl, w, z⟩ := inst_ok ei o S1
  refine ⟨a, dx, fs, rfl, g, lookup_no en, ?_⟩
  refine LA.next (En.keep S t1) S1 hq fun rs ⟨hn, hr⟩ vs W2 H2 g2 t2 S2 E2 os G => ?_
  obtain ⟨W4, g', t4, S4, l4, e4, o4, G4, i4, k4⟩ := os.ffz (.refl _) rfl S1 t2 S2 G.1 G.2
  have l := t4.le S1 fun _ m => by cases m
  have oo := o.keep t4 l
  have O : Ops X.K H Q Q0 W4 H2 W fp xf := ⟨S, t1.tr0 t4, S4, k⟩
  have hlen : (V.ref a :: (vs ++ dvs)).length = n := by
    rw [List.length_cons, ← args_len os.len (hd W2).len]
    exact hn
  have e : some r.lend :: args rs dv = ((r.ffz :: rs.map Rs.ffz).map fun r => some r.arg) ++ dv.map fun d => some (.fz d) := by
    rw [args_eq] <;> rfl
  rw [e] at hr
  have Gb := fresh_back G4 t1.al
  have ob : ResAll X.K H fp W4 H2 vs (rs.map Rs.ffz) g' := o4.back
  generalize r.ffz = q at oo hr
  have fin : ∀ q2 g0, q2.arg = q.arg → ResAll X.K H fp W4 H2 (.ref a :: vs) (q2 :: rs.map Rs.ffz) g0 → Fresh H W4 g0 → spR X.K n F1.io (.ref a :: (vs ++ dvs)) H2 Q E := fun q2 g0 e0 o0 G0 => call1 (vs := .ref a :: vs) hlen O o0 G0 hd (by
    rw [List.map_cons, e0]
    exact hr)
  cases q with
  | fz d => exact fin (.fz d) g' rfl (.fz oo ob) Gb
  | nw x => obtain ⟨f2, ow, nd, zz⟩ := oo; exact fin (.br x) g' rfl (.br ow (fun a m => (zz a m).2.2) ob) Gb
  | br x => obtain ⟨f2, ow, zz⟩ := oo; exact fin (.br x) g' rfl (.br ow zz ob) Gb
  | ex x => obtain ⟨f2, ow, zz⟩ := oo; exact fin (.ex x) g' rfl (.ex ow zz ob) Gb
theorem dp_meth {pl : Sem Bool} (c : Cls X.K C) (hm : Meth X.K C m f) (F : FnOk X.prog X.w X.K X.mg X.base CX k f fd ps (spR X.K n F1.io)) (hr : Room k X.A) (hb : Binds X.K fd ps ds) (hv : Vals dvs ds) (hd : ∀ W, RepAll X.K W dvs dv) (hx : Passes CX X E) (he : PE X o (LP X.K mo)) (ha : PA X (e :: es) (LA X.K ma))
    (hst : starEach (e :: es) X.env = (false, eval e X.env) :: starEach es X.env := by rfl) (hpl : (backTo pos (starEach es X.env)).any (·.1) = false := by rfl)
    (ht : eval (.Call (.Attribute o m apos) (e :: es) [] pos) X.env = (do
      let ov ← eval o X.env
      standAt apos.atName
      let (f, first) ← holding [ov] (getMethod ov m pl)
      callWith pos f first (backTo pos (starEach (e :: es) X.env)) (backToKw pos (keywordEach [] X.env))) := by rfl) :
    PE X (.Call (.Attribute o m apos) (e :: es) [] pos) (LP X.K (mMeth n C m F1 mo ma dv)) := pe_imp (pe_meth (pl := pl) he c hm F hr hb hv hx ha hst hpl ht) fun σ H Q h => meth_all hd h
theorem make_all {σ : L2.St} {H : Hp} {Q : VK} (hd : ∀ W, RepAll X.K W dvs dv) (h : LP X.K (mMake n C F0 ma dv) σ H Q) : tMake C (spR X.K n F0) dvs E (LA X.K ma) σ H Q := by
  obtain ⟨W, env, fp, xf, Q0, En, S, hm, k⟩ := h
  refine LA.next En S hm fun rs ⟨hn, hr⟩ vs W1 H1 g t1 S1 E1 os G => ?_
  intro x dx nx ndx ne
  obtain ⟨W4, g', t4, S4, _, _, o4, G4, _, _⟩ := os.ffz (.refl _) rfl S t1 S1 G.1 G.2
  obtain ⟨xf1, Ea, z1⟩ := o4.lend fun a m => (G4.2 a m).2.2
  obtain ⟨xf2, Eb, z2⟩ := (EnvOk.consts (hd W4)).app Ea
  rw [← List.map_append] at Eb
  have nx1 : upd H1 dx (.own x) x = none := by rw [upd_ne (Ne.symm ne)]; exact nx
  have tn := (Stp.new (W := W4) (o := .own x) ndx).tr0 (.new (o := .ins C dx []) nx1)
  have Sn := (S4.new (o := .own x) ndx).new (o := .ins C dx []) nx1
  have En2 := Eb.mono (W' := W4) (H' := upd (upd H1 dx (.own x)) x (.ins C dx [])) (.refl _) fun a m o e => by
    rw [upd_ne (fun q => by rw [q, nx] at e; cases e), upd_ne (fun q => by rw [q, ndx] at e; cases e)]
    exact e
  have fx := S4.free nx
  have ow : Own X.K W4 (upd (upd H1 dx (.own x)) x (.ins C dx [])) (.ref x) (.ins C [] []) [x] := .ins (fs := []) upd_same .nil
  have E3 := EnvOk.nw ow En2
  have S3 : Sat X.K W4 (upd (upd H1 dx (.own x)) x (.ins C dx [])) ([x] ++ ([] ++ [])) xf2 := ⟨Sn.sub, Sn.vol, by simp, fun a m => by
    have e : a = x := by simpa using m
    rw [e]
    exact ⟨fx.1, fx.2, by rw [upd_same]; exact fun z => nomatch z⟩, fun a m => by
    have q : W4.S a = none ∧ H1 a ≠ none := (z2 a m).elim (z1 a) fun m => by cases m
    exact ⟨fun m2 => q.2 (by rw [show a = x by simpa using m2]; exact nx), q.1, tn.al a q.2⟩⟩
  have hlen : (V.ref x :: (vs ++ dvs)).length = n := by
    rw [List.length_cons, ← args_len os.len (hd W1).len]
    exact hn
  rw [args_eq] at hr
  refine ⟨hlen, W4, _, _, xf2, _, E3, S3, hr, fun r ss' ⟨er, t, es, q⟩ v W' H' fp' xf' t5 E5 S5 nf o => ?_⟩
  subst er
  have ev : v = .non := by cases (show Rep X.K W' v .non from o); rfl
  have tall : Stp W H [] W' H' := by
    refine (t4.tr0 tn).trans t5 fun a m => .inr ?_
    have e : a = x := by simpa using m
    rw [e]
    cases z : H x with
    | none => rfl
    | some u => exact absurd nx (t4.al x (some_ne z))
  have Sb := S.back tall (S5.sublist (List.nil_sublist _) fun _ m => m)
  refine ⟨ev, ?_⟩
  cases ss' with
  | nil => cases es
  | cons s0 ss0 =>
    have es : some s0 = some (some (Rs.nw t)) := es
    cases es
    cases E5 with
    | nw ow5 rest =>
      rename_i f5 fp5
      obtain ⟨n1, _, _⟩ := List.nodup_append.mp S5.nd
      refine k _ q _ W' H' tall Sb ⟨f5, ow5, n1, fun a m => ?_⟩
      obtain ⟨o1, o2, _⟩ := S5.off a (List.mem_append_left _ m)
      refine ⟨?_, o1, o2⟩
      rcases nf a (List.mem_append_left _ m) with z | z
      · have e : a = x := by simpa using z
        rw [e]
        cases z : H x with
        | none => rfl
        | some u => exact absurd nx (t4.al x (some_ne z))
      · cases z2 : H a with
        | none => rfl
        | some u => exact absurd z ((t4.tr0 tn).al a (some_ne z2))
theorem dp_make (M : Mk X.K C f) (F : FnOk X.prog X.w X.K X.mg X.base CX k f fd ps (spR X.K n F0)) (hr : Room (k + 1) X.A) (hm : X.mg x = some (.ref C)) (hb : Binds X.K fd ps ds) (hv : Vals dvs ds) (hd : ∀ W, RepAll X.K W dvs dv) (hx : Passes CX X E) (ha : PA X (e :: es) (LA X.K ma))
    (hg : Gl X x := by rfl) (hdb : (x == ("__debug__" : Str)) = false := by decide) (he : starEach (e :: es) X.env = (false, eval e X.env) :: starEach es X.env := by rfl) (hpl : (backTo pos (starEach es X.env)).any (·.1) = false := by rfl) :
    PE X (.Call (.Name x p) (e :: es) [] pos) (LP X.K (mMake n C F0 ma dv)) := pe_imp (pe_make M F hr hg hm hb hv hx ha hdb he hpl) fun σ H Q h => make_all hd h
end
section
variable {P : Program} {w : World} {K : PySem.W.Frag} {mg : Str → Option Value} {base : Heap}
theorem start_env {K : PySem.W.Frag} {W : Wd} {H : Hp} {vs : List V} {ss : Env} {fp xf : List Addr} {N : List Str} {n : Nat} (E : EnvOk K W H (vs.map some) ss fp xf) (h : vs.length = n) : ∃ xf', EnvOk K W H (L2.start N vs) (ss ++ List.replicate (N.length - n) none) fp xf' ∧ ∀ a ∈ xf', a ∈ xf := by
  obtain ⟨xf', e, z⟩ := (EnvOk.nones (K := K) (W := W) (H := H) (N.length - n)).app E
  rw [List.append_nil] at e
  refine ⟨xf', ?_, fun a m => (z a m).elim id fun m => by cases m⟩
  unfold L2.start
  rw [h]
  exact e
theorem fn_RL {x qual : Str} {params : Arguments} {bodyS : List Stmt} {scope : Scope} {dfl : List V} {kws : List (Str × V)} {f : Addr} {fd : FuncData} {N ps : List Str} {k n : Nat} {F0 : Spec} {pr : List Nat} {m : DS} (F : FunD K x qual params bodyS scope dfl kws f fd) (S : FnScope N ps scope) (hn : ps.length = n)
    (body : ∀ (cdv : Value), CodeAt K f cdv qual → ∀ (A : Around) (outer : List PySem.Env) (s : Shared) (H : Hp) (E : XK), Room k (A.deeper (envOfC qual scope s.heap.objs.size f cdv)) → PSs (cxOf CX0 P w K mg base N qual scope f cdv A outer s H E).nox bodyS (LS K exT pr m))
    (wp : ∀ ss Q0, ss.length = n → F0 ss Q0 → m (ss ++ List.replicate (N.length - n) none) { nx := fun e => Q0 (.fz .non) (outs pr n e), rt := fun r e => Q0 r (outs pr n e) }) : FnOk P w K mg base CX0 (k + 1) f fd ps (spR K n F0) := by
  refine def_okL F S (fun vs H Q E h => by rw [hn]; exact h.1) (fun cdv hc A outer s H vs Q E hr h => ⟨LS K exT pr m, (body cdv hc A outer s H E hr).nox, ?_⟩)
  obtain ⟨hl, W, ss, fp, xf, Q0, E0, S0, hF, kk⟩ := h
  have hss : ss.length = n := by
    have e := E0.len
    rw [List.length_map] at e
    omega
  obtain ⟨xf1, E1, z1⟩ := start_env (N := N) E0 hl
  have pick : ∀ {σ' : L2.St} {e : Env} {W' : Wd} {H' : Hp} {fp' xf' : List Addr}, Post K W H fp pr (L2.start N vs) σ' W' H' e fp' xf' → ∃ fp2 xf2, EnvOk K W' H' (vs.map some) (outs pr n e) fp2 xf2 ∧ fp2.Sublist fp' ∧ ∀ a ∈ xf2, a ∈ xf' := by
    intro σ' e W' H' fp' xf' Pt
    refine Pt.E.pick _ _ ?_ fun i s hs => ?_
    · unfold outs
      rw [List.length_map, List.length_map, List.length_range, hl]
    · unfold outs at hs
      rw [List.getElem?_map] at hs
      cases q : (List.range n)[i]? with
      | none => rw [q] at hs; cases hs
      | some j =>
        obtain ⟨hi, ej⟩ := List.getElem?_eq_some_iff.mp q
        rw [List.getElem_range] at ej
        subst ej
        rw [List.length_range] at hi
        rw [q] at hs
        have hs : some (if i ∈ pr then (e[i]?).join else none) = some (some s) := hs
        by_cases hp : i ∈ pr
        · rw [if_pos hp] at hs
          have e2 : (e[i]?).join = some s := Option.some.inj hs
          have e3 : e[i]? = some (some s) := by
            cases q2 : e[i]? with
            | none => rw [q2] at e2; cases e2
            | some y => rw [q2] at e2; exact congrArg some e2
          refine ⟨e3, ?_⟩
          have h4 := Pt.pr i hp
          have h5 : (L2.start N vs)[i]? = (vs.map some)[i]? := by
            unfold L2.start
            rw [List.getElem?_append_left (by rw [List.length_map]; omega)]
          rw [h4, h5]
        · rw [if_neg hp] at hs
          cases hs
  have fin : ∀ r e, Q0 r (outs pr n e) → ∀ v σ' W' H' fp' xf', Post K W H fp pr (L2.start N vs) σ' W' H' e fp' xf' → RetOk K H fp fp' W' H' v r → Q v H' := fun r e q v σ' W' H' fp' xf' Pt o => by
    obtain ⟨fp2, xf2, E2, sl, z2⟩ := pick Pt
    refine kk r _ q v W' H' fp2 xf2 Pt.t E2 (Pt.S.sublist sl z2) (fun a m => Pt.nf a (sl.subset m)) ?_
    cases r with
    | fz d => exact o
    | nw t =>
      obtain ⟨f, ow, nd, z⟩ := o
      exact ⟨f, ow, nd, fun a m => ⟨(z a m).1, fun q => (z a m).2.1 (sl.subset q), (z a m).2.2⟩⟩
    | br t => exact o
    | ex t => exact o
  refine ⟨W, _, fp, xf1, _, E1, S0.less0 z1, wp ss Q0 hss hF, fun e q σ' W' H' fp' xf' Pt => fin _ e q .non σ' W' H' fp' xf' Pt Rep.non, fun _ q => q.elim, fun _ q => q.elim, ⟨fin, fun _ _ _ _ _ _ _ _ _ => trivial⟩⟩
theorem fn_R {x qual : Str} {params : Arguments} {bodyS : List Stmt} {scope : Scope} {dfl : List V} {kws : List (Str × V)} {f : Addr} {fd : FuncData} {N ps : List Str} {k n : Nat} {F0 : Spec} {pr : List Nat} {m : DS} (F : FunD K x qual params bodyS scope dfl kws f fd) (S : FnScope N ps scope) (hn : ps.length = n)
    (body : ∀ (cdv : Value) (A : Around) (outer : List PySem.Env) (s : Shared) (H : Hp) (E : XK), Room k (A.deeper (envOfC qual scope s.heap.objs.size f cdv)) → PSs (cxOf CX0 P w K mg base N qual scope f cdv A outer s H E).nox bodyS (LS K exT pr m))
    (wp : ∀ ss Q0, ss.length = n → F0 ss Q0 → m (ss ++ List.replicate (N.length - n) none) { nx := fun e => Q0 (.fz .non) (outs pr n e), rt := fun r e => Q0 r (outs pr n e) }) : FnOk P w K mg base CX0 (k + 1) f fd ps (spR K n F0) := fn_RL F S hn (fun cdv _ => body cdv) wp
end
end R
namespace R
open PySem PySem.Spec PyProof.Rows L2
section
variable {K : PySem.W.Frag} {W W1 W2 W' : Wd} {H H1 H2 H' : Hp} {f f1 fp fp1 fp2 xf xf1 xf2 : List Addr} {σ σ1 σ2 : L2.St} {Q : VK} {r : Rs} {v : V} {env env1 env2 : Env}
theorem OwnAll.split : ∀ {vs : List V} {ts : List OT} {f : List Addr} {j : Nat} {c : OT}, OwnAll K W H vs ts f → ts[j]? = some c → ∃ u fc rest, vs[j]? = some u ∧ Own K W H u c fc ∧ f.Perm (fc ++ rest) ∧
    ∀ (W' : Wd) (H' : Hp) (u' : V) (c' : OT) (fc' : List Addr), W.Le W' → (∀ a ∈ rest, ∀ o, H a = some o → H' a = some o) → Own K W' H' u' c' fc' → ∃ f', OwnAll K W' H' (vs.set j u') (ts.set j c') f' ∧ f'.Perm (fc' ++ rest)
  | _, _, _, _, _, .nil, h => by simp at h
  | _, _, _, 0, _, .cons (f := f) (g := g) o r, h => by
    simp at h
    subst h
    refine ⟨_, f, g, rfl, o, .refl _, fun W' H' u' c' fc' l k o' => ⟨fc' ++ g, .cons o' (r.mono l k), .refl _⟩⟩
  | _, _, _, j + 1, _, .cons (f := f) (g := g) o r, h => by
    obtain ⟨u, fc, rest, e, o2, p, k⟩ := OwnAll.split (j := j) r (by simpa using h)
    have pc : ∀ (x : List Addr), (f ++ (x ++ rest)).Perm (x ++ (f ++ rest)) := fun x => by
      rw [← List.append_assoc, ← List.append_assoc]
      exact List.perm_append_comm.append_right _
    refine ⟨u, fc, f ++ rest, by simpa using e, o2, (p.append_left f).trans (pc fc), fun W' H' u' c' fc' l q o' => ?_⟩
    obtain ⟨f', a, b⟩ := k W' H' u' c' fc' l (fun a m => q a (List.mem_append_right _ m)) o'
    exact ⟨f ++ f', .cons (o.mono l fun a m => q a (List.mem_append_left _ m)) a, (b.append_left f).trans (pc fc')⟩
inductive AtP (K : PySem.W.Frag) (W : Wd) (H : Hp) : V → OT → List Nat → V → OT → Prop where
  | nil {v : V} {t : OT} : AtP K W H v t [] v t
  | lst {p : Addr} {vs : List V} {ts : List OT} {j : Nat} {js : List Nat} {u v' : V} {c s : OT} : H p = some (.lst vs) → vs[j]? = some u → ts[j]? = some c → AtP K W H u c js v' s → AtP K W H (.ref p) (.lst ts) (j :: js) v' s
  | tup {p : Addr} {vs : List V} {ts : List OT} {j : Nat} {js : List Nat} {u v' : V} {c s : OT} : H p = some (.tup vs) → vs[j]? = some u → ts[j]? = some c → AtP K W H u c js v' s → AtP K W H (.ref p) (.tup ts) (j :: js) v' s
  | ins {p C dx : Addr} {fs : List (Str × V)} {ks : List Str} {ts : List OT} {j : Nat} {js : List Nat} {u v' : V} {c s : OT} : H p = some (.ins C dx fs) → (fs.map (·.2))[j]? = some u → ts[j]? = some c → AtP K W H u c js v' s → AtP K W H (.ref p) (.ins C ks ts) (j :: js) v' s
  | dk {p : Addr} {kvs : List (L2.Key × V)} {ks : List L2.Key} {ts : List OT} {j : Nat} {js : List Nat} {u v' : V} {c s : OT} : H p = some (.dK kvs) → (kvs.map (·.2))[j]? = some u → ts[j]? = some c → AtP K W H u c js v' s → AtP K W H (.ref p) (.dk ks ts) (j :: js) v' s
theorem AtP.at {v v' : V} {t s : OT} {js : List Nat} (h : AtP K W H v t js v' s) : t.at? js = some s := by
  induction h with
  | nil => rfl
  | lst _ _ e _ ih => show (_ : Option OT).bind _ = _; rw [OT.kid?, e]; exact ih
  | tup _ _ e _ ih => show (_ : Option OT).bind _ = _; rw [OT.kid?, e]; exact ih
  | ins _ _ e _ ih => show (_ : Option OT).bind _ = _; rw [OT.kid?, e]; exact ih
  | dk _ _ e _ ih => show (_ : Option OT).bind _ = _; rw [OT.kid?, e]; exact ih
theorem AtP.snoc {v v' u : V} {t s c : OT} {js : List Nat} {j : Nat} (h : AtP K W H v t js v' s) (k : AtP K W H v' s [j] u c) : AtP K W H v t (js ++ [j]) u c := by
  induction h with
  | nil => exact k
  | lst a b e _ ih => exact .lst a b e (ih k)
  | tup a b e _ ih => exact .tup a b e (ih k)
  | ins a b e _ ih => exact .ins a b e (ih k)
  | dk a b e _ ih => exact .dk a b e (ih k)
theorem put_kid {t c s : OT} {j : Nat} {js : List Nat} (h : t.kid? j = some c) : t.put (j :: js) s = t.set? j (c.put js s) := by
  show (match t.kid? j with | some c => t.set? j (c.put js s) | none => t) = _
  rw [h]
theorem place {v v' : V} {t s : OT} {js : List Nat} (h : AtP K W H v t js v' s) : ∀ {f : List Addr}, Own K W H v t f → ∃ fs rest, Own K W H v' s fs ∧ f.Perm (fs ++ rest) ∧
    ∀ (W' : Wd) (H' : Hp) (s' : OT) (fs' : List Addr), W.Le W' → (∀ a ∈ rest, ∀ o, H a = some o → H' a = some o) → Own K W' H' v' s' fs' → ∃ f', Own K W' H' v (t.put js s') f' ∧ f'.Perm (fs' ++ rest) := by
  induction h with
  | nil =>
    intro f o
    exact ⟨f, [], o, by rw [List.append_nil], fun W' H' s' fs' l k o' => ⟨fs', o', by rw [List.append_nil]⟩⟩
  | lst hp hu hc _ ih =>
    rename_i p vs ts j js u v' c s hsub
    intro f o
    cases o with
    | lst g w =>
      rename_i vs2 f2
      rw [hp] at g
      cases g
      obtain ⟨u2, fc, rest, e2, o2, p2, k2⟩ := w.split hc
      rw [hu] at e2
      cases e2
      obtain ⟨fs, rest2, o3, p3, k3⟩ := ih o2
      refine ⟨fs, p :: (rest2 ++ rest), o3, ?_, fun W' H' s' fs' l k o' => ?_⟩
      · refine (List.Perm.cons p (p2.trans (p3.append_right rest))).trans ?_
        rw [List.append_assoc]
        exact List.perm_middle.symm
      · obtain ⟨f', o4, p4⟩ := k3 W' H' s' fs' l (fun a m => k a (List.mem_cons_of_mem _ (List.mem_append_left _ m))) o'
        obtain ⟨f5, o5, p5⟩ := k2 W' H' u _ f' l (fun a m => k a (List.mem_cons_of_mem _ (List.mem_append_right _ m))) o4
        have e5 : vs.set j u = vs := List.set_getElem_self_some hu
        rw [e5] at o5
        rw [put_kid (t := .lst ts) hc]
        refine ⟨p :: f5, .lst (k p List.mem_cons_self _ hp) o5, ?_⟩
        refine (List.Perm.cons p (p5.trans (p4.append_right rest))).trans ?_
        rw [List.append_assoc]
        exact List.perm_middle.symm
  | tup hp hu hc _ ih =>
    rename_i p vs ts j js u v' c s hsub
    intro f o
    cases o with
    | tup g w =>
      rename_i vs2 f2
      rw [hp] at g
      cases g
      obtain ⟨u2, fc, rest, e2, o2, p2, k2⟩ := w.split hc
      rw [hu] at e2
      cases e2
      obtain ⟨fs, rest2, o3, p3, k3⟩ := ih o2
      refine ⟨fs, p :: (rest2 ++ rest), o3, ?_, fun W' H' s' fs' l k o' => ?_⟩
      · refine (List.Perm.cons p (p2.trans (p3.append_right rest))).trans ?_
        rw [List.append_assoc]
        exact List.perm_middle.symm
      · obtain ⟨f', o4, p4⟩ := k3 W' H' s' fs' l (fun a m => k a (List.mem_cons_of_mem _ (List.mem_append_left _ m))) o'
        obtain ⟨f5, o5, p5⟩ := k2 W' H' u _ f' l (fun a m => k a (List.mem_cons_of_mem _ (List.mem_append_right _ m))) o4
        have e5 : vs.set j u = vs := List.set_getElem_self_some hu
        rw [e5] at o5
        rw [put_kid (t := .tup ts) hc]
        refine ⟨p :: f5, .tup (k p List.mem_cons_self _ hp) o5, ?_⟩
        refine (List.Perm.cons p (p5.trans (p4.append_right rest))).trans ?_
        rw [List.append_assoc]
        exact List.perm_middle.symm
  | ins hp hu hc _ ih =>
    rename_i p C dx fs ks ts j js u v' c s hsub
    intro f o
    cases o with
    | ins g w =>
      rename_i dx2 fs2 f2
      rw [hp] at g
      cases g
      obtain ⟨u2, fc, rest, e2, o2, p2, k2⟩ := w.split hc
      rw [hu] at e2
      cases e2
      obtain ⟨fs3, rest2, o3, p3, k3⟩ := ih o2
      refine ⟨fs3, p :: (rest2 ++ rest), o3, ?_, fun W' H' s' fs' l k o' => ?_⟩
      · refine (List.Perm.cons p (p2.trans (p3.append_right rest))).trans ?_
        rw [List.append_assoc]
        exact List.perm_middle.symm
      · obtain ⟨f', o4, p4⟩ := k3 W' H' s' fs' l (fun a m => k a (List.mem_cons_of_mem _ (List.mem_append_left _ m))) o'
        obtain ⟨f5, o5, p5⟩ := k2 W' H' u _ f' l (fun a m => k a (List.mem_cons_of_mem _ (List.mem_append_right _ m))) o4
        have e5 : (fs.map (·.2)).set j u = fs.map (·.2) := List.set_getElem_self_some hu
        rw [e5] at o5
        rw [put_kid (t := .ins C _ ts) hc]
        refine ⟨p :: f5, .ins (k p List.mem_cons_self _ hp) o5, ?_⟩
        refine (List.Perm.cons p (p5.trans (p4.append_right rest))).trans ?_
        rw [List.append_assoc]
        exact List.perm_middle.symm
  | dk hp hu hc _ ih =>
    rename_i p kvs ks ts j js u v' c s hsub
    intro f o
    cases o with
    | dk g w =>
      rename_i fs2 f2
      rw [hp] at g
      cases g
      obtain ⟨u2, fc, rest, e2, o2, p2, k2⟩ := w.split hc
      rw [hu] at e2
      cases e2
      obtain ⟨fs3, rest2, o3, p3, k3⟩ := ih o2
      refine ⟨fs3, p :: (rest2 ++ rest), o3, ?_, fun W' H' s' fs' l k o' => ?_⟩
      · refine (List.Perm.cons p (p2.trans (p3.append_right rest))).trans ?_
        rw [List.append_assoc]
        exact List.perm_middle.symm
      · obtain ⟨f', o4, p4⟩ := k3 W' H' s' fs' l (fun a m => k a (List.mem_cons_of_mem _ (List.mem_append_left _ m))) o'
        obtain ⟨f5, o5, p5⟩ := k2 W' H' u _ f' l (fun a m => k a (List.mem_cons_of_mem _ (List.mem_append_right _ m))) o4
        have e5 : (kvs.map (·.2)).set j u = kvs.map (·.2) := List.set_getElem_self_some hu
        rw [e5] at o5
        rw [put_kid (t := .dk _ ts) hc]
        refine ⟨p :: f5, .dk (k p List.mem_cons_self _ hp) o5, ?_⟩
        refine (List.Perm.cons p (p5.trans (p4.append_right rest))).trans ?_
        rw [List.append_assoc]
        exact List.perm_middle.symm
theorem EnvOk.slot {σ : L2.St} {env : Env} {fp xf : List Addr} (E : EnvOk K W H σ env fp xf) : ∀ {i : Nat} {t : OT} {v : V}, env[i]? = some (some (.nw t)) → σ[i]? = some (some v) → ∃ f rest, Own K W H v t f ∧ fp.Perm (f ++ rest) ∧
    ∀ (W' : Wd) (H' : Hp) (t' : OT) (f' : List Addr), W.Le W' → (∀ a, a ∈ rest ∨ a ∈ xf → ∀ o, H a = some o → H' a = some o) → Own K W' H' v t' f' → ∃ fp', EnvOk K W' H' σ (env.set i (some (.nw t'))) fp' xf ∧ fp'.Perm (f' ++ rest) := by
  induction E with
  | nil => intro i t v e; simp at e
  | no E ih =>
    intro i t v e1 e2
    cases i with
    | zero => simp at e1
    | succ i =>
      obtain ⟨f, rest, a, b, c⟩ := ih (i := i) (t := t) (v := v) (by simpa using e1) (by simpa using e2)
      refine ⟨f, rest, a, b, fun W' H' t' f' l k o => ?_⟩
      obtain ⟨fp', x, y⟩ := c W' H' t' f' l k o
      exact ⟨fp', .no x, y⟩
  | fz q E ih =>
    intro i t v e1 e2
    cases i with
    | zero => simp at e1
    | succ i =>
      obtain ⟨f, rest, a, b, c⟩ := ih (i := i) (t := t) (v := v) (by simpa using e1) (by simpa using e2)
      refine ⟨f, rest, a, b, fun W' H' t' f' l k o => ?_⟩
      obtain ⟨fp', x, y⟩ := c W' H' t' f' l k o
      exact ⟨fp', .fz (q.mono l) x, y⟩
  | nw q E ih =>
    rename_i v0 t0 f0 σ e fp xf
    intro i t v e1 e2
    have pc : ∀ (x rest : List Addr), (f0 ++ (x ++ rest)).Perm (x ++ (f0 ++ rest)) := fun x rest => by
      rw [← List.append_assoc, ← List.append_assoc]
      exact List.perm_append_comm.append_right _
    cases i with
    | zero =>
      simp at e1 e2
      subst e1 e2
      exact ⟨f0, fp, q, .refl _, fun W' H' t' f' l k o => ⟨f' ++ fp, .nw o (E.mono l fun a m => k a m), .refl _⟩⟩
    | succ i =>
      obtain ⟨f, rest, a, b, c⟩ := ih (i := i) (t := t) (v := v) (by simpa using e1) (by simpa using e2)
      refine ⟨f, f0 ++ rest, a, (b.append_left f0).trans (pc f rest), fun W' H' t' f' l k o => ?_⟩
      obtain ⟨fp', x, y⟩ := c W' H' t' f' l (fun a m => k a (m.imp (List.mem_append_right _) id)) o
      exact ⟨f0 ++ fp', .nw (q.mono l fun a m => k a (.inl (List.mem_append_left _ m))) x, (y.append_left f0).trans (pc f' rest)⟩
  | ex q E ih =>
    intro i t v e1 e2
    cases i with
    | zero => simp at e1
    | succ i =>
      obtain ⟨f, rest, a, b, c⟩ := ih (i := i) (t := t) (v := v) (by simpa using e1) (by simpa using e2)
      refine ⟨f, rest, a, b, fun W' H' t' f' l k o => ?_⟩
      obtain ⟨fp', x, y⟩ := c W' H' t' f' l (fun a m => k a (m.imp id (List.mem_append_right _))) o
      exact ⟨fp', .ex (q.mono l fun a m => k a (.inr (List.mem_append_left _ m))) x, y⟩
def PlOk (K : PySem.W.Frag) (W : Wd) (H : Hp) (σ : L2.St) (env : Env) (u : V) (i : Nat) (js : List Nat) : Prop := ∃ t v s, env[i]? = some (some (.nw t)) ∧ σ[i]? = some (some v) ∧ AtP K W H v t js u s
theorem tree_at {i : Nat} {js : List Nat} {t s : OT} (he : env[i]? = some (some (.nw t))) (h : t.at? js = some s) : tree env i js = some s := by
  unfold tree
  rw [he]
  exact h
theorem put_at {i : Nat} {js : List Nat} {t s : OT} (he : env[i]? = some (some (.nw t))) : put env i js s = env.set i (some (.nw (t.put js s))) := by
  unfold put
  rw [he]
theorem place_ok {i : Nat} {js : List Nat} {u : V} {s : OT} {σ : L2.St} (E : EnvOk K W H σ env fp xf) (P : PlOk K W H σ env u i js) (ht : tree env i js = some s) :
    ∃ fs rest, Own K W H u s fs ∧ fp.Perm (fs ++ rest) ∧ ∀ (W' : Wd) (H' : Hp) (s' : OT) (fs' : List Addr), W.Le W' → (∀ a, a ∈ rest ∨ a ∈ xf → ∀ o, H a = some o → H' a = some o) → Own K W' H' u s' fs' → ∃ fp', EnvOk K W' H' σ (put env i js s') fp' xf ∧ fp'.Perm (fs' ++ rest) := by
  obtain ⟨t, v, s2, he, ev, ap⟩ := P
  rw [tree_at he ap.at] at ht
  cases ht
  obtain ⟨f, rest, ow, p, k⟩ := E.slot he ev
  obtain ⟨fs, rest2, os, p2, k2⟩ := place ap ow
  refine ⟨fs, rest2 ++ rest, os, by rw [← List.append_assoc]; exact p.trans (p2.append_right rest), fun W' H' s' fs' l kk o => ?_⟩
  obtain ⟨f', o2, p3⟩ := k2 W' H' s' fs' l (fun a m => kk a (.inl (List.mem_append_left _ m))) o
  obtain ⟨fp', e2, p4⟩ := k W' H' _ f' l (fun a m => kk a (m.imp (List.mem_append_right _) id)) o2
  rw [put_at he]
  exact ⟨fp', e2, by rw [← List.append_assoc]; exact p4.trans (p3.append_right rest)⟩
theorem AtP.mono {v u : V} {t s : OT} {js : List Nat} (h : AtP K W H v t js u s) : ∀ {f : List Addr}, Own K W H v t f → (∀ a ∈ f, ∀ o, H a = some o → H' a = some o) → AtP K W' H' v t js u s := by
  induction h with
  | nil => intro _ _ _; exact .nil
  | lst a b c _ ih =>
    intro f o k
    cases o with
    | lst g w =>
      rw [a] at g
      cases g
      obtain ⟨u2, fc, rest, e2, o2, p2, _⟩ := w.split c
      rw [b] at e2
      cases e2
      exact .lst (k _ List.mem_cons_self _ a) b c (ih o2 fun x m => k x (List.mem_cons_of_mem _ (p2.mem_iff.mpr (List.mem_append_left _ m))))
  | tup a b c _ ih =>
    intro f o k
    cases o with
    | tup g w =>
      rw [a] at g
      cases g
      obtain ⟨u2, fc, rest, e2, o2, p2, _⟩ := w.split c
      rw [b] at e2
      cases e2
      exact .tup (k _ List.mem_cons_self _ a) b c (ih o2 fun x m => k x (List.mem_cons_of_mem _ (p2.mem_iff.mpr (List.mem_append_left _ m))))
  | ins a b c _ ih =>
    intro f o k
    cases o with
    | ins g w =>
      rw [a] at g
      cases g
      obtain ⟨u2, fc, rest, e2, o2, p2, _⟩ := w.split c
      rw [b] at e2
      cases e2
      exact .ins (k _ List.mem_cons_self _ a) b c (ih o2 fun x m => k x (List.mem_cons_of_mem _ (p2.mem_iff.mpr (List.mem_append_left _ m))))
  | dk a b c _ ih =>
    intro f o k
    cases o with
    | dk g w =>
      rw [a] at g
      cases g
      obtain ⟨u2, fc, rest, e2, o2, p2, _⟩ := w.split c
      rw [b] at e2
      cases e2
      exact .dk (k _ List.mem_cons_self _ a) b c (ih o2 fun x m => k x (List.mem_cons_of_mem _ (p2.mem_iff.mpr (List.mem_append_left _ m))))
theorem PlOk.keep {σ : L2.St} {u : V} {i : Nat} {js : List Nat} (P : PlOk K W H σ env u i js) (E : EnvOk K W H σ env fp xf) (S : Sat K W H fp xf) (t : Stp W H [] W' H') : PlOk K W' H' σ env u i js := by
  obtain ⟨t0, v, s2, he, ev, ap⟩ := P
  obtain ⟨f, rest, ow, p, _⟩ := E.slot he ev
  exact ⟨t0, v, s2, he, ev, ap.mono ow fun a m o e => t.kp a o e (by simp) (S.off a (p.mem_iff.mpr (List.mem_append_left _ m))).2.1⟩
def LPl (K : PySem.W.Frag) (m : DP) : TE := fun σ H Q => ∃ (W : Wd) (env : Env) (fp xf : List Addr) (Q0 : Nat → List Nat → Prop), EnvOk K W H σ env fp xf ∧ Sat K W H fp xf ∧ m env Q0 ∧
  ∀ i p, Q0 i p → ∀ u W' H', Stp W H [] W' H' → Sat K W' H' fp xf → PlOk K W' H' σ env u i p → Q u H'
theorem LPl.next {m : DP} {σ : L2.St} {Q1 : Nat → List Nat → Prop} {q : V → Hp → Prop} (E : EnvOk K W H σ env fp xf) (S : Sat K W H fp xf) (h : m env Q1)
    (k : ∀ i p, Q1 i p → ∀ u W1 H1, Stp W H [] W1 H1 → Sat K W1 H1 fp xf → EnvOk K W1 H1 σ env fp xf → PlOk K W1 H1 σ env u i p → q u H1) : LPl K m σ H q :=
  ⟨W, env, fp, xf, Q1, E, S, h, fun i p hq u W1 H1 t1 S1 o => k i p hq u W1 H1 t1 S1 (E.keep S t1) o⟩
theorem wr_list {i : Nat} {js : List Nat} {u : V} {ts : List OT} {σ : L2.St} {pr : List Nat} (E : EnvOk K W H σ env fp xf) (S : Sat K W H fp xf) (P : PlOk K W H σ env u i js) (ht : tree env i js = some (.lst ts)) :
    ∃ (p : Addr) (vs : List V) (g : List Addr), u = .ref p ∧ H p = some (.lst vs) ∧ OwnAll K W H vs ts g ∧ (p :: g).Nodup ∧ (∀ a ∈ p :: g, a ∈ fp) ∧
      ∀ (vs' : List V) (ts' : List OT) (g' : List Addr), OwnAll K W H vs' ts' g' → g'.Nodup → (∀ a ∈ g', (a ∈ g ∨ a ∉ fp ∧ a ∉ xf) ∧ W.G a = none ∧ W.S a = none) →
        ∃ fp', EnvOk K W (upd H p (.lst vs')) σ (put env i js (.lst ts')) fp' xf ∧ Sat K W (upd H p (.lst vs')) fp' xf ∧ Stp W H fp W (upd H p (.lst vs')) ∧ ∀ a ∈ fp', a ∈ fp ∨ a ∈ g' := by
  obtain ⟨fs, rest, os, pm, k⟩ := place_ok E P ht
  cases os with
  | @lst p vs _ g hp w =>
    have nd := pm.nodup_iff.mp S.nd
    obtain ⟨n1, n2, n3⟩ := List.nodup_append.mp nd
    have mp : p ∈ fp := pm.mem_iff.mpr (List.mem_append_left _ List.mem_cons_self)
    obtain ⟨op1, op2, op3⟩ := S.off p mp
    refine ⟨p, vs, g, rfl, hp, w, n1, fun a m => pm.mem_iff.mpr (List.mem_append_left _ m), fun vs' ts' g' w' nd' z' => ?_⟩
    have pg' : p ∉ g' := fun m => by
      rcases (z' p m).1 with q | q
      · exact (List.nodup_cons.mp n1).1 q
      · exact q.1 mp
    have ne : ∀ a, a ≠ p → ∀ o, H a = some o → upd H p (.lst vs') a = some o := fun a n o e => (upd_ne n).trans e
    have ow' : Own K W (upd H p (.lst vs')) (.ref p) (.lst ts') (p :: g') := .lst upd_same (w'.mono (.refl _) fun a m o e => ne a (fun q => pg' (by rw [← q]; exact m)) o e)
    obtain ⟨fp', E', p'⟩ := k W (upd H p (.lst vs')) (.lst ts') (p :: g') (.refl _) (fun a m o e => ne a (fun q => by
      subst q
      rcases m with m | m
      · exact n3 a List.mem_cons_self a m rfl
      · exact (S.xof a m).1 mp) o e) ow'
    have al : ∀ a, H a ≠ none → upd H p (.lst vs') a ≠ none := fun a n => by
      by_cases q : a = p
      · rw [q, upd_same]; exact fun z => nomatch z
      · rw [upd_ne q]; exact n
    have dj : ∀ a ∈ g', a ∉ rest := fun a m m2 => by
      rcases (z' a m).1 with q | q
      · exact n3 a (List.mem_cons_of_mem _ q) a m2 rfl
      · exact q.1 (pm.mem_iff.mpr (List.mem_append_right _ m2))
    have S0 := S.wr (o := .lst vs') op1 op2
    refine ⟨fp', E', ⟨S0.sub, S0.vol, ?_, fun a m => ?_, fun a m => ⟨fun q => ?_, (S0.xof a m).2⟩⟩, ⟨fun _ _ _ => ⟨rfl, rfl⟩, fun a o e m s => ne a (fun q => m (by rw [q]; exact mp)) o e, al⟩, fun a m => ?_⟩
    · refine p'.nodup_iff.mpr (List.nodup_append.mpr ⟨List.nodup_cons.mpr ⟨pg', nd'⟩, n2, fun a m b m2 e => ?_⟩)
      subst e
      rcases List.mem_cons.mp m with q | q
      · subst q; exact n3 a List.mem_cons_self a m2 rfl
      · exact dj a q m2
    · rcases List.mem_append.mp (p'.mem_iff.mp m) with q | q
      · rcases List.mem_cons.mp q with q | q
        · subst q; exact ⟨op1, op2, al a op3⟩
        · exact ⟨(z' a q).2.1, (z' a q).2.2, al a (w'.alloc a q)⟩
      · exact S0.off a (pm.mem_iff.mpr (List.mem_append_right _ q))
    · rcases List.mem_append.mp (p'.mem_iff.mp q) with q | q
      · rcases List.mem_cons.mp q with q | q
        · subst q; exact (S.xof a m).1 mp
        · rcases (z' a q).1 with q | q
          · exact (S.xof a m).1 (pm.mem_iff.mpr (List.mem_append_left _ (List.mem_cons_of_mem _ q)))
          · exact q.2 m
      · exact (S.xof a m).1 (pm.mem_iff.mpr (List.mem_append_right _ q))
    · rcases List.mem_append.mp (p'.mem_iff.mp m) with q | q
      · rcases List.mem_cons.mp q with q | q
        · subst q; exact .inl mp
        · exact .inr q
      · exact .inl (pm.mem_iff.mpr (List.mem_append_right _ q))
end
section
variable {X : Cx} {tg a b c : Expr} {ma mb mc : DE} {pos : Pos} {ta tb : DT} {st : Stmt} {rest s1 s2 : List Stmt} {m m1 m2 : DS} {pr : List Nat} {pl : DP} {x : Str} {C : Addr}
theorem dpl_name {i : Nat} (hN : X.N[i]? = some x := by rfl) (hv : Vis X.env.scope x := by first | exact Or.inl rfl | exact Or.inr (Or.inl rfl) | exact Or.inr (Or.inr rfl)) (hd : (x == ("__debug__" : Str)) = false := by decide)
    (hcd : (x == ("__classdict__" : Str)) = false := by decide) : PE X (.Name x pos) (LPl X.K (plN i)) := pe_imp (pe_var (i := i) hN hv hd hcd) fun σ H Q h => by
  obtain ⟨W, env, fp, xf, Q0, E, S, ⟨⟨t, he⟩, hq⟩, k⟩ := h
  obtain ⟨v, ev, _⟩ := E.get he S
  exact ⟨v, ev, k i [] hq v W H .refl S ⟨t, v, t, he, ev, .nil⟩⟩
theorem idx_get {f : Str} {j : Nat} : ∀ {ks : List Str} {vs : List V} {fs : List (Str × V)}, idx f ks = some j → fs.map (·.1) = ks → ∃ u, fs.lookup f = some u ∧ (fs.map (·.2))[j]? = some u
  | [], _, _, h, _ => by cases h
  | k :: ks, vs, fs, h, e => by
    cases fs with
    | nil => cases e
    | cons p fs =>
      obtain ⟨k1, u⟩ := p
      obtain ⟨rfl, e2⟩ := List.cons.inj e
      have h : (if k1 = f then some 0 else (idx f ks).map (· + 1)) = some j := h
      rw [List.lookup_cons]
      by_cases q : k1 = f
      · rw [if_pos q] at h
        cases h
        rw [q, beq_self_eq_true]
        exact ⟨u, rfl, rfl⟩
      · rw [if_neg q] at h
        have q2 : (f == k1) = false := by simpa using fun z => q z.symm
        rw [q2]
        cases r : idx f ks with
        | none => rw [r] at h; cases h
        | some j2 =>
          rw [r] at h
          cases h
          obtain ⟨u2, a, b⟩ := idx_get (vs := vs) r e2
          exact ⟨u2, a, by simpa using b⟩
theorem dpl_fld (c : Cls X.K C) (n : NoAttr X.K C x) (he : PE X a (LPl X.K pl)) (hb : attributeBase a x X.env (eval a X.env) = eval a X.env := by rfl) : PE X (.Attribute a x pos) (LPl X.K (plF C x pl)) := pe_imp (pe_fld he hb) fun σ H Q h => by
  obtain ⟨W, env, fp, xf, Q0, E, S, hm, k⟩ := h
  refine LPl.next E S hm fun i p ⟨ks, ts, j, et, ej, hq⟩ u W1 H1 t1 S1 E1 P => ?_
  obtain ⟨t, v, s2, he, ev, ap⟩ := P
  have e2 := tree_at he ap.at
  rw [e2] at et
  cases et
  obtain ⟨f, rest, ow, pm, _⟩ := E1.slot he ev
  obtain ⟨fs, rest2, os, p2, _⟩ := place ap ow
  cases os with
  | @ins p0 _ dx fs0 _ g hp w =>
    obtain ⟨u2, el, eu⟩ := idx_get (vs := []) ej rfl
    have hj : j < ts.length := by
      rw [← w.len]
      exact (List.getElem?_eq_some_iff.mp eu).1
    refine ⟨p0, C, dx, fs0, u2, rfl, hp, c, n, el, k i _ hq u2 W1 H1 t1 S1 ⟨t, v, _, he, ev, ap.snoc (.ins hp eu (List.getElem?_eq_getElem hj) .nil)⟩⟩
theorem ix_at {vs : List V} {ts : List OT} {k : Int} {j : Nat} (hl : vs.length = ts.length) (h : ixN' ts.length k = some j) (hj : j < vs.length) : atI vs k = vs[j]? := by
  show (ixN' vs.length k).bind (fun j => vs[j]?) = _
  rw [hl, h] <;> rfl
theorem ixN_lt {n : Nat} {k : Int} {j : Nat} (h : ixN' n k = some j) : j < n := by
  unfold ixN' at h
  split at h
  · split at h
    · cases h; omega
    · cases h
  · split at h
    · cases h; omega
    · cases h
theorem dpl_ix (ha : PE X a (LPl X.K pl)) (hb : PE X b (LP X.K mb)) (hs : PlainIx b := by exact fun _ _ => rfl) : PE X (.Subscript a b pos) (LPl X.K (plI pl mb)) := pe_imp (pe_ix ix_list ha hb hs) fun σ H Q h => by
  obtain ⟨W, env, fp, xf, Q0, E, S, hm, k⟩ := h
  refine LPl.next E S hm fun i p hq u W1 H1 t1 S1 E1 P => ?_
  refine LP.next E1 S1 hq fun r hr v2 W2 H2 t2 S2 E2 o => ?_
  split at hr
  · rename_i n
    obtain ⟨ts, j, et, ej, q⟩ := hr
    have P2 := P.keep E1 S1 t2
    obtain ⟨t, v, s2, he, ev, ap⟩ := P2
    have e2 := tree_at he ap.at
    rw [e2] at et
    cases et
    obtain ⟨f, rest, ow, pm, _⟩ := E2.slot he ev
    obtain ⟨fs, rest2, os, p2, _⟩ := place ap ow
    cases os with
    | @lst p0 vs _ g hp w =>
      have hj := ixN_lt ej
      have hj2 : j < vs.length := by rw [w.len]; exact hj
      refine ⟨p0, vs, n, vs[j], rfl, int_of o, .of hp, ?_, k i _ q _ W2 H2 (t1.tr0 t2) S2 ⟨t, v, _, he, ev, ap.snoc (.lst hp (List.getElem?_eq_getElem hj2) (List.getElem?_eq_getElem hj) .nil)⟩⟩
      rw [ix_at w.len ej hj2]
      exact List.getElem?_eq_getElem hj2
  · exact hr.elim
def one1 (P : Rs → Prop) : List Rs → Prop
  | [r] => P r
  | _ => False
theorem one1_inv {P : Rs → Prop} : ∀ {rs : List Rs}, one1 P rs → ∃ r, rs = [r] ∧ P r
  | [r], h => ⟨r, rfl, h⟩
  | [], h => h.elim
  | _ :: _ :: _, h => h.elim
theorem item_own {K : PySem.W.Frag} {H : Hp} {fp : List Addr} {W' : Wd} {H' : Hp} {v : V} {r : Rs} {t : OT} (o : ResOk K H fp W' H' v r) (h : r.item = some t) : ∃ f, Own K W' H' v t f ∧ f.Nodup ∧ ∀ a ∈ f, H a = none ∧ W'.G a = none ∧ W'.S a = none := by
  cases r with
  | fz d => cases h; exact ⟨[], .leaf o, List.nodup_nil, fun _ m => by cases m⟩
  | nw x => cases h; exact o
  | br x => cases h
  | ex x => cases h
theorem ds_append (ha : PE X a (LPl X.K pl)) (hb : PE X b (LP X.K mb)) {apos : Pos} {p2 : Pos} (hst : starEach [b] X.env = (false, eval b X.env) :: starEach [] X.env := by rfl)
    (hE : ∀ (t : TE), PE X (.Call (.Attribute a "append" apos) [b] [] p2) t → PS X (.Expr (.Call (.Attribute a "append" apos) [b] [] p2) pos) (tDrop t) := by exact fun _ h => ps_expr h)
    (hB : ∀ (t1 : TE) (t2 : TA), PE X a t1 → PA X [b] t2 → PE X (.Call (.Attribute a "append" apos) [b] [] p2) (tBM X.K "list" rAppend t1 t2) := by exact fun _ _ h1 h2 => pe_bm PySem.F.plainAttrs_list PySem.F.slot_list_append PySem.F.type_list_append mt_append h1 h2) :
    PS X (.Expr (.Call (.Attribute a "append" apos) [b] [] p2) pos) (LS X.K ex pr (mAppend pl mb)) := ps_imp (hE _ (hB _ _ ha (da_cons hb da_nil hst))) fun D σ H h => by
  obtain ⟨W, env, fp, xf, K0, E, S, hm, nx, bk, ct, rt⟩ := h
  refine LPl.next E S hm fun i p ⟨ts, et, hl, hq⟩ u W1 H1 t1 S1 E1 P => ?_
  obtain ⟨p0, vs0, g0, rfl, hp0, _⟩ := wr_list (pr := pr) E1 S1 P et
  refine ⟨.inl ⟨rfl, _, .of hp0⟩, ?_⟩
  refine LA.next (m := mCons mb mNil) E1 S1 (Q1 := one1 fun r => ∃ t, r.item = some t ∧ K0.nx (put env i p (.lst (ts ++ [t])))) hq fun rs hr vs W2 H2 g t2 S2 E2 os G => ?_
  obtain ⟨r, rfl, t, ei, hn⟩ := one1_inv hr
  obtain ⟨v, rfl, o⟩ := os.one G
  have P2 := P.keep E1 S1 t2
  obtain ⟨p1, vs1, g1, e1, hp1, w1, nd1, sub1, kk⟩ := wr_list (pr := pr) E2 S2 P2 et
  cases e1
  obtain ⟨f, of, ndf, zf⟩ := item_own o ei
  have dj : ∀ a ∈ f, a ∉ fp ∧ a ∉ xf := fun a m => ⟨fun q => (S1.off a q).2.2 (zf a m).1, fun q => (S1.xof a q).2.2 (zf a m).1⟩
  obtain ⟨fp', E3, S3, st, y⟩ := kk (vs1 ++ [v]) (ts ++ [t]) (g1 ++ f) (w1.snoc of) (List.nodup_append.mpr ⟨(List.nodup_cons.mp nd1).2, ndf, fun a m b m2 e => by subst e; exact (dj a m2).1 (sub1 a (List.mem_cons_of_mem _ m))⟩) fun a m => by
    rcases List.mem_append.mp m with m | m
    · have mf := sub1 a (List.mem_cons_of_mem _ m)
      exact ⟨.inl m, (S2.off a mf).1, (S2.off a mf).2.1⟩
    · exact ⟨.inr (dj a m), (zf a m).2⟩
  refine ⟨p0, vs1, v, rfl, rfl, hp1, by rw [← sizeL_eq, w1.len]; exact hl, nx _ hn σ W2 _ fp' xf ⟨((t1.tr0 t2).up).trans st fun a m => .inl m, E3, S3, fun a m => ?_, fun _ _ => rfl⟩⟩
  rcases y a m with q | q
  · exact .inl q
  · rcases List.mem_append.mp q with q | q
    · exact .inl (sub1 a (List.mem_cons_of_mem _ q))
    · refine .inr ?_
      cases q2 : H a with
      | none => rfl
      | some o => exact absurd (zf a q).1 (t1.al a (some_ne q2))
theorem ds_setI (ha : PE X a (LPl X.K pl)) (hk : PE X b (LP X.K mb)) (he : PE X c (LP X.K mc)) {p1 : Pos} (hs : swapsWithSole [.Subscript a b p1] c pos.line X.env = pure false := by rfl) (hw : swappedStores [.Subscript a b p1] c X.env = pure none := by rfl)
    (h1 : (assignEach [.Subscript a b p1] X.env).map (·.2) = [assign (.Subscript a b p1) X.env] := by rfl) (hg : ∀ (t1 t2 : TE), PE X a t1 → PE X b t2 → PG X (.Subscript a b p1) (gSub t1 t2 rSetL) := by exact fun _ _ x y => pg_sub x y set_list) :
    PS X (.Assign [.Subscript a b p1] c pos) (LS X.K ex pr (mSetI pl mb mc)) := ps_imp (ps_asg he (hg _ _ ha hk) hs hw h1) fun D σ H h => by
  obtain ⟨W, env, fp, xf, K0, E, S, hm, nx, bk, ct, rt⟩ := h
  refine LP.next E S hm fun r hr v W1 H1 t1 S1 E1 o => ?_
  refine LPl.next E1 S1 hr fun i p hq u W2 H2 t2 S2 E2 P => ?_
  refine LP.next E2 S2 hq fun rk hk v2 W3 H3 t3 S3 E3 o2 => ?_
  split at hk
  · rename_i n
    obtain ⟨ts, j, t, ei, et, ej, hn⟩ := hk
    have P3 := P.keep E2 S2 t3
    have o3 := (o.keep t2 (t2.le S1 fun _ m => by cases m)).keep t3 (t3.le S2 fun _ m => by cases m)
    obtain ⟨p1, vs1, g1, rfl, hp1, w1, nd1, sub1, kk⟩ := wr_list (pr := pr) E3 S3 P3 et
    obtain ⟨f, of, ndf, zf⟩ := item_own o3 ei
    have hj := ixN_lt ej
    obtain ⟨uj, fc, rest, ej2, oj, pj, kj⟩ := w1.split (List.getElem?_eq_getElem hj)
    have dj : ∀ a ∈ f, a ∉ fp ∧ a ∉ xf := fun a m => ⟨fun q => (S.off a q).2.2 (zf a m).1, fun q => (S.xof a q).2.2 (zf a m).1⟩
    obtain ⟨f', w2, p2⟩ := kj W3 H3 v t f (.refl _) (fun _ _ _ e => e) of
    have ng := (List.nodup_cons.mp nd1).2
    have nr : rest.Nodup := (List.nodup_append.mp (pj.nodup_iff.mp ng)).2.1
    have sr : ∀ a ∈ rest, a ∈ g1 := fun a m => pj.mem_iff.mpr (List.mem_append_right _ m)
    obtain ⟨fp', E4, S4, st, y⟩ := kk (vs1.set j v) (ts.set j t) f' w2 (p2.nodup_iff.mpr (List.nodup_append.mpr ⟨ndf, nr, fun a m b m2 e => by subst e; exact (dj a m).1 (sub1 a (List.mem_cons_of_mem _ (sr a m2)))⟩)) fun a m => by
      rcases List.mem_append.mp (p2.mem_iff.mp m) with m | m
      · exact ⟨.inr (dj a m), (zf a m).2⟩
      · have mf := sub1 a (List.mem_cons_of_mem _ (sr a m))
        exact ⟨.inl (sr a m), (S3.off a mf).1, (S3.off a mf).2.1⟩
    refine ⟨p1, vs1, n, j, rfl, int_of o2, hp1, by rw [show ixN vs1.length n = ixN' vs1.length n from rfl, w1.len]; exact ej, nx _ hn σ W3 _ fp' xf ⟨(((t1.tr0 t2).tr0 t3).up).trans st fun a m => .inl m, E4, S4, fun a m => ?_, fun _ _ => rfl⟩⟩
    rcases y a m with q | q
    · exact .inl q
    · rcases List.mem_append.mp (p2.mem_iff.mp q) with q | q
      · exact .inr (zf a q).1
      · exact .inl (sub1 a (List.mem_cons_of_mem _ (sr a q)))
  · exact hk.elim
theorem ds_setVol (ha : PE X a (LP X.K ma)) (hk : PE X b (LP X.K mb)) (he : PE X c (LP X.K mc)) {p1 : Pos} (hs : swapsWithSole [.Subscript a b p1] c pos.line X.env = pure false := by rfl) (hw : swappedStores [.Subscript a b p1] c X.env = pure none := by rfl)
    (h1 : (assignEach [.Subscript a b p1] X.env).map (·.2) = [assign (.Subscript a b p1) X.env] := by rfl) (hg : ∀ (t1 t2 : TE), PE X a t1 → PE X b t2 → PG X (.Subscript a b p1) (gSub t1 t2 rSetL) := by exact fun _ _ x y => pg_sub x y set_list) :
    PS X (.Assign [.Subscript a b p1] c pos) (LS X.K ex pr (mSetVol ma mb mc)) := ps_imp (ps_asg he (hg _ _ ha hk) hs hw h1) fun D σ H h => by
  obtain ⟨W, env, fp, xf, K0, E, S, hm, nx, bk, ct, rt⟩ := h
  refine LP.next E S hm fun r hr v W1 H1 t1 S1 E1 o => ?_
  split at hr
  · rename_i n0
    refine LP.next E1 S1 hr fun r2 hr2 v2 W2 H2 t2 S2 E2 o2 => ?_
    split at hr2
    · rename_i ps
      refine LP.next E2 S2 hr2 fun r3 hr3 v3 W3 H3 t3 S3 E3 o3 => ?_
      split at hr3
      · rename_i n
        obtain ⟨h0, h3, hn⟩ := hr3
        have o2' : Rep X.K W3 v2 (.vol 0 ps) := Rep.mono (t3.le S2 fun _ m => by cases m) o2
        cases o2' with
        | vol s =>
          rename_i p0
          obtain ⟨gn, ob, hp0, x, y, z, e⟩ := S3.vol _ _ _ s
          subst e
          have ev : v = .int n0 := int_of o
          have ej : ∃ j : Nat, ixN 3 n = some j ∧ ∃ x' y' z' : Int, ([V.int x, .int y, .int z] : List V).set j v = [.int x', .int y', .int z'] := by
            have hi : n = 0 ∨ n = 1 ∨ n = 2 := by omega
            rw [ev]
            rcases hi with rfl | rfl | rfl
            · exact ⟨0, rfl, n0, y, z, rfl⟩
            · exact ⟨1, rfl, x, n0, z, rfl⟩
            · exact ⟨2, rfl, x, y, n0, rfl⟩
          obtain ⟨j, ej1, x', y', z', ej2⟩ := ej
          have ne : ∀ a, W3.S a = none → a ≠ p0 := fun a q e => by rw [e, s] at q; cases q
          have up : ∀ a, W3.S a = none → ∀ o, H3 a = some o → upd H3 p0 (.lst ([V.int x, .int y, .int z].set j v)) a = some o := fun a q o e => (upd_ne (ne a q)).trans e
          have al : ∀ a, H3 a ≠ none → upd H3 p0 (.lst ([V.int x, .int y, .int z].set j v)) a ≠ none := fun a n => by
            by_cases q : a = p0
            · rw [q, upd_same]; exact fun z => nomatch z
            · rw [upd_ne q]; exact n
          refine ⟨p0, _, n, j, rfl, int_of o3, hp0, ej1, nx _ hn σ W3 _ fp xf ⟨?_, E3.mono (.refl _) fun a m o e => up a (m.elim (fun q => (S3.off a q).2.1) fun q => (S3.xof a q).2.1) o e, ⟨fun a o e => ?_, ⟨fun a k ps e => ?_, fun p q e => let ⟨x, cs, y⟩ := S3.vol.tb p q e; ⟨x, cs, (upd_ne (fun z => by rw [z, s] at x; cases x)).trans y⟩⟩, S3.nd, fun a m => ⟨(S3.off a m).1, (S3.off a m).2.1, al a (S3.off a m).2.2⟩, fun a m => ⟨(S3.xof a m).1, (S3.xof a m).2.1, al a (S3.xof a m).2.2⟩⟩, fun a m => .inl m, fun _ _ => rfl⟩⟩
          · refine (((t1.tr0 t2).tr0 t3).trans (f1 := []) ⟨fun _ _ _ => ⟨rfl, rfl⟩, fun a o e _ s => up a s o e, al⟩ fun _ m => by cases m).up
          · exact (upd_ne (fun q => by rw [q, gn] at e; cases e)).trans (S3.sub a o e)
          · obtain ⟨g1, ob, g2, g3⟩ := S3.vol a k ps e
            by_cases q : a = p0
            · subst q
              rw [s] at e
              cases e
              exact ⟨g1, _, upd_same, x', y', z', congrArg HO.lst ej2⟩
            · exact ⟨g1, ob, (upd_ne q).trans g2, g3⟩
      · exact hr3.elim
    · exact hr2.elim
  · exact hr.elim
theorem dp_src (ha : PE X a (LP X.K ma)) : PE X a (LP X.K (mSrc ma)) := pe_imp ha fun σ H Q h => by
  obtain ⟨W, env, fp, xf, Q0, E, S, hm, k⟩ := h
  refine LP.next E S hm fun r hr v W1 H1 t1 S1 E1 o => ?_
  split at hr
  · obtain ⟨f, ow, nd, z⟩ := o
    cases ow with
    | @lst p vs _ g hp w =>
      obtain ⟨hn, g1, s1⟩ := z p List.mem_cons_self
      have ev : ∃ x y z : Int, vs = [.int x, .int y, .int z] := by
        cases w with
        | cons a1 w1 =>
          cases w1 with
          | cons a2 w2 =>
            cases w2 with
            | cons a3 w3 =>
              cases w3
              cases a1 with | leaf a1 => cases a1; cases a2 with | leaf a2 => cases a2; cases a3 with | leaf a3 => cases a3; exact ⟨_, _, _, rfl⟩
      obtain ⟨x, y, zz, rfl⟩ := ev
      have np : ∀ a, W1.S a = none ∨ True := fun _ => .inr trivial
      refine k _ hr _ ⟨W1.G, fun a => if a = p then some (0, []) else W1.S a⟩ H1 ⟨fun a h m => ?_, t1.kp, t1.al⟩ ⟨S1.sub, ⟨fun a kk ps e => ?_, fun p' q e => let ⟨x, y⟩ := S1.vol.tb p' q e; ⟨(if_neg (fun z => by rw [z, s1] at x; cases x)).trans x, y⟩⟩, S1.nd, fun a m => ?_, fun a m => ?_⟩ (.vol (if_pos rfl))
      · have q : a ≠ p := fun q => h (by rw [q]; exact hn)
        exact ⟨(t1.wx a h m).1, (if_neg q).trans (t1.wx a h m).2⟩
      · have l : W1.Le ⟨W1.G, fun a => if a = p then some (0, []) else W1.S a⟩ := ⟨fun _ _ e => e, fun a k e => by
          have q : a ≠ p := fun q => by rw [q, s1] at e; cases e
          exact (if_neg q).trans e⟩
        have e : (if a = p then some (0, []) else W1.S a) = some (kk, ps) := e
        by_cases q : a = p
        · rw [if_pos q] at e
          cases e
          rw [q]
          exact ⟨g1, _, hp, x, y, zz, rfl⟩
        · rw [if_neg q] at e
          obtain ⟨x1, ob, x2, x3⟩ := S1.vol a kk ps e
          exact ⟨x1, ob, x2, x3.mono fun _ _ w => w.mono l⟩
      · have q : a ≠ p := fun q => (S.off a m).2.2 (by rw [q]; exact hn)
        exact ⟨(S1.off a m).1, (if_neg q).trans (S1.off a m).2.1, (S1.off a m).2.2⟩
      · have q : a ≠ p := fun q => (S.xof a m).2.2 (by rw [q]; exact hn)
        exact ⟨(S1.xof a m).1, (if_neg q).trans (S1.xof a m).2.1, (S1.xof a m).2.2⟩
  · exact hr.elim
end
end R
namespace R
open PySem PySem.Spec PyProof.Rows L2
theorem pd_shape : ∀ {n : Nat} {d : D} {p : PyData}, d.pd n = some p → p.canLay0 = true ∧ p.depth ≤ n := by
  have key : ∀ {α : Type} (f : D → Option PyData) {n : Nat}, (∀ {d : D} {p : PyData}, f d = some p → p.canLay0 = true ∧ p.depth ≤ n) → ∀ {ds : List D} {ps : List PyData}, allOf f ds = some ps → PyData.canLayAll0 ps = true ∧ PyData.depthAll ps ≤ n := by
    intro α f n h ds
    induction ds with
    | nil => intro ps e; cases e; exact ⟨by rw [PyData.canLayAll0], by rw [PyData.depthAll]; omega⟩
    | cons d ds ih =>
      intro ps e
      rw [allOf] at e
      cases q : f d with
      | none => rw [q] at e; cases e
      | some p =>
        rw [q] at e
        cases q2 : allOf f ds with
        | none => rw [q2] at e; cases e
        | some qs =>
          rw [q2] at e
          cases e
          obtain ⟨a, b⟩ := h q
          obtain ⟨a2, b2⟩ := ih q2
          exact ⟨by rw [PyData.canLayAll0, a, a2] <;> rfl, by rw [PyData.depthAll]; omega⟩
  intro n
  induction n with
  | zero =>
    intro d p e
    cases d with
    | non => cases e; exact ⟨by rw [PyData.canLay0], by rw [PyData.depth]; omega⟩
    | bl b => cases e; exact ⟨by rw [PyData.canLay0], by rw [PyData.depth]; omega⟩
    | int b => cases e; exact ⟨by rw [PyData.canLay0], by rw [PyData.depth]; omega⟩
    | str x =>
      have e : (if PyData.strOk x = true then some (PyData.str x) else none) = some p := e
      by_cases h : PyData.strOk x = true
      · rw [if_pos h] at e; cases e; exact ⟨by rw [PyData.canLay0]; exact h, by rw [PyData.depth]; omega⟩
      · rw [if_neg h] at e; cases e
    | lst _ => cases e
    | tup _ => cases e
    | rol _ => cases e
    | ins _ _ _ => cases e
    | vol _ _ => cases e
    | dct _ _ => cases e
    | any => cases e
    | adr _ => cases e
    | cod _ => cases e
    | obj _ _ => cases e
    | exn _ => cases e
  | succ n ih =>
    intro d p e
    cases d with
    | non => cases e; exact ⟨by rw [PyData.canLay0], by rw [PyData.depth]; omega⟩
    | bl b => cases e; exact ⟨by rw [PyData.canLay0], by rw [PyData.depth]; omega⟩
    | int b => cases e; exact ⟨by rw [PyData.canLay0], by rw [PyData.depth]; omega⟩
    | str x =>
      have e : (if PyData.strOk x = true then some (PyData.str x) else none) = some p := e
      by_cases h : PyData.strOk x = true
      · rw [if_pos h] at e; cases e; exact ⟨by rw [PyData.canLay0]; exact h, by rw [PyData.depth]; omega⟩
      · rw [if_neg h] at e; cases e
    | lst ds =>
      have e : (allOf (D.pd n) ds).map .list = some p := e
      cases q : allOf (D.pd n) ds with
      | none => rw [q] at e; cases e
      | some ps =>
        rw [q] at e
        cases e
        obtain ⟨a, b⟩ := key (α := Nat) _ ih q
        exact ⟨by rw [PyData.canLay0]; exact a, by rw [PyData.depth]; omega⟩
    | tup ds =>
      have e : (allOf (D.pd n) ds).map .tuple = some p := e
      cases q : allOf (D.pd n) ds with
      | none => rw [q] at e; cases e
      | some ps =>
        rw [q] at e
        cases e
        obtain ⟨a, b⟩ := key (α := Nat) _ ih q
        exact ⟨by rw [PyData.canLay0]; exact a, by rw [PyData.depth]; omega⟩
    | rol ds =>
      have e : (allOf (D.pd n) ds).map .list = some p := e
      cases q : allOf (D.pd n) ds with
      | none => rw [q] at e; cases e
      | some ps =>
        rw [q] at e
        cases e
        obtain ⟨a, b⟩ := key (α := Nat) _ ih q
        exact ⟨by rw [PyData.canLay0]; exact a, by rw [PyData.depth]; omega⟩
    | ins _ _ _ => cases e
    | vol _ _ => cases e
    | dct _ _ => cases e
    | any => cases e
    | adr _ => cases e
    | cod _ => cases e
    | obj _ _ => cases e
    | exn _ => cases e
section
variable {K : PySem.W.Frag} {W : Wd} {H : Hp}
theorem rep_dp (sub : ∀ a o, W.G a = some o → H a = some o) : ∀ {n : Nat} {v : V} {d : D} {p : PyData}, Rep K W v d → d.pd n = some p → Dp K H v p := by
  have key : ∀ (f : D → Option PyData), (∀ {v : V} {d : D} {p : PyData}, Rep K W v d → f d = some p → Dp K H v p) → ∀ {ds : List D} {vs : List V} {ps : List PyData}, RepAll K W vs ds → allOf f ds = some ps → DpAll K H vs ps := by
    intro f h ds
    induction ds with
    | nil => intro vs ps r e; cases r; cases e; exact .nil
    | cons d ds ih =>
      intro vs ps r e
      rw [allOf] at e
      cases q : f d with
      | none => rw [q] at e; cases e
      | some p =>
        rw [q] at e
        cases q2 : allOf f ds with
        | none => rw [q2] at e; cases e
        | some qs =>
          rw [q2] at e
          cases e
          cases r with
          | cons a b => exact .cons (h a q) (ih b q2)
  have sc : ∀ {n : Nat} {v : V} {x : Str} {p : PyData}, Rep K W v (.str x) → (D.str x).pd n = some p → Dp K H v p := by
    intro n v x p r e
    have e : (if PyData.strOk x = true then some (PyData.str x) else none) = some p := by cases n <;> exact e
    by_cases h : PyData.strOk x = true
    · rw [if_pos h] at e; cases e; cases r; exact .str x
    · rw [if_neg h] at e; cases e
  intro n
  induction n with
  | zero =>
    intro v d p r e
    cases r with
    | non => cases e; exact .non
    | bl b => cases e; exact .bl b
    | int b => cases e; exact .int b
    | str x => exact sc (n := 0) (.str x) e
    | lst _ _ => cases e
    | tup _ _ => cases e
    | rol _ _ => cases e
    | ins _ _ => cases e
    | vol _ => cases e
    | dct _ _ => cases e
    | any _ => cases e
    | adr _ => cases e
    | cod _ => cases e
    | obj _ _ => cases e
  | succ n ih =>
    intro v d p r e
    cases r with
    | non => cases e; exact .non
    | bl b => cases e; exact .bl b
    | int b => cases e; exact .int b
    | str x => exact sc (n := n + 1) (.str x) e
    | @lst a xs ds g r =>
      have e : (allOf (D.pd n) ds).map .list = some p := e
      cases q : allOf (D.pd n) ds with
      | none => rw [q] at e; cases e
      | some ps => rw [q] at e; cases e; exact .lst (.of (sub _ _ g)) (key _ ih r q)
    | @tup a xs ds g r =>
      have e : (allOf (D.pd n) ds).map .tuple = some p := e
      cases q : allOf (D.pd n) ds with
      | none => rw [q] at e; cases e
      | some ps => rw [q] at e; cases e; exact .tup (.of (sub _ _ g)) (key _ ih r q)
    | @rol a xs ds g r =>
      have e : (allOf (D.pd n) ds).map .list = some p := e
      cases q : allOf (D.pd n) ds with
      | none => rw [q] at e; cases e
      | some ps => rw [q] at e; cases e; exact .lst (SqL.mono sub g) (key _ ih r q)
    | ins _ _ => cases e
    | vol _ => cases e
    | dct _ _ => cases e
    | any _ => cases e
    | adr _ => cases e
    | cod _ => cases e
    | obj _ _ => cases e
theorem own_dp (sub : ∀ a o, W.G a = some o → H a = some o) : ∀ {n : Nat} {v : V} {t : OT} {f : List Addr} {p : PyData}, Own K W H v t f → t.pd n = some p → Dp K H v p ∧ p.canLay0 = true ∧ p.depth ≤ n := by
  have key : ∀ (g : OT → Option PyData) (n : Nat), (∀ {v : V} {t : OT} {f : List Addr} {p : PyData}, Own K W H v t f → g t = some p → Dp K H v p ∧ p.canLay0 = true ∧ p.depth ≤ n) → ∀ {ts : List OT} {vs : List V} {f : List Addr} {ps : List PyData}, OwnAll K W H vs ts f → allOfT g ts = some ps →
      DpAll K H vs ps ∧ PyData.canLayAll0 ps = true ∧ PyData.depthAll ps ≤ n := by
    intro g n h ts
    induction ts with
    | nil => intro vs f ps r e; cases r; cases e; exact ⟨.nil, by rw [PyData.canLayAll0], by rw [PyData.depthAll]; omega⟩
    | cons d ds ih =>
      intro vs f ps r e
      rw [allOfT] at e
      cases q : g d with
      | none => rw [q] at e; cases e
      | some p =>
        rw [q] at e
        cases q2 : allOfT g ds with
        | none => rw [q2] at e; cases e
        | some qs =>
          rw [q2] at e
          cases e
          cases r with
          | cons a b =>
            obtain ⟨x1, x2, x3⟩ := h a q
            obtain ⟨y1, y2, y3⟩ := ih b q2
            exact ⟨.cons x1 y1, by rw [PyData.canLayAll0, x2, y2] <;> rfl, by rw [PyData.depthAll]; omega⟩
  have lf : ∀ {n : Nat} {v : V} {d : D} {p : PyData}, Rep K W v d → (OT.leaf d).pd n = some p → Dp K H v p ∧ p.canLay0 = true ∧ p.depth ≤ n := fun {n} {v} {d} {p} r e => by
    have e : d.pd n = some p := by cases n <;> exact e
    exact ⟨rep_dp sub r e, pd_shape e⟩
  intro n
  induction n with
  | zero =>
    intro v t f p o e
    cases o with
    | leaf r => exact lf (n := 0) r e
    | lst _ _ => cases e
    | tup _ _ => cases e
    | ins _ _ => cases e
    | d0 _ => cases e
    | xo _ => cases e
    | dk _ _ => cases e
  | succ n ih =>
    intro v t f p o e
    cases o with
    | leaf r => exact lf (n := n + 1) r e
    | @lst a xs ts f g r =>
      have e : (allOfT (OT.pd n) ts).map .list = some p := e
      cases q : allOfT (OT.pd n) ts with
      | none => rw [q] at e; cases e
      | some ps =>
        rw [q] at e
        cases e
        obtain ⟨x1, x2, x3⟩ := key _ n ih r q
        exact ⟨.lst (.of g) x1, by rw [PyData.canLay0]; exact x2, by rw [PyData.depth]; omega⟩
    | @tup a xs ts f g r =>
      have e : (allOfT (OT.pd n) ts).map .tuple = some p := e
      cases q : allOfT (OT.pd n) ts with
      | none => rw [q] at e; cases e
      | some ps =>
        rw [q] at e
        cases e
        obtain ⟨x1, x2, x3⟩ := key _ n ih r q
        exact ⟨.tup (.of g) x1, by rw [PyData.canLay0]; exact x2, by rw [PyData.depth]; omega⟩
    | ins _ _ => cases e
    | d0 _ => cases e
    | xo _ => cases e
    | dk _ _ => cases e
theorem shaped8 {p : PyData} (h : p.canLay0 = true ∧ p.depth ≤ 8) : SeqAt.shaped p = true := by
  unfold SeqAt.shaped
  rw [h.1, decide_eq_true (show p.depth ≤ 64 by omega)] <;> rfl
end
section
variable {X : Cx} {a b c : Expr} {ma mb mc : DE} {pos : Pos}
theorem I_eq {σ : L2.St} {H : Hp} {Q : VK} (h : LP X.K (mOp (oEq false) ma mb) σ H Q) : tOp (rEqD X.K) (LP X.K ma) (LP X.K mb) σ H Q := h.two fun W fp xf Q0 r1 r2 v1 v2 W2 H2 hr O o1 o2 => by
  obtain ⟨p, q, e1, e2, hq⟩ := hr
  obtain ⟨f1, w1⟩ := o1.own
  obtain ⟨f2, w2⟩ := o2.own
  obtain ⟨x1, y1⟩ := own_dp O.S2.sub w1 e1
  obtain ⟨x2, y2⟩ := own_dp O.S2.sub w2 e2
  refine ⟨p, q, x1, x2, shaped8 y1, shaped8 y2, O.fin hq ?_⟩
  rw [Bool.bne_false]
  exact .bl _
theorem I_ne {σ : L2.St} {H : Hp} {Q : VK} (h : LP X.K (mOp (oEq true) ma mb) σ H Q) : tOp (rNeD X.K) (LP X.K ma) (LP X.K mb) σ H Q := h.two fun W fp xf Q0 r1 r2 v1 v2 W2 H2 hr O o1 o2 => by
  obtain ⟨p, q, e1, e2, hq⟩ := hr
  obtain ⟨f1, w1⟩ := o1.own
  obtain ⟨f2, w2⟩ := o2.own
  obtain ⟨x1, y1⟩ := own_dp O.S2.sub w1 e1
  obtain ⟨x2, y2⟩ := own_dp O.S2.sub w2 e2
  refine ⟨p, q, x1, x2, shaped8 y1, shaped8 y2, O.fin hq ?_⟩
  rw [Bool.bne_true]
  exact .bl _
theorem dp_eq (hu : X.A.units + 64 < cLine) (ha : PE X a (LP X.K ma)) (hb : PE X b (LP X.K mb)) : PE X (.Compare a [.Eq] [b] pos) (LP X.K (mOp (oEq false) ma mb)) := pe_imp (pe_cmpR (op_eqD hu) ha hb (nomark _)) fun _ _ _ h => I_eq h
theorem dp_ne (hu : X.A.units + 64 < cLine) (ha : PE X a (LP X.K ma)) (hb : PE X b (LP X.K mb)) : PE X (.Compare a [.NotEq] [b] pos) (LP X.K (mOp (oEq true) ma mb)) := pe_imp (pe_cmpR (op_neD hu) ha hb (nomark _)) fun _ _ _ h => I_ne h
theorem dt_eq (hu : X.A.units + 64 < cLine) (ha : PE X a (LP X.K ma)) (hb : PE X b (LP X.K mb)) : PT X (.Compare a [.Eq] [b] pos) (LT X.K (mT (mOp (oEq false) ma mb))) := dt_of (op_eqD hu) (fun _ _ _ h => I_eq h) ha hb (nomark _)
theorem dt_ne (hu : X.A.units + 64 < cLine) (ha : PE X a (LP X.K ma)) (hb : PE X b (LP X.K mb)) : PT X (.Compare a [.NotEq] [b] pos) (LT X.K (mT (mOp (oEq true) ma mb))) := dt_of (op_neD hu) (fun _ _ _ h => I_ne h) ha hb (nomark _)
end
end R
namespace R
open PySem PySem.Spec PyProof.Rows L2
def mCh (f g : Int → Int → Bool) (a b c : DE) : DE := fun env Q => a env fun x => b env fun y => ∃ i j, x.ffz = .fz (.int i) ∧ y.ffz = .fz (.int j) ∧
  if f i j = true then c env fun z => ∃ k, z.ffz = .fz (.int k) ∧ Q (.fz (.bl (g j k))) else Q (.fz (.bl false))
def bLt : Int → Int → Bool := fun i j => decide (i < j)
def bLe : Int → Int → Bool := fun i j => decide (i ≤ j)
def bGt : Int → Int → Bool := fun i j => decide (j < i)
def bGe : Int → Int → Bool := fun i j => decide (j ≤ i)
def OT.ty : OT → Option String
  | .leaf .non => some "NoneType"
  | .leaf (.bl _) => some "bool"
  | .leaf (.int _) => some "int"
  | .leaf (.str _) => some "str"
  | .leaf (.lst _) => some "list"
  | .leaf (.tup _) => some "tuple"
  | .leaf (.dct _ _) => some "dict"
  | .lst _ => some "list"
  | .tup _ => some "tuple"
  | _ => none
def isTy (a b : String) : Bool := a == b || (a == "bool" && b == "int")
def oIs (T : String) (r : Rs) (Q : Rs → Prop) : Prop := ∃ n, r.t.ty = some n ∧ Q (.fz (.bl (isTy n T)))
def mD0 : DE := fun _ Q => Q (.nw .d0)
def mSetP (C : Nat) (f : Str) (a : DP) (e : DE) : DS := fun env D => e env fun r => a env fun i p => ∃ t ks ts, r.item = some t ∧ tree env i p = some (.ins C ks ts) ∧ ks.length < 1000 ∧ ks.length = ts.length ∧ D.nx (put env i p (.ins C (putK f t ks ts).1 (putK f t ks ts).2))
section
variable {X : Cx} {tg a b c : Expr} {ma mb mc : DE} {pos : Pos} {ta tb : DT} {st : Stmt} {rest s1 s2 : List Stmt} {m m1 m2 : DS} {pr : List Nat} {pl : DP} {x : Str} {C : Addr} {es : List Expr}
theorem dp_globI {n : Int} (hm : ∃ t, X.mg x = some (.int n t)) (hg : Gl X x := by rfl) (hd : (x == ("__debug__" : Str)) = false := by decide) : PE X (.Name x pos) (LP X.K (mC (.int n))) := by
  obtain ⟨t, e⟩ := hm
  exact dp_glob hg e (v := .int n) ⟨t, rfl⟩ (fun _ => .int n) hd
theorem dp_globS {z : Str} (hm : ∃ t, X.mg x = some (.str z t)) (hg : Gl X x := by rfl) (hd : (x == ("__debug__" : Str)) = false := by decide) : PE X (.Name x pos) (LP X.K (mC (.str z))) := by
  obtain ⟨t, e⟩ := hm
  exact dp_glob hg e (v := .str z) ⟨t, rfl⟩ (fun _ => .str z) hd
structure CmpI (X : Cx) (op : CmpOp) (f : Int → Int → Bool) : Prop where
  o : OpR X (compareOp op) (rI0 fun i j => .bl (f i j))
theorem I_le : CmpI X .LtE bLe := ⟨op_le⟩
theorem ffz_int {r : Rs} {i : Int} {K : PySem.W.Frag} {H : Hp} {fp xf : List Addr} {W W' : Wd} {H' : Hp} {v : V} (h : r.ffz = .fz (.int i)) (S : Sat K W H fp xf) (t : Stp W H [] W' H') (S' : Sat K W' H' fp xf) (o : ResOk K H fp W' H' v r) : v = .int i := by
  obtain ⟨W2, _, _, _, o2⟩ := ffz_ok S t S' o
  rw [h] at o2
  exact int_of o2
theorem I_ch {f g : Int → Int → Bool} {σ : L2.St} {H : Hp} {Q : VK} (h : LP X.K (mCh f g ma mb mc) σ H Q) : tChain (rI0 fun i j => .bl (f i j)) (rI0 fun i j => .bl (g i j)) (LP X.K ma) (LP X.K mb) (LP X.K mc) σ H Q := by
  obtain ⟨W, env, fp, xf, Q0, E, S, hm, k⟩ := h
  refine LP.next E S hm fun r1 h1 v1 W1 H1 t1 S1 E1 o1 => ?_
  refine LP.next E1 S1 h1 fun r2 h2 v2 W2 H2 t2 S2 E2 o2 => ?_
  obtain ⟨i, j, ei, ej, h3⟩ := h2
  have e1 := ffz_int ei S t1 S1 o1
  have e2 := ffz_int ej S1 t2 S2 o2
  refine ⟨i, j, e1, e2, f i j, rfl, ?_⟩
  by_cases q : f i j = true
  · rw [if_pos q] at h3
    rw [if_pos q]
    refine LP.next E2 S2 h3 fun r3 h4 v3 W3 H3 t3 S3 E3 o3 => ?_
    obtain ⟨l, el, hq⟩ := h4
    exact ⟨j, l, e2, ffz_int el S2 t3 S3 o3, k _ hq _ W3 H3 ((t1.tr0 t2).tr0 t3) S3 (Rep.bl _)⟩
  · rw [if_neg q] at h3
    rw [if_neg q]
    exact k _ h3 _ W2 H2 (t1.tr0 t2) S2 (Rep.bl _)
theorem dp_chain {op op' : CmpOp} {f g : Int → Int → Bool} (h1 : CmpI X op f) (h2 : CmpI X op' g) (ha : PE X a (LP X.K ma)) (hb : PE X b (LP X.K mb)) (hc : PE X c (LP X.K mc)) (hm : lastMarks [op, op'] [b, c] = false := by with_unfolding_all rfl) :
    PE X (.Compare a [op, op'] [b, c] pos) (LP X.K (mCh f g ma mb mc)) := pe_imp (pe_chain h1.o h2.o ha hb hc hm) fun _ _ _ h => I_ch h
theorem dt_chain {op op' : CmpOp} {f g : Int → Int → Bool} (h1 : CmpI X op f) (h2 : CmpI X op' g) (ha : PE X a (LP X.K ma)) (hb : PE X b (LP X.K mb)) (hc : PE X c (LP X.K mc)) (hm : lastMarks [op, op'] [b, c] = false := by with_unfolding_all rfl) :
    PT X (.Compare a [op, op'] [b, c] pos) (LT X.K (mT (mCh f g ma mb mc))) := pt_imp (pt_chain h1.o h2.o ha hb hc hm) fun _ _ _ h => I_ch (lt_lp h)
theorem isTy_ok {n T : String} (hn : n ∈ ["NoneType", "bool", "int", "str", "list", "tuple", "dict"]) (hT : T ∈ ["bool", "int", "str", "list", "tuple", "dict"]) : kitB n T = some (isTy n T) := by
  have key : ∀ n ∈ ["NoneType", "bool", "int", "str", "list", "tuple", "dict"], ∀ T ∈ ["bool", "int", "str", "list", "tuple", "dict"], kitB n T = some (isTy n T) := by decide +kernel
  exact key n hn T hT
theorem ty_ok {K : PySem.W.Frag} {H : Hp} {fp xf : List Addr} {W' : Wd} {H' : Hp} {v : V} {r : Rs} {n : String} (h : r.t.ty = some n) (S' : Sat K W' H' fp xf) (o : ResOk K H fp W' H' v r) : TyX K H' v (.type n) ∧ n ∈ ["NoneType", "bool", "int", "str", "list", "tuple", "dict"] := by
  have lf : ∀ {d : D}, Rep K W' v d → (OT.leaf d).ty = some n → TyX K H' v (.type n) ∧ n ∈ ["NoneType", "bool", "int", "str", "list", "tuple", "dict"] := by
    intro d q h
    cases q with
    | non => cases h; exact ⟨.base .non, by decide⟩
    | bl _ => cases h; exact ⟨.base (.bl _), by decide⟩
    | int _ => cases h; exact ⟨.base (.int _), by decide⟩
    | str _ => cases h; exact ⟨.base (.str _), by decide⟩
    | lst g _ => cases h; exact ⟨.base (.lst (S'.sub _ _ g)), by decide⟩
    | tup g _ => cases h; exact ⟨.base (.tup (S'.sub _ _ g)), by decide⟩
    | rol _ _ => cases h
    | ins _ _ => cases h
    | vol _ => cases h
    | dct g _ => cases h; exact ⟨.base (.dK (S'.sub _ _ g)), by decide⟩
    | any _ => cases h
    | adr _ => cases h
    | cod _ => cases h
    | obj _ _ => cases h
  have ow : ∀ {t : OT} {f : List Addr}, Own K W' H' v t f → t.ty = some n → TyX K H' v (.type n) ∧ n ∈ ["NoneType", "bool", "int", "str", "list", "tuple", "dict"] := by
    intro t f q h
    cases q with
    | leaf q => exact lf q h
    | lst g _ => cases h; exact ⟨.base (.lst g), by decide⟩
    | tup g _ => cases h; exact ⟨.base (.tup g), by decide⟩
    | ins _ _ => cases h
    | d0 _ => cases h
    | xo _ => cases h
    | dk _ _ => cases h
  cases r with
  | fz d => exact lf o h
  | nw t => obtain ⟨f, o, _⟩ := o; exact ow o h
  | br t => obtain ⟨f, o, _⟩ := o; exact ow o h
  | ex t => obtain ⟨f, o, _⟩ := o; exact ow o h
theorem dp_is {T : Str} {n : String} {p p2 : Pos} (hm : X.mg "isinstance" = none) (hm2 : X.mg T = none) (hT : n ∈ ["bool", "int", "str", "list", "tuple", "dict"]) (hv : bootBuiltins T = some (.type n)) (ha : PE X a (LP X.K ma)) (hg : Gl X "isinstance" := by rfl) (hg2 : Gl X T := by rfl)
    (hn : T ≠ "__name__" := by decide) (hdb : (T == ("__debug__" : Str)) = false := by decide) (hs : starEach [a, .Name T p2] X.env = (false, eval a X.env) :: starEach [.Name T p2] X.env := by rfl) (hs2 : starEach [.Name T p2] X.env = (false, eval (.Name T p2) X.env) :: starEach [] X.env := by rfl)
    (hpl : (backTo pos (starEach [.Name T p2] X.env)).any (·.1) = false := by rfl) :
    PE X (.Call (.Name "isinstance" p) [a, .Name T p2] [] pos) (LP X.K (mUn (oIs n) ma)) :=
  pe_imp (pe_callB call_isi hg hm (by decide +kernel) (pa_cons ha (pa_cons (pe_bltn (v := .ty n) hg2 hm2 hv rfl hn hdb) pa_nil hs2) hs) (he := hs) (hpl := hpl)) fun σ H Q h => h.one fun W fp xf Q0 r v W2 H2 ⟨k, ek, q⟩ O o => by
    obtain ⟨t, hk⟩ := ty_ok ek O.S2 o
    exact ⟨v, .ty n, .type k, .type n, isTy k n, rfl, .ty n, t, kit_ty (isTy_ok hk hT), O.fin q (.bl _)⟩
structure IsC (K : PySem.W.Frag) (C : Addr) : Prop where
  cl : Cls K C
  ha : PySem.W.findIn K (.ref C) "__class__" = some (some (.builtin "object.__class__"))
  hn : PySem.W.specialIn K (.builtin "object.__class__") "__get__" = some (some (.builtin "getset_descriptor.__get__"))
  htk : PySem.W.takesIn K (.builtin "object.__class__") = some true
  hm : PySem.W.mroIn K C (.type "object") = some true
  eq : PySem.W.kitOne K (.ref C) (.ref C) = some true
  ne : PySem.W.findIn K (.ref C) "__ne__" = some (some (.builtin "object.__ne__"))
  no : ∀ t ∈ tyNs, PySem.W.kitOne K (.type t) (.ref C) = some false ∧ PySem.W.subIn K (.type t) (.ref C) = some false
end
end R
namespace R
open PySem PySem.Spec PyProof.Rows L2
def moveAll : Env → List Nat → Option (List OT × Env)
  | env, [] => some ([], env)
  | env, i :: is => match env[i]? with
    | some (some (.fz d)) => (moveAll env is).map fun p => (.leaf d :: p.1, p.2)
    | some (some (.nw t)) => (moveAll (env.set i none) is).map fun p => (t :: p.1, p.2)
    | _ => none
section
variable {K : PySem.W.Frag} {W W1 W2 W' : Wd} {H H1 H2 H' : Hp} {f f1 fp fp1 fp2 xf xf1 xf2 : List Addr} {σ σ1 σ2 : L2.St} {Q : VK} {r : Rs} {v : V} {env env1 env2 : Env}
theorem EnvOk.take {i : Nat} {t : OT} (E : EnvOk K W H σ env fp xf) (S : Sat K W H fp xf) (e : env[i]? = some (some (.nw t))) : ∃ v f fp' xf', σ[i]? = some (some v) ∧ Own K W H v t f ∧ EnvOk K W H σ (env.set i none) fp' xf' ∧ Sat K W H fp' xf' ∧ fp.Perm (f ++ fp') ∧ ∀ a ∈ xf', a ∈ xf := by
  obtain ⟨v, ev, _⟩ := E.get e S
  obtain ⟨f, fp1, xf1, E1, p1, x1, ow⟩ := E.clear i (some v)
  have es : σ.set i (some v) = σ := List.set_getElem_self_some ev
  rw [es] at E1
  have sp : Sat K W H (f ++ fp1) xf1 := S.perm p1.symm x1
  exact ⟨v, f, fp1, xf1, ev, ow t v e ev, E1, sp.less, p1, x1⟩
def VarsAt (σ : L2.St) : List Nat → List V → Prop
  | [], vs => vs = []
  | i :: is, vs => ∃ v us, vs = v :: us ∧ σ[i]? = some (some v) ∧ VarsAt σ is us
theorem move_ok : ∀ {is : List Nat} {env : Env} {fp xf : List Addr} {ts : List OT} {e : Env}, EnvOk K W H σ env fp xf → Sat K W H fp xf → moveAll env is = some (ts, e) →
    ∃ vs g fp' xf', VarsAt σ is vs ∧ OwnAll K W H vs ts g ∧ EnvOk K W H σ e fp' xf' ∧ Sat K W H fp' xf' ∧ fp.Perm (g ++ fp') ∧ ∀ a ∈ xf', a ∈ xf
  | [], env, fp, xf, ts, e, E, S, h => by
    cases h
    exact ⟨[], [], fp, xf, rfl, .nil, E, S, .refl _, fun _ m => m⟩
  | i :: is, env, fp, xf, ts, e, E, S, h => by
    rw [moveAll] at h
    split at h
    · rename_i d q
      obtain ⟨v, ev, _, od⟩ := E.get q S
      cases z : moveAll env is with
      | none => rw [z] at h; cases h
      | some p =>
        obtain ⟨ts2, e2⟩ := p
        rw [z] at h
        cases h
        obtain ⟨vs, g, fp', xf', a, b, c, d2, p, x⟩ := move_ok E S z
        exact ⟨v :: vs, g, fp', xf', ⟨v, vs, rfl, ev, a⟩, .cons (f := []) (.leaf (od d rfl)) b, c, d2, p, x⟩
    · rename_i t q
      obtain ⟨v, f, fp1, xf1, ev, ow, E1, S1, p1, x1⟩ := E.take S q
      cases z : moveAll (env.set i none) is with
      | none => rw [z] at h; cases h
      | some p =>
        obtain ⟨ts2, e2⟩ := p
        rw [z] at h
        cases h
        obtain ⟨vs, g, fp', xf', a, b, c, d2, p, x⟩ := move_ok E1 S1 z
        refine ⟨v :: vs, f ++ g, fp', xf', ⟨v, vs, rfl, ev, a⟩, .cons ow b, c, d2, ?_, fun a m => x1 a (x a m)⟩
        rw [List.append_assoc]
        exact p1.trans (p.append_left f)
    · cases h
theorem Post.move {pr : List Nat} {g fp' xf' : List Addr} (E : EnvOk K W H σ env1 fp' xf') (S : Sat K W H fp' xf') (p : fp.Perm (g ++ fp')) : Post K W H fp pr σ σ W H env1 fp' xf' :=
  ⟨.refl, E, S, fun a m => .inl (p.mem_iff.mpr (List.mem_append_right _ m)), fun _ _ => rfl⟩
end
section
variable {X : Cx} {tg a b c : Expr} {ma mb mc : DE} {pos : Pos} {ta tb : DT} {st : Stmt} {rest s1 s2 : List Stmt} {m m1 m2 : DS} {pr : List Nat} {pl : DP} {x : Str} {C : Addr} {es : List Expr}
theorem VarsAt.len {σ : L2.St} : ∀ {is : List Nat} {vs : List V}, VarsAt σ is vs → vs.length = is.length
  | [], _, h => by rw [show _ = [] from h] <;> rfl
  | i :: is, _, ⟨v, us, e, _, q⟩ => by rw [e, List.length_cons, List.length_cons, VarsAt.len q]
end
end R
namespace R
open PySem PySem.Spec PyProof.Rows L2
section
variable {K : PySem.W.Frag} {W W1 W2 W' : Wd} {H H1 H2 H' : Hp} {f f1 fp fp1 fp2 xf xf1 xf2 : List Addr} {σ σ1 σ2 : L2.St} {Q : VK} {r : Rs} {v : V} {env env1 env2 : Env}
theorem wr_ins {i : Nat} {js : List Nat} {u : V} {C : Nat} {ks : List Str} {ts : List OT} {σ : L2.St} {pr : List Nat} (E : EnvOk K W H σ env fp xf) (S : Sat K W H fp xf) (P : PlOk K W H σ env u i js) (ht : tree env i js = some (.ins C ks ts)) :
    ∃ (p dx : Addr) (fs : List (Str × V)) (g : List Addr), u = .ref p ∧ H p = some (.ins C dx fs) ∧ fs.map (·.1) = ks ∧ OwnAll K W H (fs.map (·.2)) ts g ∧ (p :: g).Nodup ∧ (∀ a ∈ p :: g, a ∈ fp) ∧
      ∀ (fs' : List (Str × V)) (ts' : List OT) (g' : List Addr), OwnAll K W H (fs'.map (·.2)) ts' g' → g'.Nodup → (∀ a ∈ g', (a ∈ g ∨ a ∉ fp ∧ a ∉ xf) ∧ W.G a = none ∧ W.S a = none) →
        ∃ fp', EnvOk K W (upd H p (.ins C dx fs')) σ (put env i js (.ins C (fs'.map (·.1)) ts')) fp' xf ∧ Sat K W (upd H p (.ins C dx fs')) fp' xf ∧ Stp W H fp W (upd H p (.ins C dx fs')) ∧ ∀ a ∈ fp', a ∈ fp ∨ a ∈ g' := by
  obtain ⟨fs0, rest, os, pm, k⟩ := place_ok E P ht
  cases os with
  | @ins p _ dx fs _ g hp w =>
    have nd := pm.nodup_iff.mp S.nd
    obtain ⟨n1, n2, n3⟩ := List.nodup_append.mp nd
    have mp : p ∈ fp := pm.mem_iff.mpr (List.mem_append_left _ List.mem_cons_self)
    obtain ⟨op1, op2, op3⟩ := S.off p mp
    refine ⟨p, dx, fs, g, rfl, hp, rfl, w, n1, fun a m => pm.mem_iff.mpr (List.mem_append_left _ m), fun vs' ts' g' w' nd' z' => ?_⟩
    have pg' : p ∉ g' := fun m => by
      rcases (z' p m).1 with q | q
      · exact (List.nodup_cons.mp n1).1 q
      · exact q.1 mp
    have ne : ∀ a, a ≠ p → ∀ o, H a = some o → upd H p (.ins C dx vs') a = some o := fun a n o e => (upd_ne n).trans e
    have ow' : Own K W (upd H p (.ins C dx vs')) (.ref p) (.ins C (vs'.map (·.1)) ts') (p :: g') := .ins upd_same (w'.mono (.refl _) fun a m o e => ne a (fun q => pg' (by rw [← q]; exact m)) o e)
    obtain ⟨fp', E', p'⟩ := k W (upd H p (.ins C dx vs')) (.ins C (vs'.map (·.1)) ts') (p :: g') (.refl _) (fun a m o e => ne a (fun q => by
      subst q
      rcases m with m | m
      · exact n3 a List.mem_cons_self a m rfl
      · exact (S.xof a m).1 mp) o e) ow'
    have al : ∀ a, H a ≠ none → upd H p (.ins C dx vs') a ≠ none := fun a n => by
      by_cases q : a = p
      · rw [q, upd_same]; exact fun z => nomatch z
      · rw [upd_ne q]; exact n
    have dj : ∀ a ∈ g', a ∉ rest := fun a m m2 => by
      rcases (z' a m).1 with q | q
      · exact n3 a (List.mem_cons_of_mem _ q) a m2 rfl
      · exact q.1 (pm.mem_iff.mpr (List.mem_append_right _ m2))
    have S0 := S.wr (o := .ins C dx vs') op1 op2
    refine ⟨fp', E', ⟨S0.sub, S0.vol, ?_, fun a m => ?_, fun a m => ⟨fun q => ?_, (S0.xof a m).2⟩⟩, ⟨fun _ _ _ => ⟨rfl, rfl⟩, fun a o e m s => ne a (fun q => m (by rw [q]; exact mp)) o e, al⟩, fun a m => ?_⟩
    · refine p'.nodup_iff.mpr (List.nodup_append.mpr ⟨List.nodup_cons.mpr ⟨pg', nd'⟩, n2, fun a m b m2 e => ?_⟩)
      subst e
      rcases List.mem_cons.mp m with q | q
      · subst q; exact n3 a List.mem_cons_self a m2 rfl
      · exact dj a q m2
    · rcases List.mem_append.mp (p'.mem_iff.mp m) with q | q
      · rcases List.mem_cons.mp q with q | q
        · subst q; exact ⟨op1, op2, al a op3⟩
        · exact ⟨(z' a q).2.1, (z' a q).2.2, al a (w'.alloc a q)⟩
      · exact S0.off a (pm.mem_iff.mpr (List.mem_append_right _ q))
    · rcases List.mem_append.mp (p'.mem_iff.mp q) with q | q
      · rcases List.mem_cons.mp q with q | q
        · subst q; exact (S.xof a m).1 mp
        · rcases (z' a q).1 with q | q
          · exact (S.xof a m).1 (pm.mem_iff.mpr (List.mem_append_left _ (List.mem_cons_of_mem _ q)))
          · exact q.2 m
      · exact (S.xof a m).1 (pm.mem_iff.mpr (List.mem_append_right _ q))
    · rcases List.mem_append.mp (p'.mem_iff.mp m) with q | q
      · rcases List.mem_cons.mp q with q | q
        · subst q; exact .inl mp
        · exact .inr q
      · exact .inl (pm.mem_iff.mpr (List.mem_append_right _ q))
theorem put_own {x : Str} {y : V} {t : OT} {f : List Addr} (o : Own K W H y t f) (nf : f.Nodup) : ∀ {fs : List (Str × V)} {ts : List OT} {g : List Addr}, OwnAll K W H (fs.map (·.2)) ts g → g.Nodup → (∀ a ∈ f, a ∉ g) →
    ∃ g', OwnAll K W H ((putF x y fs).map (·.2)) (R.putK x t (fs.map (·.1)) ts).2 g' ∧ (putF x y fs).map (·.1) = (R.putK x t (fs.map (·.1)) ts).1 ∧ g'.Nodup ∧ ∀ a ∈ g', a ∈ g ∨ a ∈ f
  | [], ts, g, w, ng, dj => by
    cases w
    refine ⟨f, ?_, rfl, nf, fun a m => .inr m⟩
    have h := OwnAll.cons o (.nil (K := K) (W := W) (H := H))
    rw [List.append_nil] at h
    exact h
  | (k, u) :: fs, ts, g, w, ng, dj => by
    cases w with
    | @cons _ _ t1 ts f1 g1 o1 w1 =>
      obtain ⟨n1, n2, n3⟩ := List.nodup_append.mp ng
      show ∃ g', OwnAll K W H ((if k = x then (k, y) :: fs else (k, u) :: putF x y fs).map (·.2)) (if k = x then (k :: fs.map (·.1), t :: ts) else (k :: (R.putK x t (fs.map (·.1)) ts).1, t1 :: (R.putK x t (fs.map (·.1)) ts).2)).2 g' ∧
        (if k = x then (k, y) :: fs else (k, u) :: putF x y fs).map (·.1) = (if k = x then (k :: fs.map (·.1), t :: ts) else (k :: (R.putK x t (fs.map (·.1)) ts).1, t1 :: (R.putK x t (fs.map (·.1)) ts).2)).1 ∧ g'.Nodup ∧ ∀ a ∈ g', a ∈ f1 ++ g1 ∨ a ∈ f
      by_cases q : k = x
      · rw [if_pos q, if_pos q]
        refine ⟨f ++ g1, .cons o w1, rfl, List.nodup_append.mpr ⟨nf, n2, fun a m b m2 e => ?_⟩, fun a m => ?_⟩
        · subst e; exact dj a m (List.mem_append_right _ m2)
        · exact (List.mem_append.mp m).elim .inr fun m => .inl (List.mem_append_right _ m)
      · rw [if_neg q, if_neg q]
        obtain ⟨g', a1, a2, a3, a4⟩ := put_own o nf w1 n2 fun a m m2 => dj a m (List.mem_append_right _ m2)
        refine ⟨f1 ++ g', .cons o1 a1, by rw [List.map_cons, a2], List.nodup_append.mpr ⟨n1, a3, fun a m b m2 e => ?_⟩, fun a m => ?_⟩
        · subst e
          rcases a4 a m2 with z | z
          · exact n3 a m a z rfl
          · exact dj a z (List.mem_append_left _ m)
        · rcases List.mem_append.mp m with m | m
          · exact .inl (List.mem_append_left _ m)
          · exact (a4 a m).imp (List.mem_append_right _) id
end
section
variable {X : Cx} {tg a b c : Expr} {ma mb mc : DE} {pos : Pos} {ta tb : DT} {st : Stmt} {rest s1 s2 : List Stmt} {m m1 m2 : DS} {pr : List Nat} {pl : DP} {x : Str} {C : Addr} {es : List Expr}
theorem ds_setF (cl : Cls X.K C) (na : NoAttr X.K C x) (ha : PE X a (LPl X.K pl)) (he : PE X c (LP X.K mc)) {p1 : Pos} (hs : swapsWith c (some (.Attribute a x p1)) pos.line X.env = pure false := by rfl) :
    PS X (.Assign [.Attribute a x p1] c pos) (LS X.K ex pr (mSetP C x pl mc)) := ps_imp (ps_fld ha he hs) fun D σ H h => by
  obtain ⟨W, env, fp, xf, K0, E, S, hm, nx, bk, ct, rt⟩ := h
  refine LP.next E S hm fun r hr v W1 H1 t1 S1 E1 o => ?_
  refine LPl.next E1 S1 hr fun i p ⟨t, ks, ts, ei, et, hl, hk, hn⟩ u W2 H2 t2 S2 E2 P => ?_
  have o2 := o.keep t2 (t2.le S1 fun _ m => by cases m)
  obtain ⟨p1, dx, fs, g1, rfl, hp1, rfl, w1, nd1, sub1, kk⟩ := wr_ins (pr := pr) E2 S2 P et
  obtain ⟨f, of, ndf, zf⟩ := item_own o2 ei
  have dj : ∀ a ∈ f, a ∉ fp ∧ a ∉ xf := fun a m => ⟨fun q => (S.off a q).2.2 (zf a m).1, fun q => (S.xof a q).2.2 (zf a m).1⟩
  obtain ⟨g', w2, ek, nd2, sub2⟩ := put_own (x := x) of ndf w1 (List.nodup_cons.mp nd1).2 fun a m m2 => (dj a m).1 (sub1 a (List.mem_cons_of_mem _ m2))
  obtain ⟨fp', E3, S3, st, y⟩ := kk (putF x v fs) _ g' w2 nd2 fun a m => by
    rcases sub2 a m with m | m
    · have mf := sub1 a (List.mem_cons_of_mem _ m)
      exact ⟨.inl m, (S2.off a mf).1, (S2.off a mf).2.1⟩
    · exact ⟨.inr (dj a m), (zf a m).2⟩
  rw [ek] at E3
  refine ⟨p1, C, dx, fs, rfl, hp1, cl, na, by rw [← List.length_map (f := (·.1))]; exact hl, nx _ hn σ W2 _ fp' xf ⟨((t1.tr0 t2).up).trans st fun a m => .inl m, E3, S3, fun a m => ?_, fun _ _ => rfl⟩⟩
  rcases y a m with q | q
  · exact .inl q
  · rcases sub2 a q with q | q
    · exact .inl (sub1 a (List.mem_cons_of_mem _ q))
    · exact .inr (zf a q).1
theorem own_erase {K : PySem.W.Frag} {W : Wd} {H : Hp} : ∀ {vs : List V} {ts : List OT} {g : List Addr} (j : Nat), OwnAll K W H vs ts g → ∃ g', OwnAll K W H (vs.eraseIdx j) (ts.eraseIdx j) g' ∧ g'.Sublist g
  | _, _, _, _, .nil => ⟨[], .nil, .refl _⟩
  | _, _, _, 0, .cons _ w => ⟨_, w, List.sublist_append_right _ _⟩
  | _, _, _, j + 1, .cons o w => let ⟨g', a, b⟩ := own_erase j w; ⟨_, .cons o a, List.Sublist.append_left b _⟩
theorem own_leaf {K : PySem.W.Frag} {W : Wd} {H : Hp} {d : D} : ∀ {vs : List V} {ts : List OT} {g : List Addr} {j : Nat}, OwnAll K W H vs ts g → ts[j]? = some (.leaf d) → ∃ v, vs[j]? = some v ∧ Rep K W v d
  | _, _, _, _, .nil, h => by simp at h
  | _, _, _, 0, .cons o _, h => by
    simp at h
    subst h
    cases o with | leaf q => exact ⟨_, rfl, q⟩
  | _, _, _, j + 1, .cons _ w, h => by
    obtain ⟨v, a, b⟩ := own_leaf (j := j) w (by simpa using h)
    exact ⟨v, by simpa using a, b⟩
theorem seqIx (n : Int) (l : Nat) : ixN' l n = seqIndex? n l := by
  unfold ixN' seqIndex?
  by_cases h : 0 ≤ n
  · rw [if_pos h]
    simp only [if_neg (show ¬ n < 0 by omega)]
    by_cases h2 : n < l
    · rw [if_pos h2]; simp [h, h2]
    · rw [if_neg h2]; simp [h2]
  · rw [if_neg h]
    simp only [if_pos (show n < 0 by omega)]
    by_cases h2 : -(l : Int) ≤ n
    · rw [if_pos h2]
      simp [show (0 : Int) ≤ n + l by omega, show n + (l : Int) < l by omega]
    · rw [if_neg h2]
      simp [show ¬ (0 : Int) ≤ n + l by omega]
end
end R
namespace R
open PySem PySem.Spec PyProof.Rows L2
structure MAt (K : PySem.W.Frag) (W : Wd) (σ : L2.St) (i : Nat) (C : Nat) (f : Str) (js : List Nat) (a : Addr) (k : Nat) (ps : List D) (keys : List Key) : Prop where
  o : ∃ (a0 dx : Addr) (fs : List (Str × V)), σ[i]? = some (some (.ref a0)) ∧ W.G a0 = some (.ins C dx fs) ∧ fs.lookup f = some (.ref a)
  s : W.S a = some (k + 1, ps)
  k : VarsAt σ js (keys.map kV)
section
variable {K : PySem.W.Frag} {W W1 W2 W' : Wd} {H H1 H2 H' : Hp} {f f1 fp fp1 fp2 xf xf1 xf2 : List Addr} {σ σ1 σ2 : L2.St} {Q : VK} {r : Rs} {v : V} {env env1 env2 : Env} {i C k : Nat} {fl : Str} {js : List Nat} {a : Addr} {ps : List D} {keys : List Key}
theorem VarsAt.same {σ' : L2.St} : ∀ {js : List Nat} {vs : List V}, VarsAt σ js vs → (∀ j ∈ js, σ'[j]? = σ[j]?) → VarsAt σ' js vs
  | [], _, h, _ => h
  | j :: js, _, ⟨v, us, e, ev, q⟩, h => ⟨v, us, e, by rw [h j List.mem_cons_self]; exact ev, q.same fun x m => h x (List.mem_cons_of_mem _ m)⟩
theorem MAt.keep (M : MAt K W σ i C fl js a k ps keys) (l : W.Le W') (hi : σ1[i]? = σ[i]?) (hj : ∀ j ∈ js, σ1[j]? = σ[j]?) : MAt K W' σ1 i C fl js a k ps keys := by
  obtain ⟨a0, dx, fs, e1, e2, e3⟩ := M.o
  exact ⟨⟨a0, dx, fs, by rw [hi]; exact e1, l.g _ _ e2, e3⟩, l.s _ _ M.s, M.k.same hj⟩
end
section
variable {X : Cx} {tg a b c o o1 o3 : Expr} {ma mb mc : DE} {pos p1 : Pos} {ta tb : DT} {st : Stmt} {rest s1 s2 : List Stmt} {m m1 m2 : DS} {pr pr0 : List Nat} {pl : DP} {x f : Str} {C : Addr} {es es1 es3 : List Expr} {i : Nat} {js : List Nat}
end
end R
namespace R
open PySem PySem.Spec PyProof.Rows L2
def pairR (x y : D) : Rs := .nw (.tup [.leaf x, .leaf y])
def enumR (ds : List D) : List Rs := (List.range ds.length).map fun (i : Nat) => pairR (.int (i : Int)) (ds.getD i .non)
def mItE (a : DE) : DI := fun env Q => a env fun r => ∃ ds, r.ffz.els true = some ds ∧ Q r.ffz.stays (enumR ds)
section
variable {K : PySem.W.Frag} {W W1 W2 W' : Wd} {H H1 H2 H' : Hp} {f f1 fp fp1 fp2 xf xf1 xf2 : List Addr} {σ σ1 σ2 : L2.St} {Q : VK} {r : Rs} {v : V} {env env1 env2 : Env}
theorem list_stay {ds : List D} (o : ResOk K H fp W1 H1 v r) (h : r.els true = some ds) (S1 : Sat K W1 H1 fp xf) : ∃ (p : Addr) (vs : List V), v = .ref p ∧ SqL K H1 p vs ∧ RepAll K W1 vs ds ∧
    ∀ f, (r.stays = true ∨ f = []) → (∀ a ∈ f, a ∈ fp) → ∀ W' H' fp' xf', Stp W1 H1 f W' H' → W1.Le W' → Sat K W' H' fp' xf' → SqL K H' p vs ∧ RepAll K W' vs ds := by
  unfold Rs.els at h
  split at h
  · cases h
    cases (show Rep K W1 v (.lst ds) from o) with
    | lst g w => exact ⟨_, _, rfl, .of (S1.sub _ _ g), w, fun f _ _ W' H' fp' xf' _ l S => ⟨.of (S.sub _ _ (l.g _ _ g)), w.mono l⟩⟩
  · cases h
  · have e := show leaves _ = some ds from h
    obtain ⟨f0, ow, z⟩ := o
    cases ow with
    | lst hp w =>
      refine ⟨_, _, rfl, .of hp, w.reps e, fun f hf hs W' H' fp' xf' t l S => ?_⟩
      have hf : f = [] := hf.resolve_left (by intro q; cases q)
      subst hf
      exact ⟨.of (t.kp _ _ hp (by simp) (z _ List.mem_cons_self)), (w.reps e).mono l⟩
  · have e := show leaves _ = some ds from h
    obtain ⟨f0, ow, z⟩ := o
    cases ow with
    | lst hp w => exact ⟨_, _, rfl, .of hp, w.reps e, fun f hf hs W' H' fp' xf' t l S => ⟨.of (t.kp _ _ hp (fun m => (z _ List.mem_cons_self).2 (hs _ m)) (z _ List.mem_cons_self).1), (w.reps e).mono l⟩⟩
  · cases h
  · cases h
  · cases h
theorem RepAll.get {W : Wd} : ∀ {vs : List V} {ds : List D} {i : Nat} {u : V}, RepAll K W vs ds → vs[i]? = some u → Rep K W u (ds.getD i .non)
  | _, _, _, _, .nil, h => by simp at h
  | _, _, 0, _, .cons a _, h => by simp at h; subst h; exact a
  | _ :: vs0, _ :: ds0, i + 1, u, .cons _ b, h => by
    have h2 : vs0[i]? = some u := by simpa using h
    exact RepAll.get (vs := vs0) (ds := ds0) (i := i) b h2
theorem pair_ok {T : Addr} {x y : V} {d e : D} (S : Sat K W H fp xf) (n : H T = none) (a : Rep K W x d) (b : Rep K W y e) : Stp W H [] W (upd H T (.tup [x, y])) ∧ Sat K W (upd H T (.tup [x, y])) fp xf ∧ ResOk K H fp W (upd H T (.tup [x, y])) (.ref T) (pairR d e) :=
  ⟨.new n, S.new n, [T], .tup upd_same (.cons (f := []) (.leaf a) (.cons (f := []) (.leaf b) .nil)), by simp, fun c m => by rw [List.mem_singleton.mp m]; exact ⟨n, S.free n⟩⟩
theorem range_map_get {α : Type} {f : Nat → α} {n i : Nat} {c : α} (h : ((List.range n).map f)[i]? = some c) : c = f i := by
  rw [List.getElem?_map] at h
  cases q : (List.range n)[i]? with
  | none => rw [q] at h; cases h
  | some j =>
    obtain ⟨hi, e⟩ := List.getElem?_eq_some_iff.mp q
    rw [List.getElem_range] at e
    rw [q] at h
    cases h
    rw [e]
end
section
variable {X : Cx} {tg a b c : Expr} {ma mb mc : DE} {pos tpos : Pos} {ta tb : DT} {elts : List Expr} {kk : Nat}
theorem di_enum {p : Pos} (hm : X.mg "enumerate" = none) (ha : PE X a (LP X.K ma)) (hg : Gl X "enumerate" := by rfl) (hs : starEach [a] X.env = [(false, eval a X.env)] := by rfl) : PI X (.Tuple elts kk tpos) (.Call (.Name "enumerate" p) [a] [] pos) (LI X.K (mItE ma)) :=
  pi_imp (pi_enum hg hm (pa_cons ha pa_nil hs) hs) fun σ H R h => by
  obtain ⟨W, env, fp, xf, Q0, E, S, hm, k⟩ := h
  refine LP.next E S hm fun r ⟨ds, ek, hq⟩ v W1' H1 t1' S1' E1' o' => ?_
  obtain ⟨W1, t1, S1, _, o⟩ := ffz_ok S t1' S1' o'
  obtain ⟨p, vs, rfl, hl, hr, st⟩ := list_stay o ek S1
  have ll : (enumR ds).length = vs.length := by unfold enumR; rw [List.length_map, List.length_range, hr.len]
  refine ⟨p, vs, rfl, hl, k _ _ hq _ W1 H1 t1 S1 fun f hf hs W' H' fp' xf' t l S' y => ?_⟩
  obtain ⟨q1, q2⟩ := st f hf hs W' H' fp' xf' t l S'
  refine ⟨fun i hi => ⟨vs, q1, by omega⟩, fun i hi => ⟨vs, vs[i]'(by omega), q1, List.getElem?_eq_getElem (by omega)⟩, fun i x H'' c hy hx => ?_⟩
  obtain ⟨T, x0, rfl, hn, rfl, hv⟩ := hy
  rw [range_map_get hx]
  exact pair_ok S' hn (.int _) (q2.get (hv vs q1))
end
end R
namespace R
open PySem PySem.Spec PyProof.Rows L2
section
variable (P : Program) (w : World) (K : PySem.W.Frag) (mg : Str → Option Value) (base : Heap)
structure CalR (x : Str) (n : Nat) (F : Spec1) (dv : List D) (k : Nat) : Prop where
  ex : ∃ (f : Addr) (fd : FuncData) (ps : List Str) (ds : List Value) (dvs : List V), FnOk P w K mg base CX0 k f fd ps (spR K n F.io) ∧ mg x = some (.ref f) ∧ PySem.W.keepIn K (.ref f) = true ∧ Binds K fd ps ds ∧ Vals dvs ds ∧ ∀ W, RepAll K W dvs dv
structure MetR (C : Addr) (m : Str) (n : Nat) (F : Spec1) (dv : List D) (k : Nat) : Prop where
  ex : ∃ (f : Addr) (fd : FuncData) (ps : List Str) (ds : List Value) (dvs : List V), Cls K C ∧ Meth K C m f ∧ FnOk P w K mg base CX0 k f fd ps (spR K n F.io) ∧ Binds K fd ps ds ∧ Vals dvs ds ∧ ∀ W, RepAll K W dvs dv
structure MakR (x : Str) (C : Addr) (n : Nat) (F : Spec) (dv : List D) (k : Nat) : Prop where
  ex : ∃ (f : Addr) (fd : FuncData) (ps : List Str) (ds : List Value) (dvs : List V), Mk K C f ∧ FnOk P w K mg base CX0 k f fd ps (spR K n F) ∧ mg x = some (.ref C) ∧ Binds K fd ps ds ∧ Vals dvs ds ∧ ∀ W, RepAll K W dvs dv
structure MakKR (x : Str) (C : Addr) (n : Nat) (F : Spec) (np : Nat) (ks : List Str) (k : Nat) : Prop where
  ex : ∃ (f : Addr) (fd : FuncData) (ps : List Str) (g : List Value → List Value → List Value), Mk K C f ∧ FnOk P w K mg base CX0 k f fd ps (spR K n F) ∧ mg x = some (.ref C) ∧ KBn K fd ps (np + 1) ks g (fun vs zs => vs ++ zs)
end
section
variable {X : Cx} {k j n : Nat} {C : Addr} {F1 : Spec1} {F0 : Spec} {dv : List D} {x m : Str} {p pos apos : Pos} {e o : Expr} {es : List Expr} {mo mv : DE} {ma mk : DA} {kws : List Keyword} {nm : Option Str} {kpos : Pos}
theorem dp_cal (c : CalR X.prog X.w X.K X.mg X.base x n F1 dv k) (hr : Room j X.A) (hk : k ≤ j) (ha : PA X (e :: es) (LA X.K ma))
    (hg : Gl X x := by rfl) (hst : starEach (e :: es) X.env = (false, eval e X.env) :: starEach es X.env := by rfl) (hpl : (backTo pos (starEach es X.env)).any (·.1) = false := by rfl) (hdb : (x == ("__debug__" : Str)) = false := by decide) :
    PE X (.Call (.Name x p) (e :: es) [] pos) (LP X.K (mCall n F1 ma dv)) := by
  obtain ⟨f, fd, ps, ds, dvs, F, hm, kp, b, d, r⟩ := c.ex
  exact dp_call F (hr.mono hk) hm kp b d r (E := E0) pass0 ha hg hst hpl hdb
theorem dp_mth {pl : Sem Bool} (c : MetR X.prog X.w X.K X.mg X.base C m n F1 dv k) (hr : Room j X.A) (hk : k ≤ j) (he : PE X o (LP X.K mo)) (ha : PA X (e :: es) (LA X.K ma))
    (hst : starEach (e :: es) X.env = (false, eval e X.env) :: starEach es X.env := by rfl) (hpl : (backTo pos (starEach es X.env)).any (·.1) = false := by rfl)
    (ht : eval (.Call (.Attribute o m apos) (e :: es) [] pos) X.env = (do
      let ov ← eval o X.env
      standAt apos.atName
      let (f, first) ← holding [ov] (getMethod ov m pl)
      callWith pos f first (backTo pos (starEach (e :: es) X.env)) (backToKw pos (keywordEach [] X.env))) := by rfl) :
    PE X (.Call (.Attribute o m apos) (e :: es) [] pos) (LP X.K (mMeth n C m F1 mo ma dv)) := by
  obtain ⟨f, fd, ps, ds, dvs, cl, me, F, b, d, r⟩ := c.ex
  exact dp_meth (pl := pl) cl me F (hr.mono hk) b d r (E := E0) pass0 he ha hst hpl ht
theorem dp_mk (c : MakR X.prog X.w X.K X.mg X.base x C n F0 dv k) (hr : Room j X.A) (hk : k + 1 ≤ j) (ha : PA X (e :: es) (LA X.K ma))
    (hg : Gl X x := by rfl) (hdb : (x == ("__debug__" : Str)) = false := by decide) (he : starEach (e :: es) X.env = (false, eval e X.env) :: starEach es X.env := by rfl) (hpl : (backTo pos (starEach es X.env)).any (·.1) = false := by rfl) :
    PE X (.Call (.Name x p) (e :: es) [] pos) (LP X.K (mMake n C F0 ma dv)) := by
  obtain ⟨f, fd, ps, ds, dvs, M, F, hm, b, d, r⟩ := c.ex
  exact dp_make M F (hr.mono hk) hm b d r (E := E0) pass0 ha hg hdb he hpl
end
end R
namespace R
open PySem PySem.Spec PyProof.Rows L2
section
variable {K : PySem.W.Frag} {W W1 W2 W' : Wd} {H H1 H2 H' : Hp} {f f1 fp fp1 fp2 xf xf1 xf2 : List Addr} {σ σ1 σ2 : L2.St} {Q : VK} {r : Rs} {v : V} {env env1 env2 : Env}
theorem ResAll.app {vs us : List V} {rs ss : List Rs} {g h : List Addr} (a : ResAll K H fp W' H' vs rs g) (b : ResAll K H fp W' H' us ss h) : ResAll K H fp W' H' (vs ++ us) (rs ++ ss) (g ++ h) := by
  induction a with
  | nil => exact b
  | fz q _ ih => exact .fz q ih
  | nw q _ ih =>
    have w := ResAll.nw q ih
    rw [← List.append_assoc] at w
    exact w
  | br q z _ ih => exact .br q z ih
  | ex q z _ ih => exact .ex q z ih
end
section
variable {X : Cx} {k j n np : Nat} {C : Addr} {F0 : Spec} {x : Str} {p pos : Pos} {e : Expr} {es : List Expr} {ma mk : DA} {kws : List Keyword} {ks : List Str} {a b c : Expr} {mb : DE} {pr : List Nat}
def oAddI := i2 (fun _ _ => True) fun i j => .int (i + j)
end
end R
namespace R
open PySem PySem.Spec PyProof.Rows L2
def plT (a : DP) (b : DE) : DP := fun env Q => a env fun i p => b env fun r => ∃ k ts j, r = .fz (.int k) ∧ tree env i p = some (.tup ts) ∧ ixN' ts.length k = some j ∧ Q i (p ++ [j])
section
variable {X : Cx} {a b : Expr} {mb : DE} {pos : Pos} {pl : DP}
theorem dpl_ixT (ha : PE X a (LPl X.K pl)) (hb : PE X b (LP X.K mb)) (hs : PlainIx b := by exact fun _ _ => rfl) : PE X (.Subscript a b pos) (LPl X.K (plT pl mb)) := pe_imp (pe_ix ix_seq ha hb hs) fun σ H Q h => by
  obtain ⟨W, env, fp, xf, Q0, E, S, hm, k⟩ := h
  refine LPl.next E S hm fun i p hq u W1 H1 t1 S1 E1 P => ?_
  refine LP.next E1 S1 hq fun r hr v2 W2 H2 t2 S2 E2 o => ?_
  obtain ⟨n, ts, j, rfl, et, ej, q⟩ := hr
  have P2 := P.keep E1 S1 t2
  obtain ⟨t, v, s2, he, ev, ap⟩ := P2
  have e2 := tree_at he ap.at
  rw [e2] at et
  cases et
  obtain ⟨f, rest, ow, pm, _⟩ := E2.slot he ev
  obtain ⟨fs, rest2, os, p2, _⟩ := place ap ow
  cases os with
  | @tup p0 vs _ g hp w =>
    have hj := ixN_lt ej
    have hj2 : j < vs.length := by rw [w.len]; exact hj
    refine .inr (.inl ⟨p0, vs, n, vs[j], rfl, int_of o, .of hp, ?_, k i _ q _ W2 H2 (t1.tr0 t2) S2 ⟨t, v, _, he, ev, ap.snoc (.tup hp (List.getElem?_eq_getElem hj2) (List.getElem?_eq_getElem hj) .nil)⟩⟩)
    rw [ix_at w.len ej hj2]
    exact List.getElem?_eq_getElem hj2
end
end R
namespace R
open PySem
theorem w_add (i j : Int) : oAdd (.fz (.int i)) (.fz (.int j)) = fun Q => Q (.fz (.int (i + j))) := rfl
theorem w_mul (i j : Int) : oMul (.fz (.int i)) (.fz (.int j)) = fun Q => ((-(2 ^ 64) < i ∧ i < 2 ^ 64) ∨ (-(2 ^ 64) < j ∧ j < 2 ^ 64)) ∧ Q (.fz (.int (i * j))) := rfl
theorem w_ix_vol (ps : List D) (i : Int) : oIx (.fz (.vol 0 ps)) (.fz (.int i)) = fun Q => 0 ≤ i ∧ i < 3 ∧ ∀ x, Q (.fz (.int x)) := rfl
theorem w_ix_lst (ds : List D) (i : Int) : oIx (.fz (.lst ds)) (.fz (.int i)) = fun Q => ∃ d, at' ds i = some d ∧ Q (.fz d) := rfl
theorem w_ix_tup (ds : List D) (i : Int) : oIx (.fz (.tup ds)) (.fz (.int i)) = fun Q => ∃ d, at' ds i = some d ∧ Q (.fz d) := rfl
theorem w_ix_rol (ds : List D) (i : Int) : oIx (.fz (.rol ds)) (.fz (.int i)) = fun Q => ∃ d, at' ds i = some d ∧ Q (.fz d) := rfl
theorem w_ix_br (ts : List OT) (i : Int) : oIx (.br (.lst ts)) (.fz (.int i)) = fun Q => ∃ t, at' ts i = some t ∧ Q (brOf t) := by
  funext Q
  refine propext ⟨fun ⟨ts', t, e, h⟩ => ?_, fun ⟨t, h⟩ => ⟨ts, t, rfl, h⟩⟩
  cases e
  exact ⟨t, h⟩
theorem w_ix_brT (ts : List OT) (i : Int) : oIx (.br (.tup ts)) (.fz (.int i)) = fun Q => ∃ t, at' ts i = some t ∧ Q (brOf t) := by
  funext Q
  refine propext ⟨fun ⟨ts', t, e, h⟩ => ?_, fun ⟨t, h⟩ => ⟨ts, t, rfl, h⟩⟩
  cases e
  exact ⟨t, h⟩
theorem w_len_lst (ds : List D) : oLen [.fz (.lst ds)] = fun Q => Q (.fz (.int ds.length)) := by
  funext Q
  refine propext ⟨fun ⟨ts, e, h⟩ => ?_, fun h => ⟨_, rfl, by rw [List.length_map]; exact h⟩⟩
  cases e
  rw [List.length_map] at h
  exact h
theorem w_len_tup (ds : List D) : oLen [.fz (.tup ds)] = fun Q => Q (.fz (.int ds.length)) := by
  funext Q
  refine propext ⟨fun ⟨ts, e, h⟩ => ?_, fun h => ⟨_, rfl, by rw [List.length_map]; exact h⟩⟩
  cases e
  rw [List.length_map] at h
  exact h
theorem w_len_rol (ds : List D) : oLen [.fz (.rol ds)] = fun Q => Q (.fz (.int ds.length)) := by
  funext Q
  refine propext ⟨fun ⟨ts, e, h⟩ => ?_, fun h => ⟨_, rfl, by rw [List.length_map]; exact h⟩⟩
  cases e
  rw [List.length_map] at h
  exact h
theorem w_len_br (ts : List OT) : oLen [.br (.lst ts)] = fun Q => Q (.fz (.int ts.length)) := by
  funext Q
  refine propext ⟨fun ⟨ts, e, h⟩ => ?_, fun h => ⟨_, rfl, h⟩⟩
  cases e
  exact h
theorem w_len_nw (ts : List OT) : oLen [.nw (.lst ts)] = fun Q => Q (.fz (.int ts.length)) := by
  funext Q
  refine propext ⟨fun ⟨ts, e, h⟩ => ?_, fun h => ⟨_, rfl, h⟩⟩
  cases e
  exact h
theorem outs_nil (n : Nat) (e : Env) : outs [] n e = List.replicate n none := by
  unfold outs
  apply List.ext_getElem
  · simp
  · intro i h1 h2
    simp
theorem ffz_lst (ds : List D) : (Rs.nw (.lst (ds.map .leaf))).ffz = .fz (.lst ds) := by
  show (match (OT.lst (ds.map .leaf)).fzd with | some d => Rs.fz d | none => _) = _
  rw [fzd_lst]
theorem ffz_tup (ds : List D) : (Rs.nw (.tup (ds.map .leaf))).ffz = .fz (.tup ds) := by
  show (match (OT.tup (ds.map .leaf)).fzd with | some d => Rs.fz d | none => _) = _
  rw [fzd_tup]
theorem log2_lt {b : Int} (h : 0 < b) (h2 : b < 2 ^ 200) : b.natAbs.log2 < 9000 := by
  have h3 : b.natAbs < 2 ^ 200 := by omega
  have := (Nat.log2_lt (by omega : b.natAbs ≠ 0) (k := 200)).mpr h3
  omega
theorem at_get {ns : List Nat} {i : Int} {c : Nat} (e : i = (c : Int)) (h : c < ns.length) : at' (ns.map nI) i = some (nI (pk ns c)) := by
  subst e
  exact at_nat (by rw [List.getElem?_map, List.getElem?_eq_getElem h, pk_lt h] <;> rfl)
theorem at_last {α : Type} {xs : List α} {x : α} : at' (xs ++ [x]) (-1) = some x := by
  unfold at' ixN'
  rw [List.length_append, List.length_singleton, if_neg (by omega), if_pos (by omega)]
  have e : ((-1 : Int) + ((xs.length + 1 : Nat) : Int)).toNat = xs.length := by omega
  rw [e]
  simp
theorem ints_nI (ns : List Nat) : allOf D.int? (ns.map nI) = some (ns.map fun (n : Nat) => (n : Int)) := by
  have h := ints_of (ns.map fun (n : Nat) => (n : Int))
  rw [List.map_map] at h
  exact h
theorem sum_cast (ns : List Nat) : (ns.map fun (n : Nat) => (n : Int)).sum = ((ns.sum : Nat) : Int) := by
  induction ns with
  | nil => rfl
  | cons n ns ih => rw [List.map_cons, List.sum_cons, List.sum_cons, ih]; omega
end R
namespace R
open PySem
theorem kid_leafs (d : D) (ds : List D) : (ds.map OT.leaf).map (Rs.kid (.fz d)) = ds.map .fz := by rw [List.map_map] <;> rfl
theorem it_var_lst {env : Env} {i : Nat} {ds : List D} {Q : Bool → List Rs → Prop} (e : env[i]? = some (some (.fz (.lst ds)))) (h : Q true (ds.map .fz)) : mItL (mVar i) env Q := ⟨_, e, _, rfl, by
  show Q true ((ds.map OT.leaf).map (Rs.kid (.fz (.lst ds))))
  rw [kid_leafs]
  exact h⟩
theorem get_fz {ds : List D} {n : Nat} {r : Rs} (h : (ds.map Rs.fz)[n]? = some r) : ∃ d, ds[n]? = some d ∧ r = .fz d := by
  rw [List.getElem?_map] at h
  cases q : ds[n]? with
  | none => rw [q] at h; cases h
  | some d => rw [q] at h; cases h; exact ⟨d, rfl, rfl⟩
theorem get_nI {ns : List Nat} {n : Nat} {r : Rs} (h : ((ns.map nI).map Rs.fz)[n]? = some r) : n < ns.length ∧ r = .fz (nI (pk ns n)) := by
  obtain ⟨d, e, rfl⟩ := get_fz h
  rw [List.getElem?_map] at e
  cases q : ns[n]? with
  | none => rw [q] at e; cases e
  | some k =>
    rw [q] at e
    cases e
    obtain ⟨hl, e⟩ := List.getElem?_eq_some_iff.mp q
    exact ⟨hl, by rw [pk_lt hl, e]⟩
theorem lc_any {it : DI} {g : DG} {e : DE} {ws : List Nat} {env : Env} {Q : Rs → Prop} (xs : List Rs) (st : Bool) (out : Nat → OT) (hit : ∀ Q' : Bool → List Rs → Prop, Q' st xs → it env Q') (hl : xs.length ≤ sizeL)
    (he : ∀ n r, xs[n]? = some r → g (Env.wipe (Env.lent env) ws) r.arg fun e1 => e1.length = env.length ∧ e e1 fun y => ∃ ty, y.item = some ty ∧ (List.range n).map out ++ [ty] = (List.range (n + 1)).map out) (hQ : Q (.nw (.lst ((List.range xs.length).map out)))) : mLc it g mYes e ws env Q := by
  refine hit _ ⟨fun n acc => acc = (List.range n).map out, rfl, fun n r acc hr ha => ⟨?_, ?_⟩, fun acc ha => by rw [ha]; exact hQ⟩
  · rw [ha, List.length_map, List.length_range]
    have := (List.getElem?_eq_some_iff.mp hr).1
    omega
  · subst ha
    exact he n r hr
theorem item_snoc {out : Nat → OT} {n : Nat} : (List.range n).map out ++ [out n] = (List.range (n + 1)).map out := by rw [List.range_succ, List.map_append] <;> rfl
theorem all_true (n : Nat) : ((List.replicate n true).all id) = true := by
  induction n with
  | zero => rfl
  | succ n ih => rw [List.replicate_succ, List.all_cons, ih] <;> rfl
end R
namespace R
open PySem
theorem w_eq_int (neg : Bool) (i j : Int) : oEq neg (.fz (.int i)) (.fz (.int j)) = fun Q => Q (.fz (.bl (decide (i = j) != neg))) := by
  funext Q
  have e : PyData.eqv (.int i) (.int j) = decide (i = j) := by
    rw [PyData.eqv]
    exact Bool.beq_eq_decide_eq i j
  refine propext ⟨fun ⟨p, q, e1, e2, h⟩ => ?_, fun h => ⟨_, _, rfl, rfl, by rw [e]; exact h⟩⟩
  cases e1
  cases e2
  rw [e] at h
  exact h
theorem eqvAll_of {f : D → Option PyData} (hf : ∀ d p, f d = some p → PyData.eqv p p = true) : ∀ {ds : List D} {ps : List PyData}, allOf f ds = some ps → PyData.eqvAll ps ps = true
  | [], ps, h => by cases h; rw [PyData.eqvAll]
  | d :: ds, ps, h => by
    rw [allOf] at h
    cases q : f d with
    | none => rw [q] at h; cases h
    | some p =>
      rw [q] at h
      cases q2 : allOf f ds with
      | none => rw [q2] at h; cases h
      | some qs =>
        rw [q2] at h
        cases h
        rw [PyData.eqvAll, hf d p q, eqvAll_of hf q2] <;> rfl
theorem pd_refl : ∀ (n : Nat) (d : D) (p : PyData), d.pd n = some p → PyData.eqv p p = true := by
  intro n
  induction n with
  | zero =>
    intro d p h
    cases d with
    | non => cases h; rw [PyData.eqv]
    | bl b => cases h; rw [PyData.eqv]; exact beq_self_eq_true b
    | int i => cases h; rw [PyData.eqv]; exact beq_self_eq_true i
    | str x =>
      have h : (if PyData.strOk x = true then some (PyData.str x) else none) = some p := h
      split at h
      · cases h; rw [PyData.eqv]; exact beq_self_eq_true x
      · cases h
    | lst _ => cases h
    | tup _ => cases h
    | rol _ => cases h
    | ins _ _ _ => cases h
    | vol _ _ => cases h
    | dct _ _ => cases h
    | any => cases h
    | adr _ => cases h
    | cod _ => cases h
    | obj _ _ => cases h
    | exn _ => cases h
  | succ n ih =>
    intro d p h
    cases d with
    | non => cases h; rw [PyData.eqv]
    | bl b => cases h; rw [PyData.eqv]; exact beq_self_eq_true b
    | int i => cases h; rw [PyData.eqv]; exact beq_self_eq_true i
    | str x =>
      have h : (if PyData.strOk x = true then some (PyData.str x) else none) = some p := h
      split at h
      · cases h; rw [PyData.eqv]; exact beq_self_eq_true x
      · cases h
    | lst ds =>
      have h : (allOf (D.pd n) ds).map .list = some p := h
      cases q : allOf (D.pd n) ds with
      | none => rw [q] at h; cases h
      | some ps => rw [q] at h; cases h; rw [PyData.eqv]; exact eqvAll_of ih q
    | tup ds =>
      have h : (allOf (D.pd n) ds).map .tuple = some p := h
      cases q : allOf (D.pd n) ds with
      | none => rw [q] at h; cases h
      | some ps => rw [q] at h; cases h; rw [PyData.eqv]; exact eqvAll_of ih q
    | rol ds =>
      have h : (allOf (D.pd n) ds).map .list = some p := h
      cases q : allOf (D.pd n) ds with
      | none => rw [q] at h; cases h
      | some ps => rw [q] at h; cases h; rw [PyData.eqv]; exact eqvAll_of ih q
    | ins _ _ _ => cases h
    | vol _ _ => cases h
    | dct _ _ => cases h
    | any => cases h
    | adr _ => cases h
    | cod _ => cases h
    | obj _ _ => cases h
    | exn _ => cases h
theorem oEq_same {neg : Bool} {x y : Rs} {Q : Rs → Prop} {d : D} {p : PyData} (hd : d.pd 8 = some p) (hx : x.t.pd 8 = some p) (hy : y.t.pd 8 = some p) (h : Q (.fz (.bl (true != neg)))) : oEq neg x y Q := ⟨p, p, hx, hy, by rw [pd_refl 8 d p hd]; exact h⟩
theorem pd_ints (n : Nat) (ns : List Nat) : allOf (D.pd n) (ns.map nI) = some (ns.map fun (k : Nat) => PyData.int (k : Int)) := by
  induction ns with
  | nil => rfl
  | cons k ns ih =>
    rw [List.map_cons, allOf, ih]
    cases n <;> rfl
theorem pdT_ints (n : Nat) (ns : List Nat) : allOfT (OT.pd n) (ns.map fun k => OT.leaf (nI k)) = some (ns.map fun (k : Nat) => PyData.int (k : Int)) := by
  induction ns with
  | nil => rfl
  | cons k ns ih =>
    rw [List.map_cons, allOfT, ih]
    cases n <;> rfl
theorem w_setP (C : Nat) (f : Str) (e : DE) (ks : List Str) (ts : List OT) (rest : Env) (Z : DK) : mSetP C f (plN 0) e (some (.nw (.ins C ks ts)) :: rest) Z =
    e (some (.nw (.ins C ks ts)) :: rest) fun r => ∃ t, r.item = some t ∧ ks.length < 1000 ∧ ks.length = ts.length ∧ Z.nx (some (.nw (.ins C (putK f t ks ts).1 (putK f t ks ts).2)) :: rest) := by
  unfold mSetP
  congr 1
  funext r
  refine propext ⟨fun ⟨_, t, ks', ts', h1, h2, h3, h4, h5⟩ => ?_, fun ⟨t, h1, h2, h3, h4⟩ => ⟨⟨_, rfl⟩, t, ks, ts, h1, rfl, h2, h3, h4⟩⟩
  have h2 : some (OT.ins C ks ts) = some (.ins C ks' ts') := h2
  cases h2
  exact ⟨t, h1, h3, h4, h5⟩
theorem pk0 {g : Str} {t : OT} : putK g t [] [] = ([g], [t]) := rfl
end R
namespace R
theorem s_seq {a b : DS} {env : Env} {Z : DK} (h : ∀ K : Env → Prop, (∀ e, b e Z → K e) → a env { Z with nx := K }) : mSeq a b env Z := h (fun e => b e Z) (fun _ q => q)
end R
namespace R
theorem gT2 {i j : Nat} {env : Env} {x y : D} {Q : Env → Prop} (h : Q ((env.set i (some (.fz x))).set j (some (.fz y)))) : gT [gN i, gN j] env (pairR x y) Q := ⟨_, rfl, rfl, trivial, trivial, h⟩
theorem gT2_fz {i j : Nat} {env : Env} {x y : D} {Q : Env → Prop} (h : Q ((env.set i (some (.fz x))).set j (some (.fz y)))) : gT [gN i, gN j] env (.fz (.tup [x, y])) Q := ⟨_, rfl, rfl, trivial, trivial, h⟩
theorem getD_nI {ns : List Nat} {n : Nat} (h : n < ns.length) : (ns.map nI).getD n .non = nI (pk ns n) := by
  rw [List.getD_eq_getElem?_getD, List.getElem?_map, List.getElem?_eq_getElem h, pk_lt h] <;> rfl
end R
namespace R
open PySem
theorem fz_lst (ds : List D) : Fz (.lst (ds.map .leaf)) (.lst ds) := .lst (FzAll.leafs ds)
end R
namespace R
open PySem
theorem leaves_nI (ns : List Nat) : leaves (ns.map fun n => OT.leaf (nI n)) = some (ns.map nI) := by
  have := leaves_map (ns.map nI)
  rw [List.map_map] at this
  exact this
theorem leafs_nI (ns : List Nat) : (ns.map fun n => OT.leaf (nI n)) = (ns.map nI).map .leaf := by rw [List.map_map] <;> rfl
end R
namespace R
open PySem
theorem ixN_nat {n j : Nat} (h : j < n) : ixN' n (j : Int) = some j := by
  unfold ixN'
  rw [if_pos (by omega), if_pos (by omega), Int.toNat_natCast]
end R
namespace R
open PySem
end R
namespace R
open PySem
theorem cut_take {α : Type} {xs : List α} {c : Nat} (h : c ≤ xs.length) : cut' xs none (some (c : Int)) = xs.take c := by
  simp only [cut', sIx', List.drop_zero, Nat.sub_zero]
  rw [if_neg (by omega), Int.toNat_natCast, Nat.min_eq_left h]
theorem cut_last {α : Type} (xs : List α) : cut' xs none (some (-1)) = xs.take (xs.length - 1) := by
  simp only [cut', sIx', List.drop_zero, Nat.sub_zero]
  rw [if_pos (by omega)]
  congr 1
  omega
theorem cut_from {α : Type} {xs : List α} {c : Nat} (h : c ≤ xs.length) : cut' xs (some (c : Int)) none = xs.drop c := by
  simp only [cut', sIx']
  rw [if_neg (by omega), Int.toNat_natCast, Nat.min_eq_left h, List.take_of_length_le]
  rw [List.length_drop]
  omega
theorem sum_pred : ∀ {l : List Nat}, (∀ s ∈ l, 1 ≤ s) → (l.map (· - 1)).sum + l.length = l.sum
  | [], _ => rfl
  | x :: l, h => by
    have ih := sum_pred (l := l) fun s m => h s (List.mem_cons_of_mem _ m)
    have := h x List.mem_cons_self
    rw [List.map_cons, List.sum_cons, List.sum_cons, List.length_cons]
    omega
end R
namespace R
open PySem
theorem kids_nw (ds : List D) (Q : Bool → List Rs → Prop) (h : Q true (ds.map .fz)) : ∃ ts, (Rs.nw (.lst (ds.map .leaf))).ffz.t.kids = some ts ∧ Q (Rs.nw (.lst (ds.map .leaf))).ffz.stays (ts.map (Rs.kid (Rs.nw (.lst (ds.map .leaf))).ffz)) := by
  rw [ffz_lst]
  exact ⟨_, rfl, by rw [kid_leafs]; exact h⟩
theorem snoc_leaf (ns : List Nat) (k : Nat) : (ns.map fun n => OT.leaf (nI n)) ++ [OT.leaf (nI k)] = (ns ++ [k]).map fun n => OT.leaf (nI n) := by rw [List.map_append] <;> rfl
theorem pk_snoc {l : List Nat} {x i : Nat} : pk (l ++ [x]) i = if i < l.length then pk l i else if i = l.length then x else 0 := by
  unfold pk
  rw [List.getD_eq_getElem?_getD, List.getD_eq_getElem?_getD, List.getElem?_append]
  by_cases h : i < l.length
  · rw [if_pos h, if_pos h]
  · rw [if_neg h, if_neg h]
    by_cases h2 : i = l.length
    · rw [if_pos h2, h2, Nat.sub_self] <;> rfl
    · rw [if_neg h2, List.getElem?_eq_none (by rw [List.length_singleton]; omega)] <;> rfl
end R
namespace R
open PySem
end R
namespace R
open PySem
theorem it_sl {i : Nat} {env : Env} {ds : List D} {lo hi : DO} {l h : Option Int} {Q : Bool → List Rs → Prop} (e : env[i]? = some (some (.fz (.lst ds)))) (hl : ∀ Q' : Option Int → Prop, Q' l → lo env Q') (hh : ∀ Q' : Option Int → Prop, Q' h → hi env Q') (q : Q true ((cut' ds l h).map .fz)) : mItL (mSl (mVar i) lo hi) env Q := by
  refine ⟨_, e, hl _ (hh _ ?_)⟩
  show oSl (.fz (.lst ds)) l h _
  refine ⟨ds, rfl, ?_⟩
  exact kids_nw _ (fun b xs => Q b xs) q
end R
namespace R
open PySem
end R
namespace R
theorem while_of {t : DT} {a : DS} {env : Env} {Z : DK} (Wm : Nat → Env → Prop) (m : Nat) (h0 : Wm m env) (step : ∀ m e, Wm m e → ∃ b : Bool, (∀ P : Bool → Prop, P b → t e P) ∧ (b = true → a e { Z with nx := fun e' => ∃ m', m' < m ∧ Wm m' e', ct := fun e' => ∃ m', m' < m ∧ Wm m' e', bk := Z.nx }) ∧ (b = false → Z.nx e)) : mWhile t a env Z :=
  ⟨Wm, ⟨m, h0⟩, fun m e h => by
    obtain ⟨b, h1, h2, h3⟩ := step m e h
    refine h1 _ ?_
    cases b with
    | true => rw [if_pos rfl]; exact h2 rfl
    | false => rw [if_neg Bool.false_ne_true]; exact h3 rfl⟩
end R
namespace R
open PySem
theorem w_add_nw {a b : List D} {Q : Rs → Prop} (hl : a.length + b.length ≤ sizeL) (h : Q (.nw (.lst ((a ++ b).map .leaf)))) : oAdd (Rs.nw (.lst (a.map .leaf))).ffz (Rs.nw (.lst (b.map .leaf))).ffz Q := by
  rw [ffz_lst, ffz_lst]
  exact .inl ⟨a, b, rfl, rfl, hl, h⟩
end R
namespace R
open PySem
end R
namespace R
open PySem
end R
namespace R
open PySem
theorem mOr_ff {t u : DT} {env : Env} {Q : Bool → Prop} (h1 : ∀ P : Bool → Prop, P false → t env P) (h2 : ∀ P : Bool → Prop, P false → u env P) (q : Q false) : mOr t u env Q := h1 _ (by rw [if_neg Bool.false_ne_true]; exact h2 _ q)
theorem mIfS_ff {t : DT} {a b : DS} {env : Env} {Z : DK} (h1 : ∀ P : Bool → Prop, P false → t env P) (q : b env Z) : mIfS t a b env Z := h1 _ (by rw [if_neg Bool.false_ne_true]; exact q)
end R
namespace R
open PySem
end R
namespace R
open PySem PySem.Spec PyProof.Rows L2 in
theorem hu_R {A : Around} {k : Nat} (hr : Room k A) : A.units + 64 < cLine := hr.units
end R
namespace R
open PySem PySem.Spec PyProof.Rows L2
end R
namespace R
open PySem PySem.Spec PyProof.Rows L2
abbrev tab0 : Obj := { cls := .none, data := .fields #[] }
structure TabsAt (K : PySem.W.Frag) (mg : Str → Option Value) (h : Heap) (T : List (Addr × Addr)) : Prop where
  e : ∀ p ∈ T, h.get? p.2 = some tab0
  n : ∀ p ∈ T, K.lookup p.2 = none
  c : ∀ p ∈ T, PySem.W.CodeHd h p.1 p.2
  b : ∃ (m : Addr) (o : Obj), mg "__builtins__" = some (.ref m) ∧ m ≠ builtinsNs ∧ h.get? m = some o ∧ o.cls = .type "module" ∧ o.dict = some builtinsNs ∧ o.data = .plain
theorem law_run {P : Program} {w : World} {K : PySem.W.Frag} {mg mb : Str → Option Value} {CX : CXT} {k : Nat} {fa a : Addr} {fd : FuncData} {x : Str} {sp : Sp} {s₁ : Shared} {vs : List Value} {ns : List Int} {T : List (Addr × Addr)}
    (KX : K.In s₁.heap) (hns : s₁.heap.Ns mainGlobals mg) (hb : s₁.heap.Ns builtinsNs mb) (hbb : ∀ x : Str, x ≠ "__name__" → mb x = bootBuiltins x) (hlim : s₁.heap.NoLimit) (hg : s₁.gens = #[]) (tk : TabsAt K mg s₁.heap T)
    (ha : s₁.heap.get? a = some { cls := .type "list", data := .seq vs.toArray }) (hi : IntsAre vs ns) (hl : ns.length ≤ sizeLine) (hr : Room k callerA)
    (F : ∀ base : Heap, K.In base → base.Ns mainGlobals mg → (∀ p ∈ T, LamX.TabB base mg p.1 p.2) → FnOk P w K mg base CX k fa fd [x] sp) (hbind : ∀ (s : Shared) (u : Value), BindsTo s fd ⟨[u], []⟩ [(x, u)])
    (hsp : ∀ H : Hp, (∀ p ∈ T, H p.2 = some (.tbl #[])) → SqL K H a (ns.map V.int) → sp [.ref a] H (fun v _ => v = .bl true) fun _ _ _ => False)
    (hCX : ∀ H e s', CX [] H s₁ (fun _ _ _ => False) e s' → False) :
    codeAny (model P w) callerA (.call (.ref fa) ⟨[.ref a], []⟩) (fun r s' => r = .ok (.ret (.bool true)) ∧ OldK s₁.heap s'.heap ∧ s'.os = s₁.os ∧ AllBare s'.gens) s₁ := by
  have rv := vals_ints hi
  let tb : List Addr := T.map (·.2)
  have at0 : ∀ b ∈ tb, s₁.heap.get? b = some tab0 := fun b m => by
    obtain ⟨p, hp, e⟩ := List.mem_map.mp m
    rw [← e]; exact tk.e p hp
  have nTa : a ∉ tb := fun m => by
    have z := (at0 a m).symm.trans ha
    cases (show Data.fields #[] = Data.seq vs.toArray _ from congrArg Obj.data (Option.some.inj z))
  -- H tells of the script and of the tables; what it does not tell of is the base
  have go : ∀ H : Hp, (∀ b u, H b = some u → (b = a ∧ K.lookup a = none ∧ u = .frz { cls := .type "list", data := .seq vs.toArray } (.lst (ns.map V.int))) ∨ b ∈ tb ∧ u = .tbl #[]) → (∀ b ∈ tb, H b = some (.tbl #[])) → SqL K H a (ns.map V.int) →
      codeAny (model P w) callerA (.call (.ref fa) ⟨[.ref a], []⟩) (fun r s' => r = .ok (.ret (.bool true)) ∧ OldK s₁.heap s'.heap ∧ s'.os = s₁.os ∧ AllBare s'.gens) s₁ := by
    intro H hH hT hS
    have out : ∀ {b : Addr} {o : Obj}, s₁.heap.get? b = some o → (b = a → K.lookup a ≠ none ∨ ∀ l n, o.data ≠ .seq l n) → (o.data = .fields #[] → b ∉ tb) → (hidT s₁.heap H).get? b = some o := fun {b o} e n1 n2 => hidT_get e (by
      cases q : H b with
      | none => rfl
      | some u =>
        rcases hH b u q with ⟨e1, e2, _⟩ | ⟨m, _⟩
        · rcases n1 e1 with z | z
          · exact absurd e2 z
          · rw [e1, ha] at e
            cases e
            exact absurd rfl (z _ _)
        · have e' := Option.some.inj (e.symm.trans (at0 b m))
          exact absurd m (n2 (by rw [e'])))
    have plain : ∀ {b : Addr} {o : Obj}, s₁.heap.get? b = some o → (∀ l n, o.data ≠ .seq l n) → o.data ≠ .fields #[] → (hidT s₁.heap H).get? b = some o := fun e h1 h2 => out e (fun _ => .inr h1) fun z => absurd z h2
    have ns' : ∀ {b : Addr} {m : Str → Option Value}, s₁.heap.Ns b m → (hidT s₁.heap H).Ns b m := fun ⟨o, es, ep, e, d, r⟩ => ⟨o, es, ep, plain e (fun _ _ z => by rw [d] at z; cases z) (fun z => by rw [d] at z; cases z), d, r⟩
    have KB : K.In (hidT s₁.heap H) := fun b o e => out (KX b o e) (fun z => .inl (by rw [← z, e]; exact fun w => nomatch w)) fun _ m => by
      obtain ⟨p, hp, z⟩ := List.mem_map.mp m
      have := tk.n p hp
      rw [z, e] at this
      cases this
    have hok : HOk P w H s₁.heap := fun b u e => by
      rcases hH b u e with ⟨rfl, _, rfl⟩ | ⟨m, rfl⟩
      · exact ⟨ha, by rw [List.length_map]; exact hl, vs, _, rv, ha⟩
      · exact at0 b m
    have TB : ∀ p ∈ T, LamX.TabB (hidT s₁.heap H) mg p.1 p.2 := fun p hp => by
      obtain ⟨m, o, b1, b2, b3, b4, b5, b6⟩ := tk.b
      obtain ⟨oc, us, file, tf, flags, tg, inF, text, tt, c1, c2, c3, c4, cr⟩ := tk.c p hp
      have nM : ∀ {c : Addr} {o : Obj}, s₁.heap.get? c = some o → (∀ es ep, o.data ≠ .dict es ep) → c ≠ mainGlobals := fun {c o} e z q => by
        obtain ⟨o2, es, ep, e2, d2, _⟩ := hns
        rw [q, e2] at e
        cases e
        exact z _ _ d2
      refine ⟨⟨oc, us, file, tf, flags, tg, inF, text, tt, plain c1 (fun _ _ z => by rw [c3] at z; cases z) (fun z => ?_), c2, c3, c4, cr⟩, ⟨m, o, b1, b2, nM b3 (fun _ _ z => by rw [b6] at z; cases z), fun z => ?_, plain b3 (fun _ _ z => by rw [b6] at z; cases z) (fun z => by rw [b6] at z; cases z), b4, b5, b6⟩, fun z => nM (tk.e p hp) (fun _ _ q => by cases q) z.symm⟩
      · rw [c3] at z
        cases z
        cases c4
      · have e := tk.e p hp
        rw [← z, b3] at e
        cases e
        cases b6
    have e0 : Env0 P w K mg (hidT s₁.heap H) callerA [] s₁ H := ⟨rfl, ⟨KB, ns' hns, ⟨mb, ns' hb, hbb⟩, hlim.elim fun m h => ⟨m, ns' h.1, h.2⟩⟩, fun b o e => of_hidT e, Nat.le_of_eq (hidT_size _ _), trivial, (fun b z => nomatch (show b ∈ ([] : List Addr) from z)), hok, .of_eq hg⟩
    refine codeAny_mono ((F _ KB (ns' hns) TB).run callerA [] s₁ H ⟨[.ref a], []⟩ [.ref a] [.ref a] _ _ hr e0 (hbind s₁ (.ref a)) (.cons rfl .nil) (hsp H (fun p hp => hT _ (List.mem_map.mpr ⟨p, hp, rfl⟩)) hS)) fun r s' h => ?_
    match r, h with
    | .error e, h => exact (hCX H e s' h).elim
    | .ok .next, h => exact (show False from h).elim
    | .ok .brk, h => exact (show False from h).elim
    | .ok .cont, h => exact (show False from h).elim
    | .ok (.ret u), ⟨v, H', os, bare, un, hok', r', q⟩ =>
      subst q
      obtain rfl : u = Value.bool true := r'
      have stay : ∀ b o, b ∉ tb → s₁.heap.get? b = some o → s'.heap.get? b = some o := fun b o nm e => by
        cases q : H b with
        | none => exact un.keep b o e q (by intro z; exact nomatch (show b ∈ ([] : List Addr) from z)) (by simp)
        | some u =>
          rcases hH b u q with ⟨_, _, rfl⟩ | ⟨m, _⟩
          · have e2 := (hok' b _ (un.frzs b _ _ q)).1
            rw [Option.some.inj (e.symm.trans (hok b _ q).1)]
            exact e2
          · exact absurd m nm
      have grow : ∀ b ∈ tb, ∃ l : Array Value, s'.heap.get? b = some { cls := .none, data := .fields l } := fun b m => by
        obtain ⟨l, z⟩ := un.tbls b #[] (hT b m)
        exact ⟨_, hok' b _ z⟩
      refine ⟨rfl, ⟨fun b o e => ?_, fun b o e => ?_⟩, os, bare⟩
      · by_cases m : b ∈ tb
        · obtain ⟨p, hp, rfl⟩ := List.mem_map.mp m
          obtain ⟨l, z⟩ := grow _ m
          obtain rfl := Option.some.inj (e.symm.trans (at0 _ m))
          exact .inr (.inl ⟨((tk.c p hp).tab (tk.e p hp)).isCodeTable, rfl, #[], l, rfl, by rw [Array.empty_append]; exact z⟩)
        · exact .inl (stay b o m e)
      · by_cases m : b ∈ tb
        · obtain ⟨l, z⟩ := grow b m
          exact ⟨_, z⟩
        · exact ⟨o, stay b o m e⟩
  cases hk : K.lookup a with
  | some o =>
    have e := KX a o hk
    rw [ha] at e
    cases e
    refine go (fun b => if b ∈ tb then some (.tbl #[]) else none) (fun b u z => .inr ?_) (fun b m => if_pos m) (.inr ⟨_, vs.toArray, _, hk, rfl, rfl, rfl, by rw [List.size_toArray, hi.length]; exact hl, by simpa using rv⟩)
    by_cases m : b ∈ tb
    · exact ⟨m, (Option.some.inj ((if_pos m).symm.trans z)).symm⟩
    · exact nomatch (if_neg m).symm.trans z
  | none =>
    refine go (fun b => if b ∈ tb then some (.tbl #[]) else if b = a then some (.frz { cls := .type "list", data := .seq vs.toArray } (.lst (ns.map V.int))) else none) (fun b u z => ?_) (fun b m => if_pos m) (.inl (.inr ⟨{ cls := .type "list", data := .seq vs.toArray }, (if_neg nTa).trans (if_pos rfl)⟩))
    by_cases m : b ∈ tb
    · exact .inr ⟨m, (Option.some.inj ((if_pos m).symm.trans z)).symm⟩
    · have z := (if_neg m).symm.trans z
      by_cases hb : b = a
      · exact .inl ⟨hb, hk, (Option.some.inj ((if_pos hb).symm.trans z)).symm⟩
      · exact nomatch (if_neg hb).symm.trans z
theorem walk_ofG {l : PySem.W.OpenLaw} {n k : Nat} {q : Program} {loose : List Str} {XP : (Str → Option Value) → Heap → Prop} {YP : World → Heap → Prop} {d : DefRec} {CX : World → CXT} {x : Str}
    (hn : l.most = some n) (hn2 : n ≤ sizeLine) (hdf : d.params.defaults = []) (hr : Room k callerA)
    (F : ∀ (w : World) (mg : Str → Option Value) (fa : Addr) (h : Heap), YP w h → h.Ns mainGlobals mg → mg d.name = some (.ref fa) →
      ∃ (K : PySem.W.Frag) (fd : FuncData) (sp : Sp) (T : List (Addr × Addr)), K.In h ∧ ((∃ (m : Addr) (o : Obj), mg "__builtins__" = some (.ref m) ∧ m ≠ builtinsNs ∧ h.get? m = some o ∧ o.cls = .type "module" ∧ o.dict = some builtinsNs ∧ o.data = .plain) → TabsAt K mg h T) ∧ (∀ (s : Shared) (u : Value), BindsTo s fd ⟨[u], []⟩ [(x, u)]) ∧
        (∀ (H : Hp) (a : Addr) (ns : List Int), ns.length ≤ n → (∀ p ∈ T, H p.2 = some (.tbl #[])) → SqL K H a (ns.map V.int) → sp [.ref a] H (fun v _ => v = .bl true) fun _ _ _ => False) ∧
        ∀ base : Heap, K.In base → base.Ns mainGlobals mg → (∀ p ∈ T, LamX.TabB base mg p.1 p.2) → FnOk l.prog w K mg base (CX w) k fa fd [x] sp)
    (hCX : ∀ (w : World) (H : Hp) (s : Shared) (e : Value) (s' : Shared), CX w [] H s (fun _ _ _ => False) e s' → False) :
    PySem.W.WalkO q loose XP YP l.row.toRowW d [] (fun f vs => PySem.call f vs) :=
  Att.attach_call hn hdf fun w _ s₁ mg _ fa _ _ _ _ a _ ns G Y _ _ _ hmg hobj hints hlen hg => by
    obtain ⟨K, fd, sp, T, KX, tk, hb, hsp, hF⟩ := F w mg fa _ Y G.T.g hmg
    exact law_run KX G.T.g G.T.b G.T.builtins G.T.nolimit hg (tk G.T.bmain) hobj hints (Nat.le_trans hlen hn2) hr hF hb (fun H hO hS => hsp H a ns hlen hO hS) fun H e s' => hCX w H s₁ e s'
end R
namespace R
open PySem PySem.Spec PyProof.Rows L2
theorem sp_end {K : PySem.W.Frag} {F : Spec1} {H : Hp} {a : Addr} {ns : List Int} {E : XK} (hT : ∀ P q, (lamTab K).lookup P = some q → H P = some (.tbl #[])) (hS : SqL K H a (ns.map .int)) (h : ∀ Q : Rs → Prop, Q (.fz (.bl true)) → F [some (.fz (.rol (ns.map D.int)))] Q) : spR K 1 F.io [.ref a] H (fun v _ => v = .bl true) E := by
  let W : Wd := ⟨fun b => if (lamTab K).lookup b = none then H b else none, fun b => ((lamTab K).lookup b).map fun q => (99, [.str q])⟩
  have rp : ∀ ns : List Int, RepAll K W (ns.map V.int) (ns.map D.int) := fun ns => by
    induction ns with
    | nil => exact .nil
    | cons n ns ih => exact .cons (.int n) ih
  have out : ∀ {o : HO}, H a = some o → (∀ c, o ≠ .tbl c) → W.G a = some o := fun {o} e n => by
    cases q : (lamTab K).lookup a with
    | none => exact (if_pos q).trans e
    | some x => exact absurd (Option.some.inj (e.symm.trans (hT _ _ q))) (n _)
  have hS2 : SqL K W.G a (ns.map .int) := by
    rcases hS with (q | ⟨o, q⟩) | q
    · exact .inl (.inl (out q fun _ z => by cases z))
    · exact .inl (.inr ⟨o, out q fun _ z => by cases z⟩)
    · exact .inr q
  refine ⟨rfl, W, _, [], [], fun r _ => r = .fz (.bl true), .fz (.rol hS2 (rp ns)) .nil, ⟨fun b o e => ?_, ⟨fun b k ps e => ?_, fun P q e => ?_⟩, List.nodup_nil, fun _ m => (by cases m), fun _ m => (by cases m)⟩, h _ rfl, ?_⟩
  · have e : (if (lamTab K).lookup b = none then H b else none) = some o := e
    split at e
    · exact e
    · cases e
  · have e : ((lamTab K).lookup b).map (fun q => (99, [D.str q])) = some (k, ps) := e
    cases q : (lamTab K).lookup b with
    | none => rw [q] at e; cases e
    | some x =>
      rw [q] at e
      cases e
      refine ⟨if_neg (by rw [q]; exact fun z => nomatch z), _, hT _ _ q, .inr ⟨rfl, x, #[], rfl, rfl, trivial, fun pos cv z => ?_⟩⟩
      cases (show none = some cv from z)
  · exact ⟨congrArg (Option.map fun q => (99, [D.str q])) e, #[], hT P q e⟩
  · intro r ss' e v W' H' fp' xf' _ _ _ _ ro
    subst e
    cases ro
    rfl
end R
namespace R
open PySem PySem.Spec PyProof.Rows L2
section
variable {X : Cx} {a b c : Expr} {x : Str} {ma mb mc : DE} {pos : Pos} {mr : DA} {pr : List Nat} {pl : DP}
end
end R
namespace R
open PySem
theorem if_of {t : DT} {a b : DS} {env : Env} {Z : DK} (c : Bool) (ht : ∀ P : Bool → Prop, P c → t env P) (h1 : c = true → a env Z) (h0 : c = false → b env Z) : mIfS t a b env Z := ht _ (by
  cases c with
  | true => rw [if_pos rfl]; exact h1 rfl
  | false => rw [if_neg Bool.false_ne_true]; exact h0 rfl)
theorem ent_congr {sz fw sz' fw' : List Nat} : ∀ {c : Nat}, (∀ i, i < c → pk sz i = pk sz' i) → (∀ i, i < c → pk fw i = pk fw' i) → ∀ n, ent sz fw c n = ent sz' fw' c n
  | 0, _, _, _ => rfl
  | c + 1, h1, h2, n => by
    have ih : ent sz fw c = ent sz' fw' c := funext (ent_congr (fun i hi => h1 i (by omega)) fun i hi => h2 i (by omega))
    rw [ent, ent, ih, h1 c (by omega), h2 c (by omega)]
theorem pk_app {l m : List Nat} {i : Nat} (h : i < l.length) : pk (l ++ m) i = pk l i := by
  rw [pk_lt h, pk_lt (by rw [List.length_append]; omega), List.getElem_append_left h]
theorem pk_app2 {l m : List Nat} {i : Nat} (h : i < m.length) : pk (l ++ m) (l.length + i) = pk m i := by
  rw [pk_lt h, pk_lt (by rw [List.length_append]; omega), List.getElem_append_right (by omega)]
  congr 1
  omega
theorem pk_take {l : List Nat} {c i : Nat} (h : i < c) (h2 : i < l.length) : pk (l.take c) i = pk l i := by
  rw [pk_lt h2, pk_lt (by rw [List.length_take]; omega), List.getElem_take]
end R
namespace R
open PySem
end R
namespace R
open PySem PySem.Spec PyProof.Rows L2
structure MAtV (K : PySem.W.Frag) (W : Wd) (σ : L2.St) (i : Nat) (js : List Nat) (a : Addr) (k : Nat) (ps : List D) (keys : List Key) : Prop where
  o : σ[i]? = some (some (.ref a))
  s : W.S a = some (k + 1, ps)
  k : VarsAt σ js (keys.map kV)
section
variable {K : PySem.W.Frag} {W W1 W2 W' : Wd} {H H1 H2 H' : Hp} {fp xf : List Addr} {σ σ1 : L2.St} {env : Env} {i k : Nat} {js : List Nat} {a : Addr} {ps : List D} {keys : List Key}
theorem MAtV.keep (M : MAtV K W σ i js a k ps keys) (l : W.Le W') (hi : σ1[i]? = σ[i]?) (hj : ∀ j ∈ js, σ1[j]? = σ[j]?) : MAtV K W' σ1 i js a k ps keys := ⟨by rw [hi]; exact M.o, l.s _ _ M.s, M.k.same hj⟩
end
section
variable {X : Cx} {tg a b c o o1 o3 : Expr} {ma mb mc : DE} {pos p1 : Pos} {ta tb : DT} {st : Stmt} {rest s1 s2 : List Stmt} {m m1 m2 : DS} {pr pr0 : List Nat} {pl : DP} {x f : Str} {es es1 es3 : List Expr} {i : Nat} {js : List Nat}
end
section
variable {X : Cx} {a b : Expr} {ma mb : DE} {pos : Pos} {pr : List Nat} {x y : Str}
theorem ds_aug_add {i : Nat} {p : Pos} (hN : X.N.Nodup) (hi : X.N[i]? = some x) (ha : PE X a (LP X.K ma)) (hx : Loc X.env.scope x := by first | exact Or.inl rfl | exact Or.inr rfl) (hp : i ∉ pr := by decide)
    (hf : X.fn x = true ∨ X.env.scope.names.lookup x = some .local := by first | exact .inl rfl | exact .inr rfl | assumption) : PS X (.AugAssign (.Name x p) .Add a pos) (LS X.K ex pr (mAug i oAddI ma)) := ds_augI (rI0_of iop_add) (fun _ _ _ => trivial) (fun _ _ _ => rfl) hN hi ha hx hp hf
end
end R
namespace R
open PySem
def lastN (c : List Nat) : Nat := pk c (c.length - 1)
def tgt (ord : List Nat) (k : Nat) : Nat := ord.idxOf k
def cycLoop (t : Nat → Nat) (i : Nat) : Nat → List Nat → List Nat
  | 0, c => c
  | f + 1, c => if t (lastN c) = i then c else cycLoop t i f (c ++ [t (lastN c)])
def cycleOf (t : Nat → Nat) (n i : Nat) : List Nat := cycLoop t i (n - 1) [i]
def cycs (t : Nat → Nat) (n : Nat) : Nat → List (List Nat)
  | 0 => []
  | i + 1 => if i ∈ (cycs t n i).flatten then cycs t n i else cycs t n i ++ [cycleOf t n i]
structure Tg (t : Nat → Nat) (n : Nat) : Prop where
  lt : ∀ x, x < n → t x < n
  inj : ∀ x y, x < n → y < n → t x = t y → x = y
theorem nodup_pk {c : List Nat} (h : c.Nodup) {i j : Nat} (hi : i < c.length) (hj : j < c.length) (e : pk c i = pk c j) : i = j := by
  rw [pk_lt hi, pk_lt hj] at e
  exact (List.getElem_inj h).mp e
theorem mem_pk {c : List Nat} {x : Nat} (h : x ∈ c) : ∃ j, j < c.length ∧ pk c j = x := by
  obtain ⟨j, hj, e⟩ := List.getElem_of_mem h
  exact ⟨j, hj, by rw [pk_lt hj]; exact e⟩
theorem nodup_le {n : Nat} : ∀ {c : List Nat}, c.Nodup → (∀ x ∈ c, x < n) → c.length ≤ n := by
  induction n with
  | zero =>
    intro c _ h
    cases c with
    | nil => exact Nat.le_refl _
    | cons x c => exact absurd (h x List.mem_cons_self) (Nat.not_lt_zero _)
  | succ n ih =>
    intro c nd h
    have h1 := ih (c := c.erase n) (nd.erase n) fun x m => by
      obtain ⟨a, b⟩ := nd.mem_erase_iff.mp m
      have := h x b
      omega
    by_cases m : n ∈ c
    · have := List.length_erase_of_mem m
      omega
    · rw [List.erase_of_not_mem m] at h1
      omega
theorem perm_range : ∀ {n : Nat} {c : List Nat}, c.Nodup → (∀ x, x ∈ c ↔ x < n) → c.Perm (List.range n)
  | 0, c, _, h => by
    cases c with
    | nil => exact .refl _
    | cons x c => exact absurd ((h x).mp List.mem_cons_self) (Nat.not_lt_zero _)
  | n + 1, c, nd, h => by
    have ih := perm_range (n := n) (c := c.erase n) (nd.erase n) fun x => by
      rw [nd.mem_erase_iff, h x]
      omega
    refine (List.perm_cons_erase ((h n).mpr (Nat.lt_succ_self n))).trans ((ih.cons n).trans ?_)
    rw [List.range_succ]
    exact (List.perm_append_comm (l₁ := [n]) (l₂ := List.range n))
theorem tgt_spec {ord : List Nat} {k : Nat} (h : k ∈ ord) : tgt ord k < ord.length ∧ pk ord (tgt ord k) = k := by
  have h1 : ord.idxOf k < ord.length := List.idxOf_lt_length_iff.mpr h
  exact ⟨h1, by rw [tgt, pk_lt h1]; exact List.getElem_idxOf h1⟩
theorem tgt_tg {ord : List Nat} (p : ord.Perm (List.range ord.length)) : Tg (tgt ord) ord.length := by
  have mem : ∀ x, x < ord.length → x ∈ ord := fun x h => p.mem_iff.mpr (List.mem_range.mpr h)
  refine ⟨fun x h => (tgt_spec (mem x h)).1, fun x y hx hy e => ?_⟩
  rw [← (tgt_spec (mem x hx)).2, ← (tgt_spec (mem y hy)).2, e]
structure Orb (t : Nat → Nat) (n i : Nat) (c : List Nat) : Prop where
  h0 : 0 < c.length
  hd : pk c 0 = i
  nx : ∀ j, j + 1 < c.length → pk c (j + 1) = t (pk c j)
  nd : c.Nodup
  lt : ∀ x ∈ c, x < n
section
variable {t : Nat → Nat} {n i : Nat} {c : List Nat}
theorem Orb.start (h : i < n) : Orb t n i [i] := ⟨by simp, rfl, fun j hj => by simp at hj, by simp, fun x m => by rw [List.mem_singleton.mp m]; exact h⟩
theorem Orb.len (o : Orb t n i c) : c.length ≤ n := nodup_le o.nd o.lt
theorem Orb.last (o : Orb t n i c) : lastN c ∈ c := pk_mem (by have := o.h0; omega)
theorem Orb.fresh (T : Tg t n) (o : Orb t n i c) (h : t (lastN c) ≠ i) : t (lastN c) ∉ c := by
  intro m
  obtain ⟨j, hj, e⟩ := mem_pk m
  cases j with
  | zero => exact h (by rw [← e]; exact o.hd)
  | succ j =>
    rw [o.nx j hj] at e
    have e2 := T.inj _ _ (o.lt _ (pk_mem (by omega))) (o.lt _ o.last) e
    have h0 := o.h0
    have := nodup_pk o.nd (by omega) (by omega) e2
    omega
theorem Orb.step (T : Tg t n) (o : Orb t n i c) (h : t (lastN c) ≠ i) : Orb t n i (c ++ [t (lastN c)]) := by
  have f := o.fresh T h
  have h0 := o.h0
  refine ⟨by rw [List.length_append]; omega, by rw [pk_app h0]; exact o.hd, fun j hj => ?_, ?_, fun x m => ?_⟩
  · rw [List.length_append, List.length_singleton] at hj
    by_cases q : j + 1 < c.length
    · rw [pk_app q, pk_app (by omega)]
      exact o.nx j q
    · have e : j + 1 = c.length + 0 := by omega
      rw [e, pk_app2 (by simp), pk_app (by omega), show j = c.length - 1 by omega] <;> rfl
  · rw [List.nodup_append]
    exact ⟨o.nd, by simp, fun a m b m2 e => f (by rw [← List.mem_singleton.mp m2, ← e]; exact m)⟩
  · rcases List.mem_append.mp m with m | m
    · exact o.lt x m
    · rw [List.mem_singleton.mp m]
      exact T.lt _ (o.lt _ o.last)
structure Cyc (t : Nat → Nat) (n i : Nat) (c : List Nat) : Prop extends Orb t n i c where
  ls : t (lastN c) = i
theorem cycLoop_cyc (T : Tg t n) : ∀ {f : Nat} {c : List Nat}, Orb t n i c → c.length + f = n → Cyc t n i (cycLoop t i f c)
  | 0, c, o, h => by
    refine ⟨o, ?_⟩
    by_cases q : t (lastN c) = i
    · exact q
    · have := (o.step T q).len
      rw [List.length_append, List.length_singleton] at this
      omega
  | f + 1, c, o, h => by
    rw [cycLoop]
    by_cases q : t (lastN c) = i
    · rw [if_pos q]
      exact ⟨o, q⟩
    · rw [if_neg q]
      exact cycLoop_cyc T (o.step T q) (by rw [List.length_append, List.length_singleton]; omega)
theorem cycleOf_cyc (T : Tg t n) (h : i < n) : Cyc t n i (cycleOf t n i) := cycLoop_cyc T (.start h) (by simp; omega)
theorem Cyc.cl (o : Cyc t n i c) {x : Nat} (m : x ∈ c) : t x ∈ c := by
  obtain ⟨j, hj, rfl⟩ := mem_pk m
  by_cases q : j + 1 < c.length
  · rw [← o.nx j q]
    exact pk_mem q
  · have e : j = c.length - 1 := by omega
    have := o.ls
    rw [e]
    show t (lastN c) ∈ c
    rw [this, ← o.hd]
    exact pk_mem o.h0
theorem Cyc.back (T : Tg t n) (o : Cyc t n i c) {x : Nat} (hx : x < n) (m : t x ∈ c) : x ∈ c := by
  obtain ⟨j, hj, e⟩ := mem_pk m
  cases j with
  | zero =>
    rw [o.hd, ← o.ls] at e
    have := T.inj _ _ (o.lt _ o.last) hx e
    rw [← this]
    exact o.last
  | succ j =>
    rw [o.nx j hj] at e
    have := T.inj _ _ (o.lt _ (pk_mem (by omega))) hx e
    rw [← this]
    exact pk_mem (by omega)
theorem Orb.off {S : List Nat} (back : ∀ x, x < n → t x ∈ S → x ∈ S) (o : Orb t n i c) (h : i ∉ S) : ∀ x ∈ c, x ∉ S := by
  have key : ∀ j, j < c.length → pk c j ∉ S := by
    intro j
    induction j with
    | zero => intro _; rw [o.hd]; exact h
    | succ j ih =>
      intro hj m
      rw [o.nx j hj] at m
      exact ih (by omega) (back _ (o.lt _ (pk_mem (by omega))) m)
  intro x m
  obtain ⟨j, hj, rfl⟩ := mem_pk m
  exact key j hj
structure CS (t : Nat → Nat) (n i : Nat) (cs : List (List Nat)) : Prop where
  all : ∀ c ∈ cs, ∃ j, j < i ∧ Cyc t n j c ∧ ∀ x ∈ c, j ≤ x
  nd : cs.flatten.Nodup
  cov : ∀ x, x < i → x ∈ cs.flatten
  st : (cs.map fun c => pk c 0).Pairwise (· < ·)
theorem CS.lt {cs : List (List Nat)} (s : CS t n i cs) {x : Nat} (m : x ∈ cs.flatten) : x < n := by
  obtain ⟨c, hc, mx⟩ := List.mem_flatten.mp m
  obtain ⟨j, _, o, _⟩ := s.all c hc
  exact o.lt x mx
theorem CS.back (T : Tg t n) {cs : List (List Nat)} (s : CS t n i cs) {x : Nat} (hx : x < n) (m : t x ∈ cs.flatten) : x ∈ cs.flatten := by
  obtain ⟨c, hc, mx⟩ := List.mem_flatten.mp m
  obtain ⟨j, _, o, _⟩ := s.all c hc
  exact List.mem_flatten.mpr ⟨c, hc, o.back T hx mx⟩
theorem cycs_ok (T : Tg t n) : ∀ {i : Nat}, i ≤ n → CS t n i (cycs t n i)
  | 0, _ => ⟨fun c m => (by cases m), (by simp [cycs]), fun x h => absurd h (Nat.not_lt_zero _), (by simp [cycs])⟩
  | i + 1, h => by
    have s := cycs_ok T (i := i) (by omega)
    rw [cycs]
    split
    · rename_i m
      refine ⟨fun c hc => ?_, s.nd, fun x hx => ?_, s.st⟩
      · obtain ⟨j, a, b⟩ := s.all c hc
        exact ⟨j, by omega, b⟩
      · by_cases q : x = i
        · rw [q]; exact m
        · exact s.cov x (by omega)
    · rename_i m
      have o := cycleOf_cyc T (show i < n by omega)
      have off := o.toOrb.off (fun x hx => s.back T hx) m
      refine ⟨fun c hc => ?_, ?_, fun x hx => ?_, ?_⟩
      · rcases List.mem_append.mp hc with hc | hc
        · obtain ⟨j, a, b⟩ := s.all c hc
          exact ⟨j, by omega, b⟩
        · rw [List.mem_singleton.mp hc]
          refine ⟨i, by omega, o, fun x mx => ?_⟩
          have := off x mx
          apply Classical.byContradiction
          intro q
          exact this (s.cov x (by omega))
      · rw [List.flatten_append, List.nodup_append]
        refine ⟨s.nd, by simpa using o.nd, fun a ma b mb e => ?_⟩
        rw [List.flatten_singleton] at mb
        exact off b mb (by rw [← e]; exact ma)
      · rw [List.flatten_append, List.flatten_singleton, List.mem_append]
        by_cases q : x = i
        · right
          have w := pk_mem o.h0
          rw [o.hd] at w
          rw [q]
          exact w
        · left
          exact s.cov x (by omega)
      · rw [List.map_append, List.pairwise_append]
        refine ⟨s.st, by simp, fun a ma b mb => ?_⟩
        obtain ⟨c, hc, rfl⟩ := List.mem_map.mp ma
        obtain ⟨j, hj, oc, _⟩ := s.all c hc
        have : b = i := by
          simp at mb
          rw [mb]
          exact o.hd
        show pk c 0 < b
        rw [this, oc.hd]
        exact hj
theorem cycs_perm (T : Tg t n) : (cycs t n n).flatten.Perm (List.range n) := by
  have s := cycs_ok T (Nat.le_refl n)
  exact perm_range s.nd fun x => ⟨s.lt, s.cov x⟩
end
def lcmL (ks : List Nat) : Nat := ks.foldl Nat.lcm 1
theorem lcmL_pos {ks : List Nat} (h : ∀ k ∈ ks, 1 ≤ k) : 1 ≤ lcmL ks := by
  have key : ∀ (ks : List Nat) (a : Nat), 1 ≤ a → (∀ k ∈ ks, 1 ≤ k) → 1 ≤ ks.foldl Nat.lcm a := by
    intro ks
    induction ks with
    | nil => intro a h _; exact h
    | cons k ks ih => intro a h hk; exact ih _ (Nat.lcm_pos h (hk k List.mem_cons_self)) fun x m => hk x (List.mem_cons_of_mem _ m)
  exact key ks 1 (Nat.le_refl _) h
theorem le_two_pow : ∀ {k : Nat}, 1 ≤ k → k ≤ 2 ^ (k - 1)
  | 1, _ => by decide
  | k + 2, _ => by
    have := le_two_pow (k := k + 1) (by omega)
    have e : k + 2 - 1 = (k + 1 - 1) + 1 := by omega
    rw [e, Nat.pow_succ]
    omega
theorem prodL_le {sz : List Nat} (h : ∀ s ∈ sz, 1 ≤ s) : 1 ≤ prodL sz ∧ prodL sz ≤ 2 ^ (sz.sum - sz.length) := by
  have key : ∀ (sz : List Nat) (a e : Nat), 1 ≤ a → a ≤ 2 ^ e → (∀ k ∈ sz, 1 ≤ k) → 1 ≤ sz.foldl (· * ·) a ∧ sz.foldl (· * ·) a ≤ 2 ^ (e + (sz.sum - sz.length)) ∧ sz.length ≤ sz.sum := by
    intro sz
    induction sz with
    | nil => intro a e h0 h _; exact ⟨h0, by simpa using h, Nat.le_refl _⟩
    | cons k sz ih =>
      intro a e h0 h hk
      have h1 := hk k List.mem_cons_self
      have q2 := le_two_pow h1
      have q4 : a * k ≤ 2 ^ (e + (k - 1)) := by rw [Nat.pow_add]; exact Nat.mul_le_mul h q2
      obtain ⟨a1, a2, a3⟩ := ih (a * k) (e + (k - 1)) (Nat.mul_pos h0 h1) q4 fun x m => hk x (List.mem_cons_of_mem _ m)
      refine ⟨a1, ?_, by rw [List.length_cons, List.sum_cons]; omega⟩
      rw [List.sum_cons, List.length_cons]
      have e1 : e + (k - 1) + (sz.sum - sz.length) = e + (k + sz.sum - (sz.length + 1)) := by omega
      rw [← e1]
      exact a2
  obtain ⟨a, b, _⟩ := key sz 1 0 (Nat.le_refl _) (by decide) h
  rw [Nat.zero_add] at b
  exact ⟨a, b⟩
end R
namespace R
open PySem
def rnd (sz fw : List Nat) (n : Nat) : List Nat := (fil sz fw fw.length n).2 ++ (fil sz fw fw.length n).1
theorem rnd_perm {sz fw : List Nat} {n : Nat} (C : Cups sz fw fw.length) (hl : fw.length < sz.length) (hs : 1 ≤ pk sz fw.length) (h : least sz (fw.length + 1) ≤ n) : (rnd sz fw n).Perm (List.range n) := by
  rw [least_succ hl] at h
  have hl1 : 1 ≤ least sz fw.length := by unfold least; omega
  obtain ⟨a, _⟩ := fillN_perm (e := ent sz fw fw.length) (pk sz fw.length) ([], List.range n) (fun k hk => by
    show Pm (ent sz fw fw.length ((List.range n).length - k)) ((List.range n).length - k)
    rw [List.length_range]
    exact ent_perm C (by omega)) (by show pk sz fw.length ≤ (List.range n).length; rw [List.length_range]; omega)
  have a : ((fil sz fw fw.length n).1 ++ (fil sz fw fw.length n).2).Perm (List.range n) := a
  exact List.perm_append_comm.trans a
theorem Tg.of_perm {ord : List Nat} {n : Nat} (p : ord.Perm (List.range n)) : Tg (tgt ord) n := by
  have e : ord.length = n := by rw [p.length_eq, List.length_range]
  subst e
  exact tgt_tg p
structure CyOk (n : Nat) (cs : List (List Nat)) : Prop where
  len : cs.length ≤ n
  one : ∀ c ∈ cs, 1 ≤ c.length ∧ c.length ≤ n
  sum : (cs.map List.length).sum = n
  st : (cs.map fun c => pk c 0).Pairwise (· < ·)
theorem cycs_cyOk {t : Nat → Nat} {n : Nat} (T : Tg t n) : CyOk n (cycs t n n) := by
  have s := cycs_ok T (Nat.le_refl n)
  have p := cycs_perm T
  refine ⟨?_, fun c hc => ?_, ?_, s.st⟩
  · have nd : ((cycs t n n).map fun c => pk c 0).Nodup := List.nodup_iff_pairwise_ne.mpr (s.st.imp fun h => by omega)
    have := nodup_le (n := n) nd fun x m => by
      obtain ⟨c, hc, rfl⟩ := List.mem_map.mp m
      obtain ⟨j, _, o, _⟩ := s.all c hc
      exact o.lt _ (pk_mem o.h0)
    rw [List.length_map] at this
    exact this
  · obtain ⟨j, _, o, _⟩ := s.all c hc
    exact ⟨o.h0, o.len⟩
  · have := p.length_eq
    rw [List.length_flatten, List.length_range] at this
    exact this
end R
namespace R
open PySem PySem.Spec PyProof.Rows L2
def mTake (j : Nat) (pl : DP) : DS := fun env D => pl env fun i p => i ≠ j ∧ ∃ t, tree env i p = some t ∧ nwOf t = .nw t ∧ D.nx ((put env i p (.leaf .any)).set j (some (.nw t)))
def mAppPop (pl : DP) (j : Nat) (k : DE) : DS := fun env D => pl env fun i p => i ≠ j ∧ ∃ ts us, tree env i p = some (.lst ts) ∧ env[j]? = some (some (.nw (.lst us))) ∧ ts.length < sizeL ∧
  k env fun r => ∃ n m d, r = .fz (.int n) ∧ -1000000 ≤ n ∧ n ≤ 1000000 ∧ ixN' us.length n = some m ∧ us[m]? = some (.leaf d) ∧ D.nx (put (env.set j (some (.nw (.lst (us.eraseIdx m))))) i p (.lst (ts ++ [.leaf d])))
section
variable {X : Cx} {tg a b c : Expr} {ma mb mc mk : DE} {pos : Pos} {ta tb : DT} {st : Stmt} {rest s1 s2 : List Stmt} {m m1 m2 : DS} {pr : List Nat} {pl : DP} {x y : Str} {C : Addr} {es : List Expr}
theorem ds_take {j : Nat} {p : Pos} (hN : X.N.Nodup) (hi : X.N[j]? = some x) (ha : PE X a (LPl X.K pl)) (hx : Loc X.env.scope x := by first | exact Or.inl rfl | exact Or.inr rfl) (hp : j ∉ pr := by decide) (hs : swapsWith a (some (.Name x p)) pos.line X.env = pure false := by rfl)
    (hf : X.fn x = true ∨ X.env.scope.names.lookup x = some .local := by first | exact .inl rfl | exact .inr rfl | assumption) : PS X (.Assign [.Name x p] a pos) (LS X.K ex pr (mTake j pl)) :=
  ps_imp (ps_set hN hi hx ha hs hf) fun D σ H h => by
  obtain ⟨W, env, fp, xf, K0, E, S, hm, nx, bk, ct, rt⟩ := h
  refine LPl.next E S hm fun i p ⟨ne, t, et, hn0, hn⟩ u W1 H1 t1 S1 E1 P => ?_
  obtain ⟨fs, rest, os, pm, k⟩ := place_ok E1 P et
  obtain ⟨a0, rfl⟩ : ∃ a0, u = .ref a0 := by
    cases os with
    | leaf _ => cases hn0
    | lst _ _ => exact ⟨_, rfl⟩
    | tup _ _ => exact ⟨_, rfl⟩
    | ins _ _ => exact ⟨_, rfl⟩
    | d0 _ => exact ⟨_, rfl⟩
    | xo _ => exact ⟨_, rfl⟩
    | dk _ _ => exact ⟨_, rfl⟩
  obtain ⟨fp', E2, p2⟩ := k W1 H1 (.leaf .any) [] (.refl _) (fun a _ o e => e) (.leaf (.any a0))
  have q : (fs ++ fp').Perm fp := (p2.append_left fs).trans pm.symm
  have S2 : Sat X.K W1 H1 ([] ++ (fs ++ fp')) xf := S1.perm q fun _ m => m
  obtain ⟨fp3, xf3, E3, S3, y⟩ := E2.put (i := j) (fr := []) (f := fs) (r := .nw t) (v := .ref a0) S2 os
  refine nx _ hn _ W1 H1 fp3 xf3 ⟨t1.up, E3, S3, fun a m => .inl (q.mem_iff.mp (List.mem_append.mpr (y a m))), fun i2 m => ?_⟩
  rw [List.getElem?_set_ne]
  intro e
  exact hp (by rw [e]; exact m)
theorem tree_other {env : Env} {i j : Nat} {p : List Nat} {r : Option Rs} (ne : i ≠ j) : tree (env.set j r) i p = tree env i p := by
  unfold tree
  rw [List.getElem?_set_ne (Ne.symm ne)]
theorem ds_appPop {j : Nat} {nj : Str} {pj apos p2 apos3 p4 : Pos} (ha : PE X a (LPl X.K pl)) (hj : PE X (.Name nj pj) (tVar j)) (hk : PE X b (LP X.K mk))
    (hst : starEach [b] X.env = (false, eval b X.env) :: starEach [] X.env := by rfl) (hst2 : starEach [.Call (.Attribute (.Name nj pj) "pop" apos3) [b] [] p4] X.env = (false, eval (.Call (.Attribute (.Name nj pj) "pop" apos3) [b] [] p4) X.env) :: starEach [] X.env := by rfl)
    (hbase : attributeBase (.Name nj pj) "pop" X.env (eval (.Name nj pj) X.env) = eval (.Name nj pj) X.env := by rfl) (hfew : ((backTo p4 (starEach [b] X.env)).all (fun x => !x.1) && (backToKw p4 (keywordEach [] X.env)).all (fun x => x.1.isSome)
      && decide ([b].length + ([] : List Keyword).length + (if ([] : List Keyword).isEmpty then 0 else 1) < 30)) = true := by rfl) (hline : (apos3.endLine == p4.line) = true := by rfl)
    (hE : ∀ (t : TE), PE X (.Call (.Attribute a "append" apos) [.Call (.Attribute (.Name nj pj) "pop" apos3) [b] [] p4] [] p2) t → PS X (.Expr (.Call (.Attribute a "append" apos) [.Call (.Attribute (.Name nj pj) "pop" apos3) [b] [] p4] [] p2) pos) (tDrop t) := by exact fun _ h => ps_expr h)
    (hB : ∀ (t1 : TE) (t2 : TA), PE X a t1 → PA X [.Call (.Attribute (.Name nj pj) "pop" apos3) [b] [] p4] t2 → PE X (.Call (.Attribute a "append" apos) [.Call (.Attribute (.Name nj pj) "pop" apos3) [b] [] p4] [] p2) (tBM X.K "list" rAppend t1 t2) := by exact fun _ _ h1 h2 => pe_bm PySem.F.plainAttrs_list PySem.F.slot_list_append PySem.F.type_list_append mt_append h1 h2) :
    PS X (.Expr (.Call (.Attribute a "append" apos) [.Call (.Attribute (.Name nj pj) "pop" apos3) [b] [] p4] [] p2) pos) (LS X.K ex pr (mAppPop pl j mk)) :=
  ps_imp (hE _ (hB _ _ ha (pa_cons (pe_bm PySem.F.plainAttrs_list PySem.F.slot_list_pop PySem.F.type_list_pop mt_popAt hj (da_cons hk da_nil hst) hbase hfew hline hst) pa_nil hst2))) fun D σ H h => by
  obtain ⟨W, env, fp, xf, K0, E, S, hm, nx, bk, ct, rt⟩ := h
  refine LPl.next E S hm fun i p ⟨ne, ts, us, et, ej, hl, hq⟩ u W1 H1 t1 S1 E1 P => ?_
  obtain ⟨p0, vs0, g0, rfl, hp0, _⟩ := wr_list (pr := pr) E1 S1 P et
  refine ⟨.inl ⟨rfl, _, .of hp0⟩, ?_⟩
  obtain ⟨vj, evj, _⟩ := E1.get ej S1
  have Pj : PlOk X.K W1 H1 σ env vj j [] := ⟨_, vj, _, ej, evj, .nil⟩
  obtain ⟨pj, vsj, gj, rfl, hpj, _⟩ := wr_list (pr := pr) E1 S1 Pj (tree_at ej rfl)
  refine ⟨_, evj, .inl ⟨rfl, _, .of hpj⟩, ?_⟩
  refine LA.next (m := mCons mk mNil) E1 S1 (Q1 := one1 fun r => ∃ n m d, r = .fz (.int n) ∧ -1000000 ≤ n ∧ n ≤ 1000000 ∧ ixN' us.length n = some m ∧ us[m]? = some (.leaf d) ∧ K0.nx (put (env.set j (some (.nw (.lst (us.eraseIdx m))))) i p (.lst (ts ++ [OT.leaf d])))) hq fun rs hr vs W2 H2 g t2 S2 E2 os G => ?_
  obtain ⟨r, rfl, n, m, d, rfl, b1, b2, em, ed, hn⟩ := one1_inv hr
  obtain ⟨v, rfl, o⟩ := os.one G
  have Pj2 := Pj.keep E1 S1 t2
  have P2 := P.keep E1 S1 t2
  obtain ⟨pj', vsj', gj', e1, hpj2, wj, ndj, subj, kkj⟩ := wr_list (pr := pr) E2 S2 Pj2 (tree_at ej rfl)
  cases e1
  obtain ⟨y, ey, ry⟩ := own_leaf wj ed
  obtain ⟨g', w', sl⟩ := own_erase m wj
  obtain ⟨fp', E3, S3, st, yy⟩ := kkj (vsj'.eraseIdx m) (us.eraseIdx m) g' w' ((List.nodup_cons.mp ndj).2.sublist sl) fun a m => by
    have m2 := sl.subset m
    have mf := subj a (List.mem_cons_of_mem _ m2)
    exact ⟨.inl m2, (S2.off a mf).1, (S2.off a mf).2.1⟩
  have ep : put env j [] (.lst (us.eraseIdx m)) = env.set j (some (.nw (.lst (us.eraseIdx m)))) := put_at ej
  rw [ep] at E3
  have fin : ∀ a ∈ fp', a ∈ fp := fun a m => (yy a m).elim id fun q => subj a (List.mem_cons_of_mem _ (sl.subset q))
  have P3 : PlOk X.K W2 (upd H2 pj (.lst (vsj'.eraseIdx m))) σ (env.set j (some (.nw (.lst (us.eraseIdx m))))) (.ref p0) i p := by
    obtain ⟨t0, v0, s2, he, ev, ap⟩ := P2
    obtain ⟨vj2, fj, fp1, xf1, evj2, owj, Ej, Sj, pj1, _⟩ := E2.take S2 ej
    have he' : (env.set j none)[i]? = some (some (.nw t0)) := by rw [List.getElem?_set_ne (Ne.symm ne)]; exact he
    obtain ⟨f, rest, ow, pmf, _⟩ := Ej.slot he' ev
    have evj3 : vj2 = .ref pj := by rw [evj] at evj2; cases evj2; rfl
    subst evj3
    have mj : pj ∈ fj := by cases owj with | lst _ _ => exact List.mem_cons_self
    have n3 := (List.nodup_append.mp (pj1.nodup_iff.mp S2.nd)).2.2
    refine ⟨t0, v0, s2, by rw [List.getElem?_set_ne (Ne.symm ne)]; exact he, ev, ap.mono ow fun a m o e => (upd_ne fun q => ?_).trans e⟩
    subst q
    exact n3 a mj a (pmf.mem_iff.mpr (List.mem_append_left _ m)) rfl
  obtain ⟨p3, vs3, g3, e3, hp3, w3, nd3, sub3, kk3⟩ := wr_list (pr := pr) E3 S3 P3 (by rw [tree_other ne]; exact et)
  cases e3
  obtain ⟨fp4, E4, S4, st4, y4⟩ := kk3 (vs3 ++ [y]) (ts ++ [.leaf d]) (g3 ++ []) (w3.snoc (.leaf ry)) (by rw [List.append_nil]; exact (List.nodup_cons.mp nd3).2) fun a m => by
    rw [List.append_nil] at m
    have mf := sub3 a (List.mem_cons_of_mem _ m)
    exact ⟨.inl m, (S3.off a mf).1, (S3.off a mf).2.1⟩
  refine ⟨pj, vsj', n, m, y, rfl, by rw [int_of o], hpj2, by omega, by omega, by rw [wj.len, ← seqIx]; exact em, ey, ?_⟩
  refine ⟨p0, vs3, y, rfl, rfl, hp3, by rw [← sizeL_eq, w3.len]; exact hl, nx _ hn σ W2 _ fp4 xf ⟨(((t1.tr0 t2).up).trans st fun a m => .inl m).trans st4 fun a m => .inl (fin a m), E4, S4, fun a m => ?_, fun _ _ => rfl⟩⟩
  rcases y4 a m with q | q
  · exact .inl (fin a q)
  · rw [List.append_nil] at q
    exact .inl (fin a (sub3 a (List.mem_cons_of_mem _ q)))
end
end R
namespace R
open PySem
def csc : List Nat → List Nat → List (List Nat) → Nat → List Nat → List (List Nat) × List Nat
  | [s], _, c :: cs, m, q => if c.length + 1 < s then ((c ++ [m]) :: cs, q) else ([] :: cs, q ++ (c ++ [m]))
  | s :: s2 :: ss, fw, c :: cs, m, q => if c.length + 1 < s then ((c ++ [m]) :: cs, q) else
      ([] :: (csc (s2 :: ss) (fw.drop 1) cs (pk (c ++ [m]) (pk fw 0)) (q ++ (c ++ [m]).eraseIdx (pk fw 0))).1, (csc (s2 :: ss) (fw.drop 1) cs (pk (c ++ [m]) (pk fw 0)) (q ++ (c ++ [m]).eraseIdx (pk fw 0))).2)
  | _, _, cs, _, q => (cs, q)
inductive Val : List Nat → List (List Nat) → Prop where
  | nil : Val [] []
  | cons {s : Nat} {ss : List Nat} {c : List Nat} {cs : List (List Nat)} : c.length < s → Val ss cs → Val (s :: ss) (c :: cs)
def ctr : List Nat → List (List Nat) → Nat
  | s :: ss, c :: cs => c.length + s * ctr ss cs
  | _, _ => 0
def prR : List Nat → Nat
  | [] => 1
  | s :: ss => s * prR ss
theorem prR_eq (sz : List Nat) : prodL sz = prR sz := by
  have key : ∀ (sz : List Nat) (a : Nat), sz.foldl (· * ·) a = a * prR sz := by
    intro sz
    induction sz with
    | nil => intro a; simp [prR]
    | cons s ss ih => intro a; rw [List.foldl_cons, ih, prR, Nat.mul_assoc]
  unfold prodL
  rw [key, Nat.one_mul]
theorem ctr_lt : ∀ {sz : List Nat} {cs : List (List Nat)}, Val sz cs → ctr sz cs < prR sz
  | _, _, .nil => by simp [ctr, prR]
  | _, _, .cons (s := s) (ss := ss) (cs := cs) h v => by
    have ih := ctr_lt v
    rw [ctr, prR]
    have : s * (ctr ss cs + 1) ≤ s * prR ss := Nat.mul_le_mul_left s ih
    rw [Nat.mul_succ] at this
    omega
theorem csc_ctr : ∀ {sz fw : List Nat} {cs : List (List Nat)} {m : Nat} {q : List Nat}, sz ≠ [] → Val sz cs → Val sz (csc sz fw cs m q).1 ∧ ctr sz (csc sz fw cs m q).1 = if ctr sz cs + 1 < prR sz then ctr sz cs + 1 else 0
  | [], _, _, _, _, h, _ => absurd rfl h
  | [s], fw, _, m, q, _, .cons (c := c) (cs := cs) h v => by
    cases v
    rw [csc]
    by_cases k : c.length + 1 < s
    · rw [if_pos k]
      refine ⟨.cons (by simpa using k) .nil, ?_⟩
      simp [ctr, prR, k]
    · rw [if_neg k]
      refine ⟨.cons (by simp; omega) .nil, ?_⟩
      simp [ctr, prR, k]
  | s :: s2 :: ss, fw, _, m, q, _, .cons (c := c) (cs := cs) h v => by
    rw [csc]
    obtain ⟨v2, e2⟩ := csc_ctr (sz := s2 :: ss) (fw := fw.drop 1) (cs := cs) (m := pk (c ++ [m]) (pk fw 0)) (q := q ++ (c ++ [m]).eraseIdx (pk fw 0)) (by simp) v
    have lt := ctr_lt v
    by_cases k : c.length + 1 < s
    · rw [if_pos k]
      refine ⟨.cons (by simpa using k) v, ?_⟩
      have : s * (ctr (s2 :: ss) cs + 1) ≤ s * prR (s2 :: ss) := Nat.mul_le_mul_left s lt
      rw [Nat.mul_succ] at this
      rw [ctr, ctr, prR, List.length_append, List.length_singleton, if_pos (by omega)]
      omega
    · rw [if_neg k]
      refine ⟨.cons (by show 0 < s; omega) v2, ?_⟩
      have hs : c.length + 1 = s := by omega
      show 0 + s * ctr (s2 :: ss) _ = _
      have e4 : ctr (s :: s2 :: ss) (c :: cs) = c.length + s * ctr (s2 :: ss) cs := rfl
      have e5 : prR (s :: s2 :: ss) = s * prR (s2 :: ss) := rfl
      rw [e2, e4, e5]
      have e3 : c.length + s * ctr (s2 :: ss) cs + 1 = s * (ctr (s2 :: ss) cs + 1) := by rw [Nat.mul_succ]; omega
      rw [e3]
      by_cases z : ctr (s2 :: ss) cs + 1 < prR (s2 :: ss)
      · rw [if_pos z, if_pos (Nat.mul_lt_mul_of_pos_left z (by omega)), Nat.zero_add]
      · rw [if_neg z, if_neg (by
          intro y
          exact z (Nat.lt_of_mul_lt_mul_left y)), Nat.mul_zero]
def totM (cs : List (List Nat)) : Nat := (cs.map List.length).sum
theorem ctr_zero : ∀ {sz : List Nat} {cs : List (List Nat)}, Val sz cs → (ctr sz cs = 0 ↔ totM cs = 0)
  | _, _, .nil => by simp [ctr, totM]
  | _, _, .cons (s := s) (ss := ss) (c := c) (cs := cs) h v => by
    have ih := ctr_zero v
    show (c.length + s * ctr ss cs = 0) ↔ ((c :: cs).map List.length).sum = 0
    rw [List.map_cons, List.sum_cons]
    show _ ↔ c.length + totM cs = 0
    constructor
    · intro e
      have h0 : c.length = 0 := by omega
      have h1 : s * ctr ss cs = 0 := by omega
      rcases Nat.mul_eq_zero.mp h1 with z | z
      · omega
      · have := ih.mp z
        omega
    · intro e
      have h0 : c.length = 0 := by omega
      have := ih.mpr (by omega)
      rw [this, h0, Nat.mul_zero]
theorem tot_zero : ∀ {cs : List (List Nat)}, totM cs = 0 → cs = List.replicate cs.length []
  | [], _ => rfl
  | c :: cs, h => by
    have h : c.length + totM cs = 0 := h
    rw [List.length_cons, List.replicate_succ, ← tot_zero (cs := cs) (by omega), List.eq_nil_of_length_eq_zero (l := c) (by omega)]
theorem val_len {sz : List Nat} {cs : List (List Nat)} (v : Val sz cs) : cs.length = sz.length := by
  induction v with
  | nil => rfl
  | cons _ _ ih => rw [List.length_cons, List.length_cons, ih]
theorem val_nil : ∀ {sz : List Nat}, (∀ s ∈ sz, 1 ≤ s) → Val sz (List.replicate sz.length [])
  | [], _ => .nil
  | s :: ss, h => .cons (h s List.mem_cons_self) (val_nil fun x m => h x (List.mem_cons_of_mem _ m))
theorem csc_tot : ∀ {sz fw : List Nat} {cs : List (List Nat)} {m : Nat} {q : List Nat}, sz ≠ [] → fw.length + 1 = sz.length → (∀ i, i < fw.length → pk fw i < pk sz i) → Val sz cs → (csc sz fw cs m q).2.length + totM (csc sz fw cs m q).1 = q.length + totM cs + 1
  | [], _, _, _, _, h, _, _, _ => absurd rfl h
  | [s], fw, _, m, q, _, _, _, .cons (c := c) (cs := cs) h v => by
    cases v
    rw [csc]
    split
    · simp [totM]; omega
    · simp [totM]; omega
  | s :: s2 :: ss, fw, _, m, q, _, hf, hi, .cons (c := c) (cs := cs) h v => by
    rw [csc]
    have ih := csc_tot (sz := s2 :: ss) (fw := fw.drop 1) (cs := cs) (m := pk (c ++ [m]) (pk fw 0)) (q := q ++ (c ++ [m]).eraseIdx (pk fw 0)) (by simp) (by rw [List.length_drop]; simp at hf ⊢; omega) (fun i h => by
      rw [List.length_drop] at h
      have := hi (i + 1) (by omega)
      have e1 : pk (fw.drop 1) i = pk fw (i + 1) := by
        rw [pk_lt (by rw [List.length_drop]; omega), pk_lt (by omega), List.getElem_drop]
        congr 1
        omega
      rw [e1]
      exact this) v
    have h0 := hi 0 (by simp at hf; omega)
    have h0 : pk fw 0 < s := h0
    split
    · simp [totM]; omega
    · rename_i k
      have e : ∀ x : List (List Nat), totM ([] :: x) = totM x := fun x => by simp [totM]
      show (csc (s2 :: ss) _ _ _ _).2.length + totM ([] :: (csc (s2 :: ss) _ _ _ _).1) = _
      rw [e, ih, List.length_append, List.length_eraseIdx, List.length_append, List.length_singleton, if_pos (by omega)]
      show _ = q.length + (c.length + totM cs) + 1
      omega
theorem csc_casc : ∀ {sz fw : List Nat} {cs : List (List Nat)} {m : Nat} {q : List Nat}, sz ≠ [] → fw.length + 1 = sz.length → Val sz cs →
    ((casc sz (fw ++ [0]) cs m q).2.2 = none → csc sz fw cs m q = ((casc sz (fw ++ [0]) cs m q).1, (casc sz (fw ++ [0]) cs m q).2.1)) ∧
    ∀ m', (casc sz (fw ++ [0]) cs m q).2.2 = some m' → ∃ A row, row.length = pk sz fw.length ∧ m' = pk row 0 ∧ (casc sz (fw ++ [0]) cs m q).2.1 = A ++ row.eraseIdx 0 ∧ csc sz fw cs m q = ((casc sz (fw ++ [0]) cs m q).1, A ++ row)
  | [], _, _, _, _, h, _, _ => absurd rfl h
  | [s], fw, _, m, q, _, hf, .cons (c := c) (cs := cs) h v => by
    cases v
    have : fw = [] := List.eq_nil_of_length_eq_zero (by simpa using hf)
    subst this
    show ((casc [s] [0] [c] m q).2.2 = none → _) ∧ ∀ m', (casc [s] [0] [c] m q).2.2 = some m' → _
    rw [List.nil_append, casc, csc]
    by_cases k : c.length + 1 = s
    · rw [if_pos k, if_neg (by omega)]
      refine ⟨fun e => ?_, fun m' e => ⟨q, c ++ [m], ?_, ?_, ?_, ?_⟩⟩
      · cases e
      · rw [List.length_append, List.length_singleton, k] <;> rfl
      · cases e; rfl
      · rfl
      · rfl
    · rw [if_neg k, if_pos (by omega)]
      exact ⟨fun _ => rfl, fun m' e => by cases e⟩
  | s :: s2 :: ss, fw, _, m, q, _, hf, .cons (c := c) (cs := cs) h v => by
    obtain ⟨f, fw, rfl⟩ : ∃ f fw', fw = f :: fw' := by
      cases fw with
      | nil => simp at hf
      | cons f fw => exact ⟨f, fw, rfl⟩
    obtain ⟨i1, i2⟩ := csc_casc (sz := s2 :: ss) (fw := fw) (cs := cs) (m := pk (c ++ [m]) f) (q := q ++ (c ++ [m]).eraseIdx f) (by simp) (by simpa using hf) v
    show ((casc (s :: s2 :: ss) (f :: (fw ++ [0])) (c :: cs) m q).2.2 = none → _ = ((casc (s :: s2 :: ss) (f :: (fw ++ [0])) (c :: cs) m q).1, _)) ∧ ∀ m', (casc (s :: s2 :: ss) (f :: (fw ++ [0])) (c :: cs) m q).2.2 = some m' → _
    rw [List.cons_append, casc, csc]
    by_cases k : c.length + 1 = s
    · rw [if_pos k, if_neg (by omega)]
      refine ⟨fun e => ?_, fun m' e => ?_⟩
      · have := i1 e
        show ([] :: (csc (s2 :: ss) fw cs (pk (c ++ [m]) f) (q ++ (c ++ [m]).eraseIdx f)).1, (csc (s2 :: ss) fw cs (pk (c ++ [m]) f) (q ++ (c ++ [m]).eraseIdx f)).2) = _
        rw [this]
      · obtain ⟨A, row, a, b, d, g⟩ := i2 m' e
        refine ⟨A, row, a, b, d, ?_⟩
        show ([] :: (csc (s2 :: ss) fw cs (pk (c ++ [m]) f) (q ++ (c ++ [m]).eraseIdx f)).1, (csc (s2 :: ss) fw cs (pk (c ++ [m]) f) (q ++ (c ++ [m]).eraseIdx f)).2) = _
        rw [g]
    · rw [if_neg k, if_pos (by omega)]
      exact ⟨fun _ => rfl, fun m' e => by cases e⟩
theorem round_end {sz fw : List Nat} {q : List Nat} (hl : fw.length + 1 = sz.length) (hs : ∀ i, i < sz.length → 1 ≤ pk sz i) (hi : ∀ i, i < fw.length → pk fw i < pk sz i) (hq : least sz sz.length ≤ q.length) :
    Run sz (fw ++ [0]) (prodL sz) (List.replicate sz.length []) q (pk q (ent sz (fw ++ [0]) sz.length q.length).1) ((ent sz (fw ++ [0]) sz.length q.length).2.map (pk q)) ∧
    ∀ A row, row.length = pk sz fw.length → pk q (ent sz (fw ++ [0]) sz.length q.length).1 = pk row 0 → (ent sz (fw ++ [0]) sz.length q.length).2.map (pk q) = A ++ row.eraseIdx 0 → A ++ row = (rnd sz fw q.length).map (pk q) := by
  have C : Cups sz (fw ++ [0]) sz.length := ⟨Nat.le_refl _, hs, fun i h => by
    by_cases k : i < fw.length
    · rw [pk_app k]; exact hi i k
    · have e : i = fw.length + 0 := by omega
      rw [e, pk_app2 (by simp)]
      exact hs _ (by omega)⟩
  have r := run_block (sz := sz) (fw := fw ++ [0]) C (by rw [List.length_append, List.length_singleton]; omega) hq
  rw [List.take_length, List.take_of_length_le (by rw [List.length_append, List.length_singleton]; omega)] at r
  refine ⟨r, fun A row h1 h2 h3 => ?_⟩
  have e1 : sz.length = fw.length + 1 := by omega
  have ec : ∀ n, ent sz (fw ++ [0]) fw.length n = ent sz fw fw.length n := fun n => ent_congr (fun _ _ => rfl) (fun i h => pk_app h) n
  have ef : fil sz (fw ++ [0]) fw.length q.length = fil sz fw fw.length q.length := by
    unfold fil
    rw [show ent sz (fw ++ [0]) fw.length = ent sz fw fw.length from funext ec]
  have p0 : pk (fw ++ [0]) fw.length = 0 := by
    have := pk_app2 (l := fw) (m := [0]) (i := 0) (by simp)
    rw [Nat.add_zero] at this
    rw [this] <;> rfl
  have ee : ent sz (fw ++ [0]) sz.length q.length = (pk (fil sz fw fw.length q.length).1 0, (fil sz fw fw.length q.length).2 ++ (fil sz fw fw.length q.length).1.eraseIdx 0) := by
    rw [e1]
    show (pk (fil sz (fw ++ [0]) fw.length q.length).1 (pk (fw ++ [0]) fw.length), (fil sz (fw ++ [0]) fw.length q.length).2 ++ (fil sz (fw ++ [0]) fw.length q.length).1.eraseIdx (pk (fw ++ [0]) fw.length)) = _
    rw [ef, p0]
  have hfl : (fil sz fw fw.length q.length).1.length = pk sz fw.length := by
    have C2 : Cups sz fw fw.length := ⟨by omega, fun i h => hs i (by omega), hi⟩
    have hq2 := hq
    rw [e1, least_succ (by omega)] at hq2
    have hl1 : 1 ≤ least sz fw.length := by unfold least; omega
    have := (fillN_perm (e := ent sz fw fw.length) (pk sz fw.length) ([], List.range q.length) (fun k hk => by
      show Pm (ent sz fw fw.length ((List.range q.length).length - k)) ((List.range q.length).length - k)
      rw [List.length_range]
      exact ent_perm C2 (by omega)) (by show pk sz fw.length ≤ (List.range q.length).length; rw [List.length_range]; omega)).2
    have b : (fil sz fw fw.length q.length).1.length = 0 + pk sz fw.length := this
    omega
  rw [ee] at h2 h3
  generalize hI : (fil sz fw fw.length q.length).1 = I at *
  generalize hRr : (fil sz fw fw.length q.length).2 = Rr at *
  have hs0 := hs fw.length (by omega)
  cases I with
  | nil => simp at hfl; omega
  | cons a I =>
    cases row with
    | nil => simp at h1; omega
    | cons b row =>
      have h2 : pk q a = b := h2
      have h3 : (Rr ++ I).map (pk q) = A ++ row := h3
      rw [List.map_append] at h3
      have hlen : (I.map (pk q)).length = row.length := by
        rw [List.length_map]
        simp at hfl h1
        omega
      obtain ⟨x1, x2⟩ := List.append_inj' h3 hlen
      unfold rnd
      rw [hI, hRr, List.map_append, List.map_cons, x1, x2, h2]
end R
namespace R
open PySem PySem.Spec PyProof.Rows L2
abbrev DX := Env → (Rs → Env → Prop) → Prop
def insAll : Env → List Nat → Env → Env
  | e, i :: is, some (.fz d) :: ss => insAll (e.set i (some (.fz d))) is ss
  | e, i :: is, some (.nw t) :: ss => insAll (e.set i (some (.nw t))) is ss
  | e, _ :: is, _ :: ss => insAll e is ss
  | e, _, _ => e
def mCallV (n : Nat) (F : Spec) (is : List Nat) (ma : DA) (dv : List D) : DX := fun env Q => ∃ ts e, moveAll env is = some (ts, e) ∧ ma env fun rs => ∃ ds, rs = ds.map .fz ∧ ts.length + ds.length + dv.length = n ∧
  F ((ts.map fun t => some (nwOf t)) ++ (ds ++ dv).map fun d => some (.fz d)) fun r ss' => Q r (insAll e is ss')
def mDropX (a : DX) : DS := fun env D => a env fun _ e => D.nx e
def LM (K : PySem.W.Frag) (m : DX) : TE := fun σ H Q => ∃ (W : Wd) (env : Env) (fp xf : List Addr) (Q0 : Rs → Env → Prop), EnvOk K W H σ env fp xf ∧ Sat K W H fp xf ∧ m env Q0 ∧
  ∀ r e, Q0 r e → ∀ v W' H' fp' xf', Stp W H fp W' H' → EnvOk K W' H' σ e fp' xf' → Sat K W' H' fp' xf' → (∀ a ∈ fp', a ∈ fp ∨ H a = none) → RetOk K H fp fp' W' H' v r → Q v H'
def tVA (is : List Nat) (t : TA) : TA := fun σ H Q => ∃ vs, VarsAt σ is vs ∧ t σ H fun us H' => Q (vs ++ us) H'
section
variable {K : PySem.W.Frag} {W W1 W2 W' : Wd} {H H1 H2 H' : Hp} {f f1 fp fp1 fp2 xf xf1 xf2 : List Addr} {σ σ1 σ2 : L2.St} {Q : VK} {r : Rs} {v : V} {env env1 env2 : Env}
theorem moved_env : ∀ {vs : List V} {ts : List OT} {g : List Addr}, OwnAll K W H vs ts g → EnvOk K W H (vs.map some) (ts.map fun t => some (nwOf t)) g []
  | _, _, _, .nil => .nil
  | _, .leaf d :: _, _, .cons (.leaf q) w => .fz q (moved_env w)
  | _, .lst _ :: _, _, .cons o w => .nw o (moved_env w)
  | _, .tup _ :: _, _, .cons o w => .nw o (moved_env w)
  | _, .ins _ _ _ :: _, _, .cons o w => .nw o (moved_env w)
  | _, .d0 :: _, _, .cons o w => .nw o (moved_env w)
  | _, .xo _ _ _ _ :: _, _, .cons o w => .nw o (moved_env w)
  | _, .dk _ _ :: _, _, .cons o w => .nw o (moved_env w)
theorem ins_ok : ∀ {is : List Nat} {vs more : List V} {ss : Env} {e : Env} {fpA fpB xfA xfB : List Addr}, VarsAt σ is vs → EnvOk K W H ((vs ++ more).map some) ss fpB xfB → EnvOk K W H σ e fpA xfA → Sat K W H (fpB ++ fpA) xfA →
    ∃ fp2 xf2, EnvOk K W H σ (insAll e is ss) fp2 xf2 ∧ Sat K W H fp2 xf2 ∧ ∀ a ∈ fp2, a ∈ fpB ∨ a ∈ fpA
  | [], vs, more, ss, e, fpA, fpB, xfA, xfB, hv, E', E, S => by
    refine ⟨fpA, xfA, ?_, S.less, fun a m => .inr m⟩
    cases ss with
    | nil => exact E
    | cons s ss => exact E
  | i :: is, vs, more, ss, e, fpA, fpB, xfA, xfB, ⟨v, us, ev, es, hv⟩, E', E, S => by
    subst ev
    have E' : EnvOk K W H (some v :: (us ++ more).map some) ss fpB xfB := E'
    have ses : σ.set i (some v) = σ := List.set_getElem_self_some es
    cases E' with
    | no E2 =>
      obtain ⟨fp2, xf2, a, b, c⟩ := ins_ok (is := is) hv E2 E S
      exact ⟨fp2, xf2, a, b, c⟩
    | @fz _ d _ _ _ _ q E2 =>
      obtain ⟨fp', xf', E3, S3, y⟩ := E.put (i := i) (fr := fpB) (f := []) (r := .fz d) (v := v) S ⟨rfl, q⟩
      rw [ses] at E3
      obtain ⟨fp2, xf2, a, b, c⟩ := ins_ok hv E2 E3 S3
      exact ⟨fp2, xf2, a, b, fun x m => (c x m).imp id fun m => (y x m).elim (fun z => by cases z) id⟩
    | @nw _ t f _ _ fpB' _ q E2 =>
      have S1 : Sat K W H (fpB' ++ (f ++ fpA)) xfA := S.perm (by
        rw [← List.append_assoc]
        exact List.perm_append_comm.append_right _) fun _ m => m
      obtain ⟨fp', xf', E3, S3, y⟩ := E.put (i := i) (fr := fpB') (f := f) (r := .nw t) (v := v) S1 q
      rw [ses] at E3
      obtain ⟨fp2, xf2, a, b, c⟩ := ins_ok hv E2 E3 S3
      exact ⟨fp2, xf2, a, b, fun x m => (c x m).elim (fun m => .inl (List.mem_append_right _ m)) fun m => (y x m).elim (fun z => .inl (List.mem_append_left _ z)) .inr⟩
    | ex q E2 =>
      obtain ⟨fp2, xf2, a, b, c⟩ := ins_ok (is := is) hv E2 E S
      exact ⟨fp2, xf2, a, b, c⟩
theorem fz_args : ∀ {ds : List D} {vs : List V} {g : List Addr}, ResAll K H fp W' H' vs (ds.map .fz) g → RepAll K W' vs ds ∧ g = []
  | [], _, _, h => by cases h; exact ⟨.nil, rfl⟩
  | d :: ds, _, _, h => by
    cases h with
    | fz a b =>
      obtain ⟨c, e⟩ := fz_args b
      exact ⟨.cons a c, e⟩
end
section
variable {X : Cx} {CX : CXT} {k n : Nat} {f : Addr} {fd : FuncData} {ps : List Str} {F0 : Spec} {dvs : List V} {dv : List D} {ds : List Value} {E : XK} {x nm : Str} {p pos apos : Pos} {e a : Expr} {es : List Expr} {ma : DA} {ta : DT} {pr : List Nat} {is : List Nat} {m m1 m2 : DS} {mx : DX} {s1 s2 : List Stmt} {i : Nat}
theorem dva_nil {t : TA} (h : PA X es t) : PA X es (tVA [] t) := pa_imp h fun σ H Q ⟨vs, e, q⟩ => by
  rw [show vs = [] from e] at q
  exact q
theorem dva_cons {t : TA} (hr : PA X es (tVA is t)) (hv : PE X (.Name nm apos) (tVar i)) (hs : starEach (.Name nm apos :: es) X.env = (false, eval (.Name nm apos) X.env) :: starEach es X.env := by rfl) : PA X (.Name nm apos :: es) (tVA (i :: is) t) :=
  pa_imp (pa_cons hv hr hs) fun σ H Q ⟨vs, ⟨v, us, e, ev, q⟩, k⟩ => by
    subst e
    exact ⟨v, ev, us, q, k⟩
theorem callV_ok {σ : L2.St} {H : Hp} {Q : VK} {vs : List V} {W : Wd} {env : Env} {fp xf : List Addr} {Q0 : Rs → Env → Prop} {ts : List OT} {e0 : Env} (En : EnvOk X.K W H σ env fp xf) (S : Sat X.K W H fp xf) (hmv : moveAll env is = some (ts, e0)) (hd : ∀ W, RepAll X.K W dvs dv)
    (k : ∀ r e, Q0 r e → ∀ v W' H' fp' xf', Stp W H fp W' H' → EnvOk X.K W' H' σ e fp' xf' → Sat X.K W' H' fp' xf' → (∀ a ∈ fp', a ∈ fp ∨ H a = none) → RetOk X.K H fp fp' W' H' v r → Q v H')
    (hma : ma env fun rs => ∃ ds, rs = ds.map .fz ∧ ts.length + ds.length + dv.length = n ∧ F0 ((ts.map fun t => some (nwOf t)) ++ (ds ++ dv).map fun d => some (.fz d)) fun r ss' => Q0 r (insAll e0 is ss')) :
    tVA is (LA X.K ma) σ H fun us H1 => spR X.K n F0 (us ++ dvs) H1 Q E := by
  obtain ⟨vs, g, fp1, xf1, hv, ow, E1, S1, pm, xsub⟩ := move_ok En S hmv
  refine ⟨vs, hv, LA.next En S hma fun rs ⟨dsD, e1, hn, hF⟩ us W1 H1 g1 t1 St1 E2 os G => ?_⟩
  subst e1
  obtain ⟨rus, rfl⟩ := fz_args os
  have le1 := t1.le S fun _ m => by cases m
  have ing : ∀ a ∈ g, a ∈ fp := fun a m => pm.mem_iff.mpr (List.mem_append_left _ m)
  have in1 : ∀ a ∈ fp1, a ∈ fp := fun a m => pm.mem_iff.mpr (List.mem_append_right _ m)
  obtain ⟨n1, n2, n3⟩ := List.nodup_append.mp (pm.nodup_iff.mp S.nd)
  have keep1 : ∀ a, a ∈ fp ∨ a ∈ xf → ∀ o, H a = some o → H1 a = some o := fun a m o e => t1.kp a o e (by simp) (m.elim (fun q => (S.off a q).2.1) fun q => (S.xof a q).2.1)
  have ow1 := ow.mono le1 fun a m => keep1 a (.inl (ing a m))
  have Ea := moved_env ow1
  have Ec := EnvOk.consts (K := X.K) (W := W1) (H := H1) (rus.app (hd W1))
  obtain ⟨xa, Eall, xz⟩ := Ec.app Ea
  have ex0 : xa = [] := by
    cases xa with
    | nil => rfl
    | cons b bs => rcases xz b List.mem_cons_self with q | q <;> cases q
  subst ex0
  rw [List.append_nil] at Eall
  have Eall : EnvOk X.K W1 H1 ((vs ++ us ++ dvs).map some) ((ts.map fun t => some (nwOf t)) ++ (dsD ++ dv).map fun d => some (.fz d)) g [] := by
    have w := Eall
    rw [← List.map_append, ← List.append_assoc] at w
    exact w
  have Sg : Sat X.K W1 H1 g [] := ⟨St1.sub, St1.vol, n1, fun a m => St1.off a (ing a m), fun _ m => by cases m⟩
  have hlen : (vs ++ us ++ dvs).length = n := by
    rw [List.length_append, List.length_append, ow.len, rus.len, (hd W1).len]
    exact hn
  refine ⟨hlen, W1, _, g, [], _, Eall, Sg, hF, fun r ss' hq v W' H' fp' xf' t' E' S' nf ro => ?_⟩
  have E0 : EnvOk X.K W1 H1 σ e0 fp1 xf1 := E1.mono le1 fun a m => keep1 a (m.elim (fun q => .inl (in1 a q)) fun q => .inr (xsub a q))
  have le2 := t'.le Sg fun a m => .inl m
  have offg : ∀ a, a ∈ fp1 ∨ a ∈ xf1 → a ∉ g ∧ W1.S a = none ∧ H1 a ≠ none := fun a m => by
    rcases m with m | m
    · exact ⟨fun q => n3 a q a m rfl, (St1.off a (in1 a m)).2.1, (St1.off a (in1 a m)).2.2⟩
    · exact ⟨fun q => (S.xof a (xsub a m)).1 (ing a q), (St1.xof a (xsub a m)).2.1, (St1.xof a (xsub a m)).2.2⟩
  have E3 : EnvOk X.K W' H' σ e0 fp1 xf1 := E0.mono le2 fun a m o e => t'.kp a o e (offg a m).1 (offg a m).2.1
  have nfp : ∀ a ∈ fp', a ∉ fp1 ∧ a ∉ xf1 := fun a m => by
    refine ⟨fun q => ?_, fun q => ?_⟩
    · rcases nf a m with z | z
      · exact (offg a (.inl q)).1 z
      · exact (offg a (.inl q)).2.2 z
    · rcases nf a m with z | z
      · exact (offg a (.inr q)).1 z
      · exact (offg a (.inr q)).2.2 z
  have wx : ∀ a, a ∈ fp1 ∨ a ∈ xf1 → W'.G a = W1.G a ∧ W'.S a = W1.S a := fun a m => t'.wx a (offg a m).2.2 (offg a m).1
  have S3 : Sat X.K W' H' (fp' ++ fp1) xf1 := by
    refine ⟨S'.sub, S'.vol, List.nodup_append.mpr ⟨S'.nd, n2, fun a m b m2 e => (nfp a m).1 (by rw [e]; exact m2)⟩, fun a m => ?_, fun a m => ⟨fun q => ?_, ?_⟩⟩
    · rcases List.mem_append.mp m with m | m
      · exact S'.off a m
      · obtain ⟨w1, w2⟩ := wx a (.inl m)
        exact ⟨w1.trans (St1.off a (in1 a m)).1, w2.trans (St1.off a (in1 a m)).2.1, t'.al a (offg a (.inl m)).2.2⟩
    · rcases List.mem_append.mp q with q | q
      · exact (nfp a q).2 m
      · exact (S.xof a (xsub a m)).1 (in1 a q)
    · obtain ⟨w1, w2⟩ := wx a (.inr m)
      exact ⟨w2.trans (offg a (.inr m)).2.1, t'.al a (offg a (.inr m)).2.2⟩
  have E' : EnvOk X.K W' H' ((vs ++ (us ++ dvs)).map some) ss' fp' xf' := by rw [← List.append_assoc]; exact E'
  obtain ⟨fp2, xf2, E4, S4, y4⟩ := ins_ok hv E' E3 S3
  have none1 : ∀ a, H1 a = none → H a = none := fun a q => by
    cases z : H a with
    | none => rfl
    | some o => exact absurd q (t1.al a (some_ne z))
  have old : ∀ a ∈ fp', a ∈ fp ∨ H a = none := fun a m => (nf a m).imp (ing a) (none1 a)
  refine k r _ hq v W' H' fp2 xf2 (t1.up.trans t' fun a m => .inl (ing a m)) E4 S4 (fun a m => (y4 a m).elim (old a) fun m => .inl (in1 a m)) ?_
  cases r with
  | fz d => exact ro
  | nw t =>
    obtain ⟨fr, o, nd, z⟩ := ro
    refine ⟨fr, o, nd, fun a m => ⟨(z a m).1.elim (fun q => .inl (none1 a q)) fun q => .inr (ing a q), fun q => ?_, (z a m).2.2⟩⟩
    rcases y4 a q with q | q
    · exact (z a m).2.1 q
    · rcases (z a m).1 with w | w
      · exact (offg a (.inl q)).2.2 w
      · exact (offg a (.inl q)).1 w
  | br t => exact ro
  | ex t => exact ro
structure CalIO (P : Program) (w : World) (K : PySem.W.Frag) (mg : Str → Option Value) (base : Heap) (x : Str) (n : Nat) (F : Spec) (dv : List D) (k : Nat) : Prop where
  ex : ∃ (f : Addr) (fd : FuncData) (ps : List Str) (ds : List Value) (dvs : List V), FnOk P w K mg base CX0 k f fd ps (spR K n F) ∧ mg x = some (.ref f) ∧ PySem.W.keepIn K (.ref f) = true ∧ Binds K fd ps ds ∧ Vals dvs ds ∧ ∀ W, RepAll K W dvs dv
theorem dm_cal {j : Nat} (c : CalIO X.prog X.w X.K X.mg X.base x n F0 dv k) (hr : Room j X.A) (hk : k ≤ j) (ha : PA X (e :: es) (tVA is (LA X.K ma)))
    (hg : Gl X x := by rfl) (hst : starEach (e :: es) X.env = (false, eval e X.env) :: starEach es X.env := by rfl) (hpl : (backTo pos (starEach es X.env)).any (·.1) = false := by rfl) (hdb : (x == ("__debug__" : Str)) = false := by decide) :
    PE X (.Call (.Name x p) (e :: es) [] pos) (LM X.K (mCallV n F0 is ma dv)) := by
  obtain ⟨f, fd, ps, ds, dvs, F, hm, kp, b, d, r⟩ := c.ex
  refine pe_imp (pe_call F (hr.mono hk) hg hm kp b d (pass0 (X := X)) ha hdb hst hpl) fun σ H Q h => ?_
  obtain ⟨W, env, fp, xf, Q0, En, S, ⟨ts, e0, hmv, hma⟩, kk⟩ := h
  exact callV_ok (vs := []) En S hmv r kk hma
theorem ds_dropX (ha : PE X a (LM X.K mx)) (hs : swapsWith a none pos.line X.env = pure false := by rfl) : PS X (.Expr a pos) (LS X.K ex pr (mDropX mx)) := ps_imp (ps_expr ha hs) fun D σ H h => by
  obtain ⟨W, env, fp, xf, K0, E, S, hm, nx, bk, ct, rt⟩ := h
  exact ⟨W, env, fp, xf, _, E, S, hm, fun r e hq v W' H' fp' xf' t E' S' nf ro => nx e hq σ W' H' fp' xf' ⟨t, E', S', nf, fun _ _ => rfl⟩⟩
theorem LSs.post {ex : Nat → Hp → Prop} {W W' : Wd} {H H' : Hp} {fp fp' xf' : List Addr} {σ : L2.St} {e : Env} {D : Ends} {K0 : DK} (P : Post X.K W H fp pr σ σ W' H' e fp' xf') (hm : m e K0)
    (nx : ∀ e, K0.nx e → ∀ σ' W' H' fp' xf', Post X.K W H fp pr σ σ' W' H' e fp' xf' → D.nx σ' H') (bk : ∀ e, K0.bk e → ∀ σ' W' H' fp' xf', Post X.K W H fp pr σ σ' W' H' e fp' xf' → D.bk σ' H') (ct : ∀ e, K0.ct e → ∀ σ' W' H' fp' xf', Post X.K W H fp pr σ σ' W' H' e fp' xf' → D.ct σ' H')
    (rt : RtOk X.K ex W H fp pr σ K0.rt D.rt) : LS X.K ex pr m D σ H' :=
  ⟨W', e, fp', xf', K0, P.E, P.S, hm, fun e q σ' W2 H2 fp2 xf2 P2 => nx e q σ' W2 H2 fp2 xf2 (P.trans P2), fun e q σ' W2 H2 fp2 xf2 P2 => bk e q σ' W2 H2 fp2 xf2 (P.trans P2), fun e q σ' W2 H2 fp2 xf2 P2 => ct e q σ' W2 H2 fp2 xf2 (P.trans P2), rt.after P⟩
end
end R
namespace R
open PySem PySem.Spec PyProof.Rows L2
section
variable {prog : Program} {w : World} {A : Around}
theorem strs_get : ∀ {vs : List Value} {xs : List Str}, PyProof.Rows.StrsAre vs xs → ∀ (i : Nat) (v : Value), vs[i]? = some v → ∃ t, v = .str (xs.getD i Str.empty) t
  | _, _, .nil, i, v, h => by simp at h
  | _, _, .cons n t hr, 0, v, h => ⟨t, by simp at h; rw [← h]; rfl⟩
  | _, _, .cons n t hr, i + 1, v, h => by
    obtain ⟨t2, e2⟩ := strs_get hr i v (by simpa using h)
    exact ⟨t2, by rw [e2]; rfl⟩
def dstC (xs : List Str) : Nat → Nat
  | 0 => 0
  | n + 1 => if decide (xs.getD n Str.empty ∈ xs.take n) = true then dstC xs n else dstC xs n + 1
theorem dstC_le (xs : List Str) : ∀ n, dstC xs n ≤ n
  | 0 => Nat.le_refl _
  | n + 1 => by
    have := dstC_le xs n
    unfold dstC
    split <;> omega
theorem dstC_nd {xs : List Str} (h : xs.Nodup) : ∀ n, n ≤ xs.length → dstC xs n = n
  | 0, _ => rfl
  | n + 1, hn => by
    have ih := dstC_nd h n (by omega)
    unfold dstC
    rw [decide_eq_false, ih]
    · rfl
    · rw [List.getD_eq_getElem?_getD, List.getElem?_eq_getElem (by omega), Option.getD_some]
      intro q
      obtain ⟨j, hj, e⟩ := List.getElem_of_mem q
      rw [List.getElem_take] at e
      rw [List.length_take] at hj
      have := (List.getElem_inj h).mp e
      omega
theorem fill_loop {Rz : Result → Shared → Prop} {it : Addr} {fpr wrr : List Addr} {Gs : Array GenState → Array GenState → Prop} {m : Nat} {Pv : Nat → Value → Prop} {Sv : Nat → Shared → Prop} (wk : WalksS prog w A.in1 it fpr wrr Gs m Pv Sv) (sa : Addr) (off : sa ∉ fpr) (xs : List Str) (len : xs.length = m) (few : m ≤ 1000)
    (isx : ∀ i v, Pv i v → ∃ t, v = .str (xs.getD i Str.empty) t) : ∀ (todo i : Nat) (st : Shared), m - i = todo → i ≤ m → Sv i st → st.heap.SetOf (PySem.strKind prog w) sa (fun z => decide (z ∈ xs.take i)) (dstC xs i) →
      (∀ st2, Moved (sa :: wrr) Gs st st2 → st2.heap.SetOf (PySem.strKind prog w) sa (fun z => decide (z ∈ xs)) (dstC xs m) → Rz (.ok (.ret .none)) st2) → codeAny (model prog w) A (.builtin "set.update.loop" ⟨[.ref sa, .ref it], []⟩) Rz st := by
  have nw : sa ∉ wrr := fun q => off (wk.sub _ q)
  have up : ∀ b ∈ wrr, b ∈ sa :: wrr := fun b q => .tail _ q
  have moved : ∀ {a b : Shared} {S : Str → Bool} {c : Nat}, Moved wrr Gs a b → a.heap.SetOf (PySem.strKind prog w) sa S c → b.heap.SetOf (PySem.strKind prog w) sa S c := fun mv ⟨o, es, ep, tb, ho, z⟩ => ⟨o, es, ep, tb, mv.heap sa _ nw ho, z⟩
  intro todo
  induction todo with
  | zero =>
    intro i st h1 h2 here so fin
    obtain rfl : i = m := by omega
    rw [← len, List.take_length, len] at so
    apply codeAny_builtin PyProof.Rows.F.entry_set_update_loop
    rw [Around.under_plainId PyProof.Rows.F.plain_set_update_loop _]
    show wpAny _ A.in1 (pyNext (.ref it) >>= _) _ _ st
    exact wpAny_bind (wk.done st _ _ here fun st2 mv => wpAny_pure (fin st2 (mv.mono up) (moved mv so)))
  | succ todo ih =>
    intro i st h1 h2 here so fin
    have lt : i < m := by omega
    apply codeAny_builtin PyProof.Rows.F.entry_set_update_loop
    rw [Around.under_plainId PyProof.Rows.F.plain_set_update_loop _]
    show wpAny _ A.in1 (pyNext (.ref it) >>= _) _ _ st
    refine wpAny_bind (wk.item i st _ _ lt here fun v st2 hv here2 mv => ?_)
    obtain ⟨t, rfl⟩ := isx i v hv
    have so2 := moved mv so
    show wpAny _ A.in1 (holding [Value.str (xs.getD i Str.empty) t] (setAdd sa (.str (xs.getD i Str.empty) t)) >>= _) _ _ st2
    unfold setAdd
    refine wpAny_bind (wpAny_holding (wpAny_holding (wpAny_bind ((PySem.strKind prog w).pyHash (k := xs.getD i Str.empty) (strKind_is _ _ _ _) ?_))))
    refine wpAny_setAddHashed_of (knd := PySem.strKind prog w) (s := { st2 with toks := st2.toks + 1 }) (strKind_is _ _ _ _) rfl so2 (by have := dstC_le xs i; unfold scanBound; omega) fun hp same so3 => ?_
    have hi : i < xs.length := by omega
    have gd : xs.getD i Str.empty = xs[i] := by rw [List.getD_eq_getElem?_getD, List.getElem?_eq_getElem hi] <;> rfl
    have so4 : hp.SetOf (PySem.strKind prog w) sa (fun z => decide (z ∈ xs.take (i + 1))) (dstC xs (i + 1)) := SetOf_congr so3 (fun z => by
      rw [gd, List.take_succ_eq_append_getElem hi, ← Bool.decide_or]
      exact decide_eq_decide.mpr (by rw [List.mem_append, List.mem_singleton])) rfl
    refine wpAny_pure ⟨plainId_quiet PyProof.Rows.F.plain_set_update_loop _, ih (i + 1) _ (by omega) lt (wk.frame _ st2 _ _ here2 (Nat.le_succ _) fun b q o e => ?_) so4 fun st3 mv3 so5 => fin st3 (Moved.trans wk.gtrans ((mv.mono up).then_heap (Nat.le_succ _) fun b o q e => ?_) mv3) so5⟩
    · rw [same.2 b fun z => off (z ▸ q)]
      exact e
    · rw [same.2 b fun z => q (z ▸ List.mem_cons_self)]
      exact e
theorem set_strsB {st : Shared} {E : Value → Shared → Prop} {la : Addr} {its : Array Value} {xs : List Str} {Q : Value → Shared → Prop} (calm : A.handled = none) (isl : st.heap.IsList la its) (tx : PyProof.Rows.StrsAre its.toList xs) (few : xs.length ≤ 1000)
    (fin : ∀ (hp : Heap) (tk : Nat), hp.SetOf (PySem.strKind prog w) st.heap.objs.size (fun z => decide (z ∈ xs)) (dstC xs xs.length) → (∀ b o, b < st.heap.objs.size → st.heap.get? b = some o → hp.get? b = some o) → Q (.ref st.heap.objs.size) { st with heap := hp, toks := tk }) :
    wpAny (model prog w) A (call (.type "set") [.ref la]) Q E st := by
  obtain ⟨c, tl, hmro⟩ := PySem.F.called_set.mro
  have m1 := PySem.F.called_set.made
  have m2 := PySem.F.called_set.sub
  have m3 := PySem.F.called_set.notType
  have m4 := PySem.F.called_set.canCreate
  have m5 := PySem.F.typeCall_set_1 (.ref la)
  refine wpAny_call (codeAny_of_tree (show wpAny _ _ (callAny (.type "set") _) _ _ _ from wpAny_pure ⟨Code.quiet_builtin _ (by decide +kernel), codeAny_builtin PySem.F.entry_type_call ?_⟩))
  rw [Around.under_plain (weight_type_call_type "set" [.ref la] []) rfl]
  repeat (any_goals (first | assumption | wp_step))
  -- the new set
  refine codeAny_mono (code_set_new_1 (.ref la) (E := E) (Q₁ := fun ob s1 => ob = .ref st.heap.objs.size ∧ ∃ b : Bool, s1 = { st with heap := st.heap.push { cls := .type "set", dict := none, data := .set #[] 0 (.fresh 0 0 b) } }) fun b => ⟨rfl, b, rfl⟩) fun r s1 hr => ?_
  match r, hr with
  | .error _, hr => exact hr
  | .ok .next, hr => exact hr.elim
  | .ok .brk, hr => exact hr.elim
  | .ok .cont, hr => exact hr.elim
  | .ok (.ret ob), ⟨eo, b, es⟩ =>
    subst eo es
    generalize hob : ({ cls := .type "set", dict := none, data := .set #[] 0 (.fresh 0 0 b) } : Obj) = nob
    have at0 : (st.heap.push nob).get? st.heap.objs.size = some nob := Heap.get?_push_size _ (by rw [← hob] <;> rfl)
    have ty0 : Shared.TypeIs { st with heap := st.heap.push nob } (.ref st.heap.objs.size) "set" := ⟨_, at0, by rw [← hob] <;> rfl⟩
    have i1 := PySem.F.called_set.init.lookup
    have i2 := PySem.F.called_set.init.bind (.ref st.heap.objs.size)
    repeat (any_goals (first | assumption | wp_step))
    refine codeAny_mono (codeAny_call_builtin (R := wants (fun r s2 => r = .none ∧ ∃ hp tk, s2 = { st with heap := hp, toks := tk } ∧ hp.SetOf (PySem.strKind prog w) st.heap.objs.size (fun z => decide (z ∈ xs)) (dstC xs xs.length) ∧
      (∀ b o, b < st.heap.objs.size → st.heap.get? b = some o → hp.get? b = some o)) E) PySem.F.called_set.init.plain PySem.F.entry_set_init (check_set_init_1 ty0 ?_)) fun r s2 hr => ?_
    · obtain ⟨⟨oc, od, odt, osl⟩, get, ec, nn, ed⟩ := isl
      simp only at ec ed
      subst ec ed
      subst hob
      have get2 : (st.heap.push { cls := .type "set", dict := none, data := .set #[] 0 (.fresh 0 0 b) }).get? la = some { cls := .type "list", dict := od, data := .seq its nn, slots := osl } := Heap.get?_push_of_some _ get
      have isl2 : (st.heap.push { cls := .type "set", dict := none, data := .set #[] 0 (.fresh 0 0 b) }).IsList la its := ⟨_, get2, rfl, nn, rfl⟩
      have s1 := PySem.F.sub_list_set
      have s2 := PySem.F.sub_list_frozenset
      have s3 : (Value.type "list" == Value.type "dict") = false := by decide
      unfold Builtin.«set.__init__» noKeywords Builtin.Frozenset.updateFrom
      generalize hit : pyIter = PI
      wp_walk
      subst hit
      refine wpAny_pyIter_list isl2 (wpAny_bind (wpAny_runValue ?_))
      have low : la < st.heap.objs.size := Heap.lt_size get
      have calm3 : A.in1.in1.in1.handled = none := by simp [calm]
      have ne1 : la ≠ (st.heap.push { cls := .type "set", dict := none, data := .set #[] 0 (.fresh 0 0 b) }).objs.size := by
        rw [Heap.size_push]
        exact fun e => Nat.lt_irrefl _ (Nat.lt_of_lt_of_le low (Nat.le_trans (Nat.le_succ _) (Nat.le_of_eq e.symm)))
      have off : st.heap.objs.size ∉ [(st.heap.push { cls := .type "set", dict := none, data := .set #[] 0 (.fresh 0 0 b) }).objs.size, la] := by
        rw [Heap.size_push]
        intro q
        rcases List.mem_cons.mp q with e | q
        · exact Nat.lt_irrefl _ (Nat.lt_of_lt_of_le (Nat.lt_succ_self _) (Nat.le_of_eq e.symm))
        · exact Nat.lt_irrefl _ (Nat.lt_of_lt_of_le low (Nat.le_of_eq (List.mem_singleton.mp q)))
      have sz : xs.length = its.size := by rw [← StrsAre.len_eq tx, Array.length_toList]
      refine fill_loop ((Walks.list calm3 _ la ne1 its).toS) st.heap.objs.size off xs sz (by omega) (fun i v hv => strs_get tx i v (by rw [Array.getElem?_toList]; exact hv)) (its.size - 0) 0 _ (by omega) (Nat.zero_le _) ⟨⟨_, Heap.get?_push_size _ rfl, rfl, rfl⟩, (isl2.push _)⟩ ?_ ?_
      · have g3 : ((st.heap.push { cls := .type "set", dict := none, data := .set #[] 0 (.fresh 0 0 b) }).push { cls := .type "list_iterator", data := .fields #[.ref la, .int 0 0] }).get? st.heap.objs.size = some { cls := .type "set", dict := none, data := .set #[] 0 (.fresh 0 0 b) } := Heap.get?_push_of_some _ at0
        exact SetOf_congr ((PyProof.Rows.setObjOf_fresh (knd := PySem.strKind prog w) b).setOf g3 (by unfold scanBound; omega)) (fun z => by simp) rfl
      · intro st2 mv so
        obtain ⟨h2, g2, d2, t2, o2⟩ := st2
        have e1 : g2 = st.gens := mv.gens
        have e2 : d2 = st.drawn := mv.drawn
        have e3 : o2 = st.os := mv.os
        subst e1 e2 e3
        show wpAny _ _ _ _ _ _
        refine wpAny_pure (show wpAny _ _ (ret Value.none) _ _ _ from wpAny_pure ⟨rfl, h2, t2, rfl, by rw [sz]; exact so, fun b o q e => ?_⟩)
        refine mv.heap b o (fun z => ?_) (Heap.get?_push_of_some _ (Heap.get?_push_of_some _ e))
        rcases List.mem_cons.mp z with e | z
        · exact Nat.lt_irrefl _ (Nat.lt_of_lt_of_le q (Nat.le_of_eq e.symm))
        · have e := List.mem_singleton.mp z
          rw [Heap.size_push] at e
          exact Nat.lt_irrefl _ (Nat.lt_of_lt_of_le q (Nat.le_trans (Nat.le_succ _) (Nat.le_of_eq e.symm)))
    · match r, hr with
      | .error _, hr => exact hr
      | .ok .next, hr => exact hr.elim
      | .ok .brk, hr => exact hr.elim
      | .ok .cont, hr => exact hr.elim
      | .ok (.ret _), ⟨e1, hp, tk, e2, so, kp⟩ =>
        subst e1 e2
        repeat (any_goals (first | assumption | wp_step))
        exact fin _ _ so kp
theorem set_strs {st : Shared} {E : Value → Shared → Prop} {la : Addr} {its : Array Value} {xs : List Str} {Q : Value → Shared → Prop} (calm : A.handled = none) (isl : st.heap.IsList la its) (tx : PyProof.Rows.StrsAre its.toList xs) (dif : xs.Nodup) (few : xs.length ≤ 1000)
    (fin : ∀ (hp : Heap) (tk : Nat), hp.SetOf (PySem.strKind prog w) st.heap.objs.size (fun z => decide (z ∈ xs)) xs.length → (∀ b o, b < st.heap.objs.size → st.heap.get? b = some o → hp.get? b = some o) → Q (.ref st.heap.objs.size) { st with heap := hp, toks := tk }) :
    wpAny (model prog w) A (call (.type "set") [.ref la]) Q E st := set_strsB calm isl tx few (by rw [dstC_nd dif _ (Nat.le_refl _)]; exact fin)
end
end R
namespace R
open PySem PySem.Spec PyProof.Rows L2
def mLenSet (a : DE) : DE := fun env Q => a env fun x => ∃ ds xs, x.ffz.els true = some ds ∧ allOf D.str? ds = some xs ∧ xs.Nodup ∧ xs.length ≤ 1000 ∧ Q (.fz (.int xs.length))
def mItS (a : DE) : DI := fun env Q => a env fun x => ∃ z, x.ffz = .fz (.str z) ∧ Q true (z.cps.toList.map fun c => Rs.fz (.str ⟨#[c]⟩))
def oInS (neg : Bool) (x y : Rs) (Q : Rs → Prop) : Prop := ∃ (c : Nat) (z : Str), x = .fz (.str ⟨#[c]⟩) ∧ y = .fz (.str z) ∧ Q (.fz (.bl (decide (c ∈ z.cps.toList) != neg)))
section
variable {X : Cx} {tg a b c : Expr} {x y : Str} {ma mb mc : DE} {pos : Pos} {mr : DA} {pr : List Nat} {pl : DP}
def tLenS (K : PySem.W.Frag) (ta : TE) : TE := fun σ H Q => ta σ H fun x H1 => ∃ (l : Addr) (xs : List Str), x = .ref l ∧ SqL K H1 l (xs.map V.str) ∧ xs.Nodup ∧ xs.length ≤ 1000 ∧ Q (.int (xs.length : Nat)) H1
theorem pe_lenS {ta : TE} {p p2 q : Pos} (hc : X.calm = true) (hg : Gl X "len") (hm : X.mg "len" = none) (hg2 : Gl X "set") (hm2 : X.mg "set" = none) (ha : PE X a ta) (na : starEach [a] X.env = (false, eval a X.env) :: starEach [] X.env) :
    PE X (.Call (.Name "len" p) [.Call (.Name "set" p2) [a] [] q] [] pos) (tLenS X.K ta) := by
  refine ⟨fun pins s σ H Q I h => Call_ (ld_blt I hg hm boot_len (PyProof.Rows.callWith_builtin1 (PyProof.Rows.args_cons (Call_ (ld_blt I hg2 hm2 boot_set (PyProof.Rows.callWith_type1 (PyProof.Rows.args_cons (thn (ha.run pins s σ H _ I h) fun v s1 ⟨z, H1, I1, r1, q1⟩ => PyProof.Rows.args_nil ?_) na) na rfl))) rfl) rfl rfl))⟩
  obtain ⟨la, ws, rfl, hq, hnd, few, q2⟩ := q1
  cases r1
  obtain ⟨its, rv, isl, _⟩ := I1.list hq
  have tx : PyProof.Rows.StrsAre its ws := strsAre_of rv
  refine set_strs (I1.ok.hd hc) isl.isList (by simpa using tx) hnd few fun hp tk so kp => PyProof.Rows.args_nil ?_
  obtain ⟨o, es, ep, t, ho, hex, hd, _, _, _, hf, hn⟩ := so
  have I2 : Inv X pins σ H1 { s1 with heap := hp, toks := tk } := I1.kept fun b o e => kp b o (Heap.lt_size e) e
  exact call_len_set ho hex hd hf (by rw [hn] <;> omega) ⟨.int ws.length, H1, I2.tok _, ⟨_, by rw [hn]⟩, q2⟩
theorem dp_lenSet {p p2 q : Pos} (hc : X.calm = true) (hm : X.mg "len" = none) (hm2 : X.mg "set" = none) (ha : PE X a (LP X.K ma)) (hg : Gl X "len" := by rfl) (hg2 : Gl X "set" := by rfl) (na : starEach [a] X.env = (false, eval a X.env) :: starEach [] X.env := by rfl) :
    PE X (.Call (.Name "len" p) [.Call (.Name "set" p2) [a] [] q] [] pos) (LP X.K (mLenSet ma)) := pe_imp (pe_lenS hc hg hm hg2 hm2 ha na) fun σ H Q h => by
  obtain ⟨W, env, fp, xf, Q0, E, S, hm, k⟩ := h
  refine LP.next E S hm fun r ⟨ds, xs, e1, e2, nd, few, hq⟩ v W1' H1 t1' S1' E1' o' => ?_
  obtain ⟨W1, t1, S1, _, o⟩ := ffz_ok S t1' S1' o'
  obtain ⟨p, us, rfl, g, rr⟩ := els_L e1 o S1
  have e3 := allOf_strs e2 rr
  subst e3
  exact ⟨p, xs, rfl, .of g, nd, few, k _ hq _ W1 H1 t1 S1 (.int _)⟩
theorem di_str (ha : PE X a (LP X.K ma)) : PI X tg a (LI X.K (mItS ma)) := pi_imp (pi_str ha) fun σ H R h => by
  obtain ⟨W, env, fp, xf, Q0, E, S, hm, k⟩ := h
  refine LP.next E S hm fun r ⟨z, e1, hq⟩ v W1' H1 t1' S1' E1' o' => ?_
  obtain ⟨W1, t1, S1, _, o⟩ := ffz_ok S t1' S1' o'
  rw [e1] at o
  refine ⟨z, str_of o, k _ _ hq _ W1 H1 t1 S1 fun f _ _ W' H' fp' xf' t l S' y => ⟨fun i hi => ?_, fun i hi => ?_, fun i u H'' r hy hx => ?_⟩⟩
  · rw [List.length_map] at hi
    exact (by simpa using hi : z.cps.size ≤ i)
  · rw [List.length_map] at hi
    exact (by simpa using hi : i < z.cps.size)
  · obtain ⟨rfl, c, hc, rfl⟩ := hy
    rw [List.getElem?_map, Array.getElem?_toList, hc] at hx
    cases hx
    exact ⟨.refl, S', Rep.str _⟩
theorem r_inS {σ : L2.St} {H : Hp} {Q : VK} {neg : Bool} {r2 : R2} (hr2 : ∀ c z H Q, Q (.bl (decide (c ∈ z.cps.toList) != neg)) H → r2 (.str ⟨#[c]⟩) (.str z) H Q) (h : LP X.K (mOp (oInS neg) ma mb) σ H Q) : tOp r2 (LP X.K ma) (LP X.K mb) σ H Q :=
  h.two fun W fp xf Q0 r1 r2 v1 v2 W2 H2 hr O o1 o2 => by
    obtain ⟨c, z, rfl, rfl, q⟩ := hr
    rw [str_of o1, str_of o2]
    exact hr2 c z H2 Q (O.fin q (.bl _))
theorem dp_inS (ha : PE X a (LP X.K ma)) (hb : PE X b (LP X.K mb)) (hm : behindInMarks .In b = false := by rfl) : PE X (.Compare a [.In] [b] pos) (LP X.K (mOp (oInS false) ma mb)) := pe_imp (pe_cmpR op_in_sign ha hb hm) fun _ _ _ h =>
  r_inS (fun c z H Q q => ⟨c, z, rfl, rfl, by rw [Bool.bne_false] at q; exact q⟩) h
end
end R
namespace R
open PySem
def memb (q : List Nat) (cs : List (List Nat)) : List Nat := q ++ cs.flatten
theorem totM_flat (cs : List (List Nat)) : cs.flatten.length = totM cs := by
  induction cs with
  | nil => rfl
  | cons c cs ih =>
    have : totM (c :: cs) = c.length + totM cs := by simp [totM]
    rw [List.flatten_cons, List.length_append, ih, this]
theorem perm_erase {l : List Nat} {i : Nat} (h : i < l.length) : (l.eraseIdx i ++ [pk l i]).Perm l := by
  rw [pk_lt h, List.eraseIdx_eq_take_drop_succ, List.append_assoc]
  have e : l = l.take i ++ ([l[i]] ++ l.drop (i + 1)) := by
    rw [List.singleton_append, ← List.drop_eq_getElem_cons h, List.take_append_drop]
  exact (List.perm_append_comm.append_left (l.take i)).trans (.of_eq e.symm)
theorem csc_perm : ∀ {sz fw : List Nat} {cs : List (List Nat)} {m : Nat} {q : List Nat}, sz ≠ [] → fw.length + 1 = sz.length → (∀ i, i < fw.length → pk fw i < pk sz i) → Val sz cs → (memb (csc sz fw cs m q).2 (csc sz fw cs m q).1).Perm (m :: memb q cs)
  | [], _, _, _, _, h, _, _, _ => absurd rfl h
  | [s], fw, _, m, q, _, _, _, .cons (c := c) (cs := cs) h v => by
    cases v
    rw [csc]
    split
    · show (q ++ ((c ++ [m]) ++ [])).Perm (m :: (q ++ (c ++ [])))
      rw [List.append_nil, List.append_nil, ← List.append_assoc]
      exact List.perm_append_comm (l₂ := [m])
    · show (q ++ (c ++ [m]) ++ []).Perm (m :: (q ++ (c ++ [])))
      rw [List.append_nil, List.append_nil, ← List.append_assoc]
      exact List.perm_append_comm (l₂ := [m])
  | s :: s2 :: ss, fw, _, m, q, _, hf, hi, .cons (c := c) (cs := cs) h v => by
    rw [csc]
    have h0 : pk fw 0 < s := hi 0 (by simp at hf; omega)
    split
    · show (q ++ ((c ++ [m]) ++ cs.flatten)).Perm (m :: (q ++ (c ++ cs.flatten)))
      rw [List.append_assoc, ← List.append_assoc q, ← List.append_assoc q]
      exact List.perm_middle
    · rename_i k
      have ih := csc_perm (sz := s2 :: ss) (fw := fw.drop 1) (cs := cs) (m := pk (c ++ [m]) (pk fw 0)) (q := q ++ (c ++ [m]).eraseIdx (pk fw 0)) (by simp) (by rw [List.length_drop]; simp at hf ⊢; omega) (fun i h => by
        rw [List.length_drop] at h
        have := hi (i + 1) (by omega)
        have e1 : pk (fw.drop 1) i = pk fw (i + 1) := by
          rw [pk_lt (by rw [List.length_drop]; omega), pk_lt (by omega), List.getElem_drop]
          congr 1
          omega
        rw [e1]
        exact this) v
      show (memb (csc (s2 :: ss) _ _ _ _).2 (csc (s2 :: ss) _ _ _ _).1).Perm (m :: (q ++ (c ++ cs.flatten)))
      refine ih.trans ?_
      have hl : pk fw 0 < (c ++ [m]).length := by rw [List.length_append, List.length_singleton]; omega
      have e := perm_erase hl
      show (pk (c ++ [m]) (pk fw 0) :: ((q ++ (c ++ [m]).eraseIdx (pk fw 0)) ++ cs.flatten)).Perm _
      have a : (pk (c ++ [m]) (pk fw 0) :: ((q ++ (c ++ [m]).eraseIdx (pk fw 0)) ++ cs.flatten)).Perm (q ++ ((c ++ [m]).eraseIdx (pk fw 0) ++ [pk (c ++ [m]) (pk fw 0)]) ++ cs.flatten) := by
        rw [← List.append_assoc q, List.append_assoc _ [_] cs.flatten]
        exact (List.perm_middle (l₁ := q ++ (c ++ [m]).eraseIdx (pk fw 0)) (l₂ := cs.flatten)).symm
      refine a.trans (((e.append_left q).append_right cs.flatten).trans ?_)
      show (q ++ (c ++ [m]) ++ cs.flatten).Perm (m :: (q ++ (c ++ cs.flatten)))
      rw [← List.append_assoc q, List.append_assoc _ [m], ← List.append_assoc q]
      exact List.perm_middle
theorem val_tot : ∀ {sz : List Nat} {cs : List (List Nat)}, Val sz cs → totM cs + sz.length ≤ sz.sum
  | _, _, .nil => by simp [totM]
  | _, _, .cons (s := s) (ss := ss) (c := c) (cs := cs) h v => by
    have ih := val_tot v
    have e : totM (c :: cs) = c.length + totM cs := by simp [totM]
    rw [e, List.length_cons, List.sum_cons]
    omega
theorem val_sum : ∀ {sz : List Nat} {cs : List (List Nat)}, Val sz cs → ∀ s ∈ sz, 1 ≤ s
  | _, _, .nil => by simp
  | _, _, .cons (s := s) (ss := ss) (c := c) (cs := cs) h v => by
    intro x m
    rcases List.mem_cons.mp m with rfl | m
    · omega
    · exact val_sum v x m
def lval (l : List Nat) : Nat := l.foldl (fun a c => 26 * a + (c - 96)) 0
theorem lval_cons (c : Nat) (l : List Nat) : lval (c :: l) = (c - 96) * 26 ^ l.length + lval l := by
  have key : ∀ (l : List Nat) (a : Nat), l.foldl (fun a c => 26 * a + (c - 96)) a = a * 26 ^ l.length + lval l := by
    intro l
    induction l with
    | nil => intro a; simp [lval]
    | cons c l ih =>
      intro a
      have e1 : lval (c :: l) = l.foldl (fun a c => 26 * a + (c - 96)) (26 * 0 + (c - 96)) := rfl
      rw [List.foldl_cons, ih, e1, ih (26 * 0 + (c - 96)), List.length_cons, Nat.pow_succ, Nat.add_mul, Nat.mul_zero, Nat.zero_add]
      have : 26 * a * 26 ^ l.length = a * (26 ^ l.length * 26) := by rw [Nat.mul_comm 26 a, Nat.mul_assoc, Nat.mul_comm 26]
      omega
  have e1 : lval (c :: l) = l.foldl (fun a c => 26 * a + (c - 96)) (26 * 0 + (c - 96)) := rfl
  rw [e1, key, Nat.mul_zero, Nat.zero_add]
theorem lval_ge : ∀ {l : List Nat}, (∀ c ∈ l, 97 ≤ c) → 26 ^ l.length ≤ 26 * lval l + 1
  | [], _ => by simp [lval]
  | c :: l, h => by
    have ih := lval_ge (l := l) fun x m => h x (List.mem_cons_of_mem _ m)
    have h1 := h c List.mem_cons_self
    rw [lval_cons, List.length_cons, Nat.pow_succ]
    have : 1 * 26 ^ l.length ≤ (c - 96) * 26 ^ l.length := Nat.mul_le_mul_right _ (by omega)
    omega
theorem stride_inj {n s a b : Nat} (hg : Nat.gcd s n = 1) (ha : a < n) (hb : b < n) (h : (a * s) % n = (b * s) % n) : a = b := by
  have key : ∀ {a b : Nat}, a ≤ b → b < n → (a * s) % n = (b * s) % n → a = b := by
    intro a b hab hb h
    have d : n ∣ b * s - a * s := Nat.dvd_of_mod_eq_zero (Nat.sub_mod_eq_zero_of_mod_eq h.symm)
    rw [← Nat.sub_mul] at d
    have c : Nat.Coprime n s := by rw [Nat.coprime_comm]; exact hg
    have d2 : n ∣ b - a := c.dvd_of_dvd_mul_right d
    rcases Nat.eq_zero_or_pos (b - a) with z | z
    · omega
    · have := Nat.le_of_dvd z d2
      omega
  rcases Nat.le_total a b with q | q
  · exact key q hb h
  · exact (key q ha h.symm).symm
theorem stride_cop {n s : Nat} (hn : n ≤ 40) (h0 : 1 ≤ n) (hs : s ∈ [3, 7, 11]) (hd : n % s ≠ 0) : Nat.gcd s n = 1 := by
  have key : ∀ n : Fin 41, ∀ s ∈ [3, 7, 11], n.val % s ≠ 0 → Nat.gcd s n.val = 1 := by decide +kernel
  exact key ⟨n, by omega⟩ s hs hd
end R
namespace R
open PySem PySem.Spec PyProof.Rows L2
section
variable {X : Cx} {a b : Expr} {ma mb : DE} {pos tpos : Pos} {elts : List Expr} {kk : Nat}
end
end R
namespace R
open PySem PySem.Spec PyProof.Rows L2
section
variable {prog : Program} {w : World} {A : Around}
end
end R
namespace R
open PySem PySem.Spec PyProof.Rows L2
section
variable {K : PySem.W.Frag} {W : Wd} {H : Hp}
end
section
variable {X : Cx} {a b : Expr} {pos : Pos} {mr : DA}
end
end R
namespace R
open PySem PySem.Spec PyProof.Rows L2
section
variable {K : PySem.W.Frag} {W : Wd} {H : Hp}
theorem OwnAll.take : ∀ (n : Nat) {vs : List V} {ts : List OT} {f : List Addr}, OwnAll K W H vs ts f → ∃ g, OwnAll K W H (vs.take n) (ts.take n) g ∧ ∀ a ∈ g, a ∈ f
  | 0, _, _, _, _ => ⟨[], .nil, fun _ m => by cases m⟩
  | n + 1, _, _, _, .nil => ⟨[], .nil, fun _ m => by cases m⟩
  | n + 1, _, _, _, .cons a b => by
    obtain ⟨g, o, z⟩ := OwnAll.take n b
    refine ⟨_, .cons a o, fun c m => ?_⟩
    rcases List.mem_append.mp m with m | m
    · exact List.mem_append_left _ m
    · exact List.mem_append_right _ (z c m)
theorem OwnAll.drop : ∀ (n : Nat) {vs : List V} {ts : List OT} {f : List Addr}, OwnAll K W H vs ts f → ∃ g, OwnAll K W H (vs.drop n) (ts.drop n) g ∧ ∀ a ∈ g, a ∈ f
  | 0, _, _, _, h => ⟨_, h, fun _ m => m⟩
  | n + 1, _, _, _, .nil => ⟨[], .nil, fun _ m => by cases m⟩
  | n + 1, _, _, _, .cons a b => by
    obtain ⟨g, o, z⟩ := OwnAll.drop n b
    exact ⟨_, o, fun c m => List.mem_append_right _ (z c m)⟩
theorem OwnAll.cut {vs : List V} {ts : List OT} {f : List Addr} (h : OwnAll K W H vs ts f) (lo hi : Option Int) : ∃ g, OwnAll K W H (cutV vs lo hi) (cut' ts lo hi) g ∧ ∀ a ∈ g, a ∈ f := by
  have e := h.len
  obtain ⟨g1, o1, z1⟩ := h.drop (HT.sIx vs.length 0 lo)
  obtain ⟨g2, o2, z2⟩ := o1.take (HT.sIx vs.length vs.length hi - HT.sIx vs.length 0 lo)
  refine ⟨g2, ?_, fun a m => z1 a (z2 a m)⟩
  unfold cutV cut'
  rw [← e]
  exact o2
end
section
variable {X : Cx} {a : Expr} {lo hi : Option Expr} {ma : DE} {ml mh : DO} {pos : Pos}
end
end R
namespace R
open PySem PySem.Spec PyProof.Rows L2
def NoEx (e : Env) : Prop := ∀ t, some (Rs.ex t) ∉ e
section
variable {K : PySem.W.Frag} {W W1 W2 W' : Wd} {H H1 H2 H' : Hp}
end
section
variable {X : Cx} {CX : CXT} {k n : Nat} {f : Addr} {fd : FuncData} {ps : List Str} {F0 : Spec} {dvs : List V} {dv : List D} {ds : List Value} {E : XK} {x nm m : Str} {p pos apos : Pos} {e a o : Expr} {es : List Expr} {ma : DA} {m0 : DE} {pr : List Nat} {is : List Nat} {mx : DX} {i : Nat} {C : Addr}
theorem RetOk.pre {K : PySem.W.Frag} {W W1 W' : Wd} {H H1 H' : Hp} {fp fp' : List Addr} {v : V} {r : Rs} (t : Stp W H [] W1 H1) (h : RetOk K H1 fp fp' W' H' v r) : RetOk K H fp fp' W' H' v r := by
  cases r with
  | fz d => exact h
  | nw x =>
    obtain ⟨f, o, nd, z⟩ := h
    refine ⟨f, o, nd, fun a m => ⟨(z a m).1.imp (fun q => ?_) id, (z a m).2⟩⟩
    cases w : H a with
    | none => rfl
    | some o => exact absurd q (t.al a (some_ne w))
  | br x => exact h
  | ex x => exact h
structure MetIO (P : Program) (w : World) (K : PySem.W.Frag) (mg : Str → Option Value) (base : Heap) (C : Addr) (m : Str) (n : Nat) (F : Spec) (dv : List D) (k : Nat) : Prop where
  ex : ∃ (f : Addr) (fd : FuncData) (ps : List Str) (ds : List Value) (dvs : List V), Cls K C ∧ Meth K C m f ∧ FnOk P w K mg base CX0 k f fd ps (spR K n F) ∧ Binds K fd ps ds ∧ Vals dvs ds ∧ ∀ W, RepAll K W dvs dv
end
end R
namespace R
open PySem
def stp (sz fw : List Nat) : List Nat × List (List Nat) → List Nat × List (List Nat)
  | (x :: q, cs) => ((csc sz fw cs x q).2, (csc sz fw cs x q).1)
  | ([], cs) => ([], cs)
def adv (sz fw : List Nat) : Nat → List Nat × List (List Nat) → List Nat × List (List Nat)
  | 0, s => s
  | n + 1, s => adv sz fw n (stp sz fw s)
theorem adv_add {sz fw : List Nat} : ∀ (m n : Nat) (s : List Nat × List (List Nat)), adv sz fw (m + n) s = adv sz fw n (adv sz fw m s)
  | 0, n, s => by rw [Nat.zero_add] <;> rfl
  | m + 1, n, s => by
    rw [show m + 1 + n = (m + n) + 1 by omega]
    show adv sz fw (m + n) (stp sz fw s) = adv sz fw n (adv sz fw m (stp sz fw s))
    exact adv_add m n _
structure RowM (sz fw : List Nat) : Prop where
  l0 : 0 < sz.length
  fl : fw.length + 1 = sz.length
  s1 : ∀ s ∈ sz, 1 ≤ s
  fi : ∀ i, i < fw.length → pk fw i < pk sz i
theorem RowM.ne {sz fw : List Nat} (h : RowM sz fw) : sz ≠ [] := fun z => by have := h.l0; rw [z] at this; simp at this
theorem RowM.cups {sz fw : List Nat} (h : RowM sz fw) {c : Nat} (hc : c ≤ fw.length) : Cups sz fw c :=
  ⟨by have := h.fl; omega, fun i hi => h.s1 _ (pk_mem (by have := h.fl; omega)), fun i hi => h.fi i (by omega)⟩
theorem casc_nil {fs : List Nat} {ca : List (List Nat)} {x : Nat} {q : List Nat} : casc [] fs ca x q = (ca, q, some x) := by
  rw [casc]
  intro _ _ _ _ _ _ e
  cases e
theorem casc_val : ∀ {ss fs : List Nat} {ca : List (List Nat)} {x : Nat} {q : List Nat}, fs.length = ss.length → Val ss ca → Val ss (casc ss fs ca x q).1
  | [], fs, _, x, q, _, .nil => by rw [casc_nil]; exact .nil
  | s :: ss, [], _, x, q, h, _ => by simp at h
  | s :: ss, f :: fs, _, x, q, h, .cons (c := c) (cs := cs) h1 v => by
    rw [casc]
    split
    · exact .cons (by show 0 < s; omega) (casc_val (by simpa using h) v)
    · exact .cons (by rw [List.length_append, List.length_singleton]; omega) v
theorem run_round {sz fw : List Nat} (hne : sz ≠ []) (hl : fw.length + 1 = sz.length) : ∀ {m : Nat} {cs : List (List Nat)} {q : List Nat} {mE : Nat} {qE : List Nat}, Run sz (fw ++ [0]) m cs q mE qE → Val sz cs →
    ∃ A row, row.length = pk sz fw.length ∧ mE = pk row 0 ∧ qE = A ++ row.eraseIdx 0 ∧ adv sz fw m (q, cs) = (A ++ row, List.replicate sz.length []) := by
  have hl2 : (fw ++ [0]).length = sz.length := by rw [List.length_append, List.length_singleton]; exact hl
  intro m cs q mE qE r
  induction r with
  | done e h =>
    rename_i cs cs' m x q q'
    intro v
    obtain ⟨A, row, a, b, d, g⟩ := (csc_casc (q := q) (m := x) hne hl v).2 m (by rw [e])
    rw [e] at d g
    have l := casc_len (ss := sz) (fs := fw ++ [0]) (cs := cs) (m := x) (q := q)
    rw [e] at l
    have l : cs'.length = cs.length := l
    refine ⟨A, row, a, b, d, ?_⟩
    show ((csc sz fw cs x q).2, (csc sz fw cs x q).1) = _
    rw [g]
    show (A ++ row, cs') = _
    rw [all_nil h, l, val_len v]
  | step e r ih =>
    rename_i cs cs' n m x q q1 q'
    intro v
    have a := (csc_casc (q := q) (m := x) hne hl v).1 (by rw [e])
    have v2 := casc_val (x := x) (q := q) hl2 v
    rw [e] at a v2
    obtain ⟨A, row, b, d, f, g⟩ := ih v2
    refine ⟨A, row, b, d, f, ?_⟩
    rw [← g]
    show adv sz fw n ((csc sz fw cs x q).2, (csc sz fw cs x q).1) = _
    rw [a]
theorem adv_round {sz fw : List Nat} (R : RowM sz fw) {q : List Nat} (hq : least sz sz.length ≤ q.length) :
    adv sz fw (prodL sz) (q, List.replicate sz.length []) = ((rnd sz fw q.length).map (pk q), List.replicate sz.length []) := by
  obtain ⟨r, hend⟩ := round_end R.fl (fun i hi => R.s1 _ (pk_mem hi)) R.fi hq
  obtain ⟨A, row, a, b, d, g⟩ := run_round R.ne R.fl r (val_nil R.s1)
  rw [g, hend A row a b d]
def ap (ord : List Nat) : Nat → List Nat → List Nat
  | 0, q => q
  | k + 1, q => ap ord k (ord.map (pk q))
theorem ap_len {ord : List Nat} : ∀ {k : Nat} {q : List Nat}, ord.length = q.length → (ap ord k q).length = q.length
  | 0, q, _ => rfl
  | k + 1, q, h => by
    show (ap ord k (ord.map (pk q))).length = _
    rw [ap_len (by rw [List.length_map]), List.length_map, h]
def itt (t : Nat → Nat) : Nat → Nat → Nat
  | 0, i => i
  | k + 1, i => itt t k (t i)
theorem itt_lt {t : Nat → Nat} {n : Nat} (T : Tg t n) : ∀ (k : Nat) {i : Nat}, i < n → itt t k i < n
  | 0, _, h => h
  | k + 1, _, h => itt_lt T k (T.lt _ h)
theorem itt_inj {t : Nat → Nat} {n : Nat} (T : Tg t n) : ∀ (k : Nat) {i j : Nat}, i < n → j < n → itt t k i = itt t k j → i = j
  | 0, _, _, _, _, e => e
  | k + 1, i, j, h, h2, e => T.inj _ _ h h2 (itt_inj T k (T.lt _ h) (T.lt _ h2) e)
theorem ap_pk {ord : List Nat} {n : Nat} (p : ord.Perm (List.range n)) : ∀ (k : Nat) {q : List Nat} {i : Nat}, q.length = n → i < n → pk (ap ord k q) (itt (tgt ord) k i) = pk q i
  | 0, q, i, _, _ => rfl
  | k + 1, q, i, hq, hi => by
    have hl : ord.length = n := by rw [p.length_eq, List.length_range]
    obtain ⟨s1, s2⟩ := tgt_spec (p.mem_iff.mpr (List.mem_range.mpr hi))
    show pk (ap ord k (ord.map (pk q))) (itt (tgt ord) k (tgt ord i)) = _
    rw [ap_pk p k (by rw [List.length_map, hl]) (by omega), pk_map s1, s2]
theorem itt_onto {t : Nat → Nat} {n : Nat} (T : Tg t n) (k : Nat) {j : Nat} (hj : j < n) : ∃ i, i < n ∧ itt t k i = j := by
  have nd : ((List.range n).map (itt t k)).Nodup := List.pairwise_map.mpr (List.nodup_range.imp_of_mem fun ha hb hne e => hne (itt_inj T k (List.mem_range.mp ha) (List.mem_range.mp hb) e))
  have hlt : ∀ x ∈ (List.range n).map (itt t k), x < n := fun x m => by
    obtain ⟨i, hi, rfl⟩ := List.mem_map.mp m
    exact itt_lt T k (List.mem_range.mp hi)
  have mem : j ∈ (List.range n).map (itt t k) := by
    apply Classical.byContradiction
    intro z
    have := nodup_le (n := n) (c := j :: (List.range n).map (itt t k)) (List.nodup_cons.mpr ⟨z, nd⟩) fun x m => by
      rcases List.mem_cons.mp m with rfl | m
      · exact hj
      · exact hlt x m
    simp at this
    omega
  obtain ⟨i, hi, e⟩ := List.mem_map.mp mem
  exact ⟨i, List.mem_range.mp hi, e⟩
theorem ext_pk {l m : List Nat} (h : l.length = m.length) (e : ∀ i, i < l.length → pk l i = pk m i) : l = m := by
  apply List.ext_getElem h
  intro i h1 h2
  have := e i h1
  rw [pk_lt h1, pk_lt h2] at this
  exact this
theorem ap_eq {ord : List Nat} {n : Nat} (p : ord.Perm (List.range n)) {k : Nat} {q r : List Nat} (hq : q.length = n) (hr : r.length = n) (h : ∀ i, i < n → pk r (itt (tgt ord) k i) = pk q i) : r = ap ord k q := by
  have hl : ord.length = n := by rw [p.length_eq, List.length_range]
  refine ext_pk (by rw [hr, ap_len (by rw [hl, hq]), hq]) fun j hj => ?_
  obtain ⟨i, hi, rfl⟩ := itt_onto (Tg.of_perm p) k (by omega : j < n)
  rw [h i hi, ap_pk p k hq hi]
theorem cyc_itt {t : Nat → Nat} {n i : Nat} {c : List Nat} (o : Cyc t n i c) : ∀ (k : Nat) {j : Nat}, j < c.length → itt t k (pk c j) = pk c ((j + k) % c.length)
  | 0, j, hj => by
    show pk c j = _
    rw [Nat.add_zero, Nat.mod_eq_of_lt hj]
  | k + 1, j, hj => by
    show itt t k (t (pk c j)) = _
    by_cases q : j + 1 < c.length
    · rw [← o.nx j q, cyc_itt o k q]
      congr 2
      omega
    · have e : j = c.length - 1 := by omega
      have l := o.ls
      rw [show t (pk c j) = pk c 0 by rw [o.hd, e]; exact l, cyc_itt o k o.h0]
      rw [show j + (k + 1) = (0 + k) + c.length by omega, Nat.add_mod_right]
theorem dvd_lcmL {k : Nat} : ∀ {ks : List Nat}, k ∈ ks → k ∣ lcmL ks := by
  have key : ∀ (ks : List Nat) (a : Nat), a ∣ ks.foldl Nat.lcm a ∧ ∀ k ∈ ks, k ∣ ks.foldl Nat.lcm a := by
    intro ks
    induction ks with
    | nil => intro a; exact ⟨Nat.dvd_refl a, by simp⟩
    | cons x ks ih =>
      intro a
      obtain ⟨h1, h2⟩ := ih (Nat.lcm a x)
      refine ⟨Nat.dvd_trans (Nat.dvd_lcm_left a x) h1, fun k m => ?_⟩
      rcases List.mem_cons.mp m with rfl | m
      · exact Nat.dvd_trans (Nat.dvd_lcm_right a k) h1
      · exact h2 k m
  intro ks m
  exact (key ks 1).2 k m
theorem itt_lcm {ord : List Nat} {n : Nat} (p : ord.Perm (List.range n)) {i : Nat} (hi : i < n) (m : Nat) : itt (tgt ord) (lcmL ((cycs (tgt ord) n n).map List.length) * m) i = i := by
  have T := Tg.of_perm p
  have cp := cycs_perm T
  obtain ⟨c, hc, mc⟩ := List.mem_flatten.mp (cp.mem_iff.mpr (List.mem_range.mpr hi))
  obtain ⟨j0, _, o, _⟩ := (cycs_ok T (Nat.le_refl n)).all c hc
  obtain ⟨j, hj, rfl⟩ := mem_pk mc
  rw [cyc_itt o _ hj]
  obtain ⟨d, hd⟩ := dvd_lcmL (List.mem_map.mpr ⟨c, hc, rfl⟩ : c.length ∈ (cycs (tgt ord) n n).map List.length)
  rw [hd, Nat.mul_assoc, Nat.add_mul_mod_self_left, Nat.mod_eq_of_lt hj]
theorem ap_lcm {ord : List Nat} {n : Nat} (p : ord.Perm (List.range n)) {q : List Nat} (hq : q.length = n) (m : Nat) : ap ord (lcmL ((cycs (tgt ord) n n).map List.length) * m) q = q :=
  (ap_eq p hq hq fun i hi => by rw [itt_lcm p hi]).symm
theorem RowM.rnd_perm {sz fw : List Nat} (M : RowM sz fw) {n : Nat} (h : least sz sz.length ≤ n) : (rnd sz fw n).Perm (List.range n) := by
  have := M.fl
  exact R.rnd_perm (M.cups (Nat.le_refl _)) (by omega) (M.s1 _ (pk_mem (by omega))) (by rw [this]; exact h)
theorem adv_rounds {sz fw : List Nat} (M : RowM sz fw) : ∀ (k : Nat) {q : List Nat}, least sz sz.length ≤ q.length → adv sz fw (prodL sz * k) (q, List.replicate sz.length []) = (ap (rnd sz fw q.length) k q, List.replicate sz.length [])
  | 0, q, _ => by rw [Nat.mul_zero] <;> rfl
  | k + 1, q, h => by
    have hl : (rnd sz fw q.length).length = q.length := by rw [(M.rnd_perm h).length_eq, List.length_range]
    rw [Nat.mul_succ, Nat.add_comm, adv_add, adv_round M h, adv_rounds M k (by rw [List.length_map, hl]; exact h), List.length_map, hl]
    rfl
theorem insert_erase {l : List Nat} {f x : Nat} (h : f ≤ l.length) : (l.insertIdx f x).eraseIdx f = l ∧ pk (l.insertIdx f x) f = x ∧ (l.insertIdx f x).length = l.length + 1 := by
  have hl : (l.insertIdx f x).length = l.length + 1 := by rw [List.length_insertIdx, if_pos h]
  refine ⟨List.eraseIdx_insertIdx_self .., ?_, hl⟩
  rw [pk_lt (by omega), List.getElem_insertIdx_self]
theorem uncsc : ∀ {sz fw : List Nat} {cs : List (List Nat)} {q : List Nat}, sz ≠ [] → fw.length + 1 = sz.length → (∀ i, i < fw.length → pk fw i < pk sz i) → Val sz cs → 0 < ctr sz cs → (sz.map (· - 1)).sum + 1 ≤ q.length + totM cs →
    ∃ cs0 m q0, Val sz cs0 ∧ csc sz fw cs0 m q0 = (cs, q)
  | [], _, _, _, h, _, _, _, _, _ => absurd rfl h
  | [s], fw, _, q, _, _, _, .cons (c := c) (cs := cs) h v, hc, _ => by
    cases v
    have hne : c ≠ [] := by
      intro z
      subst z
      simp [ctr] at hc
    have hl : c.dropLast.length + 1 = c.length := by
      rw [List.length_dropLast]
      have := List.length_pos_iff.mpr hne
      omega
    refine ⟨[c.dropLast], c.getLast hne, q, .cons (by omega) .nil, ?_⟩
    rw [csc, if_pos (by omega), List.dropLast_concat_getLast]
  | s :: s2 :: ss, fw, _, q, _, hf, hi, .cons (c := c) (cs := cs) h v, hc, hb => by
    by_cases hne : c = []
    · subst hne
      have e1 : ctr (s :: s2 :: ss) ([] :: cs) = 0 + s * ctr (s2 :: ss) cs := rfl
      have hc2 : 0 < ctr (s2 :: ss) cs := by
        apply Nat.pos_of_ne_zero
        intro z
        rw [e1, z] at hc
        simp at hc
      have et : totM ([] :: cs) = totM cs := by simp [totM]
      rw [et, List.map_cons, List.sum_cons] at hb
      obtain ⟨cs0, m, q0, v0, e⟩ := uncsc (sz := s2 :: ss) (fw := fw.drop 1) (cs := cs) (q := q) (by simp) (by rw [List.length_drop]; simp at hf ⊢; omega) (fun i h => by
        rw [List.length_drop] at h
        have := hi (i + 1) (by omega)
        have e1 : pk (fw.drop 1) i = pk fw (i + 1) := by
          rw [pk_lt (by rw [List.length_drop]; omega), pk_lt (by omega), List.getElem_drop]
          congr 1
          omega
        rw [e1]
        exact this) v hc2 (by omega)
      have ht := csc_tot (sz := s2 :: ss) (fw := fw.drop 1) (cs := cs0) (m := m) (q := q0) (by simp) (by rw [List.length_drop]; simp at hf ⊢; omega) (fun i h => by
        rw [List.length_drop] at h
        have := hi (i + 1) (by omega)
        have e1 : pk (fw.drop 1) i = pk fw (i + 1) := by
          rw [pk_lt (by rw [List.length_drop]; omega), pk_lt (by omega), List.getElem_drop]
          congr 1
          omega
        rw [e1]
        exact this) v0
      rw [e] at ht
      have ht : q.length + totM cs = q0.length + totM cs0 + 1 := ht
      have vt := val_tot v0
      have sp := sum_pred (val_sum v0)
      have hq0 : s - 1 ≤ q0.length := by omega
      have h0 : pk fw 0 < s := hi 0 (by simp at hf; omega)
      obtain ⟨w, hw⟩ : ∃ w, w = q0.drop (q0.length - (s - 1)) := ⟨_, rfl⟩
      have hwl : w.length = s - 1 := by rw [hw, List.length_drop]; omega
      obtain ⟨a, b, d⟩ := insert_erase (l := w) (f := pk fw 0) (x := m) (by omega)
      generalize hr : w.insertIdx (pk fw 0) m = row at *
      have hrne : row ≠ [] := fun z => by rw [z] at d; simp at d
      have hdl : row.dropLast.length + 1 = row.length := by
        rw [List.length_dropLast]
        have := List.length_pos_iff.mpr hrne
        omega
      refine ⟨row.dropLast :: cs0, row.getLast hrne, q0.take (q0.length - (s - 1)), .cons (by omega) v0, ?_⟩
      rw [csc, if_neg (by omega), List.dropLast_concat_getLast, b, a, hw, List.take_append_drop, e]
    · have hl : c.dropLast.length + 1 = c.length := by
        rw [List.length_dropLast]
        have := List.length_pos_iff.mpr hne
        omega
      refine ⟨c.dropLast :: cs, c.getLast hne, q, .cons (by omega) v, ?_⟩
      rw [csc, if_pos (by omega), List.dropLast_concat_getLast]
theorem reach {sz fw : List Nat} (M : RowM sz fw) : ∀ (k : Nat) {q : List Nat} {cs : List (List Nat)}, ctr sz cs = k → Val sz cs → least sz sz.length ≤ q.length + totM cs → ∃ q0 j, q0.length = q.length + totM cs ∧ adv sz fw j (q0, List.replicate sz.length []) = (q, cs)
  | 0, q, cs, hk, v, _ => by
    have t0 := (ctr_zero v).mp hk
    have e := tot_zero t0
    rw [val_len v] at e
    exact ⟨q, 0, by omega, by rw [← e] <;> rfl⟩
  | k + 1, q, cs, hk, v, hb => by
    have hls : least sz sz.length = (sz.map (· - 1)).sum + 1 := by unfold least; rw [List.take_length]
    obtain ⟨cs0, m, q0, v0, e⟩ := uncsc (q := q) M.ne M.fl M.fi v (by omega) (by omega)
    have ht := csc_tot (m := m) (q := q0) M.ne M.fl M.fi v0
    have hcc := (csc_ctr (fw := fw) (m := m) (q := q0) M.ne v0).2
    rw [e] at ht hcc
    have ht : q.length + totM cs = q0.length + totM cs0 + 1 := ht
    have hcc : ctr sz cs = if ctr sz cs0 + 1 < prR sz then ctr sz cs0 + 1 else 0 := hcc
    have h0 : ctr sz cs0 = k := by
      by_cases z : ctr sz cs0 + 1 < prR sz
      · rw [if_pos z] at hcc
        omega
      · rw [if_neg z] at hcc
        omega
    obtain ⟨qq, j, a, b⟩ := reach M k (q := m :: q0) (cs := cs0) h0 v0 (by rw [List.length_cons]; omega)
    refine ⟨qq, j + 1, by rw [a, List.length_cons]; omega, ?_⟩
    rw [adv_add, b]
    show ((csc sz fw cs0 m q0).2, (csc sz fw cs0 m q0).1) = _
    rw [e]
def perN (sz fw : List Nat) (n : Nat) : Nat := lcmL ((cycs (tgt (rnd sz fw n)) n n).map List.length) * prodL sz
theorem adv_per {sz fw : List Nat} (M : RowM sz fw) {q : List Nat} {cs : List (List Nat)} (v : Val sz cs) (hb : least sz sz.length ≤ q.length + totM cs) (m : Nat) : adv sz fw (perN sz fw (q.length + totM cs) * m) (q, cs) = (q, cs) := by
  obtain ⟨q0, j, a, b⟩ := reach M _ rfl v hb
  rw [← b, ← adv_add, Nat.add_comm, adv_add]
  congr 1
  have hl : least sz sz.length ≤ q0.length := by omega
  unfold perN
  rw [show lcmL ((cycs (tgt (rnd sz fw (q.length + totM cs))) (q.length + totM cs) (q.length + totM cs)).map List.length) * prodL sz * m = prodL sz * (lcmL ((cycs (tgt (rnd sz fw (q.length + totM cs))) (q.length + totM cs) (q.length + totM cs)).map List.length) * m) by rw [Nat.mul_comm _ (prodL sz), Nat.mul_assoc], adv_rounds M _ hl, a, ap_lcm (M.rnd_perm hb) a]
end R
namespace R
open PySem PySem.Spec PyProof.Rows L2
section
variable {X : Cx} {tg a b c : Expr} {ma mb mc mk : DE} {pos : Pos} {pr : List Nat} {pl : DP} {x y : Str}
end
section
variable {X : Cx} {a b : Expr} {ma mb : DE} {pos : Pos}
end
end R
namespace R
open PySem
theorem adv_modp {sz fw : List Nat} (M : RowM sz fw) {q : List Nat} {cs : List (List Nat)} (v : Val sz cs) (hb : least sz sz.length ≤ q.length + totM cs) (n : Nat) : adv sz fw n (q, cs) = adv sz fw (n % perN sz fw (q.length + totM cs)) (q, cs) := by
  have e := adv_per M v hb (n / perN sz fw (q.length + totM cs))
  have d := Nat.div_add_mod n (perN sz fw (q.length + totM cs))
  rw [← congrArg (fun m => adv sz fw m (q, cs)) d]
  show adv sz fw (_ + _) (q, cs) = _
  rw [adv_add, e]
theorem perN_pos {sz fw : List Nat} (M : RowM sz fw) {n : Nat} (hl : least sz sz.length ≤ n) : 0 < perN sz fw n := by
  have a := lcmL_pos (ks := (cycs (tgt (rnd sz fw n)) n n).map List.length) fun k m => by
    obtain ⟨c, hc, rfl⟩ := List.mem_map.mp m
    exact ((cycs_cyOk (Tg.of_perm (M.rnd_perm hl))).one c hc).1
  have b := (prodL_le M.s1).1
  unfold perN
  exact Nat.mul_pos (by omega) (by omega)
def bk (sz fw : List Nat) (n k : Nat) : Nat := ((0 - (k : Int)) % (perN sz fw n : Nat)).toNat
theorem bk_mod {P k : Nat} (h : 0 < P) : (k + ((0 - (k : Int)) % (P : Nat)).toNat) % P = 0 := by
  have e := Int.emod_nonneg (0 - (k : Int)) (b := (P : Nat)) (by omega)
  have f := Int.emod_add_mul_ediv (0 - (k : Int)) (P : Nat)
  have g : (((k + ((0 - (k : Int)) % (P : Nat)).toNat : Nat) : Int)) % (P : Nat) = 0 := by
    rw [Int.natCast_add, Int.toNat_of_nonneg e, show (k : Int) + (0 - (k : Int)) % (P : Nat) = (P : Nat) * (-((0 - (k : Int)) / (P : Nat))) by rw [Int.mul_neg]; omega, Int.mul_emod_right]
  omega
theorem adv_bk {sz fw : List Nat} (M : RowM sz fw) {q : List Nat} {cs : List (List Nat)} (v : Val sz cs) (hb : least sz sz.length ≤ q.length + totM cs) (k : Nat) : adv sz fw (k + bk sz fw (q.length + totM cs) k) (q, cs) = (q, cs) := by
  rw [adv_modp M v hb, show (k + bk sz fw (q.length + totM cs) k) % perN sz fw (q.length + totM cs) = 0 from bk_mod (perN_pos M hb)]
  rfl
end R
namespace R
open PySem
theorem totM_nils (c : Nat) : totM (List.replicate c []) = 0 := by
  unfold totM
  rw [List.map_replicate, List.sum_replicate_nat]
  rfl
end R
namespace R
open PySem
end R
namespace R
open PySem
theorem adv_ctr {sz fw : List Nat} (M : RowM sz fw) : ∀ (n : Nat) {q : List Nat} {cs : List (List Nat)}, Val sz cs → least sz sz.length ≤ q.length + totM cs → Val sz (adv sz fw n (q, cs)).2 ∧ ctr sz (adv sz fw n (q, cs)).2 = (ctr sz cs + n) % prodL sz ∧ (adv sz fw n (q, cs)).1.length + totM (adv sz fw n (q, cs)).2 = q.length + totM cs
  | 0, q, cs, v, _ => by
    refine ⟨v, ?_, rfl⟩
    rw [Nat.add_zero, Nat.mod_eq_of_lt (by rw [prR_eq]; exact ctr_lt v)]
    rfl
  | n + 1, q, cs, v, hb => by
    have a := val_tot v
    have hls : least sz sz.length = (sz.map (· - 1)).sum + 1 := by unfold least; rw [List.take_length]
    have b := sum_pred M.s1
    cases q with
    | nil => rw [List.length_nil] at hb; omega
    | cons x q =>
      have c := csc_ctr (fw := fw) (m := x) (q := q) M.ne v
      have d := csc_tot (m := x) (q := q) M.ne M.fl M.fi v
      rw [List.length_cons] at hb
      obtain ⟨e1, e2, e3⟩ := adv_ctr M n (q := (csc sz fw cs x q).2) (cs := (csc sz fw cs x q).1) c.1 (by omega)
      refine ⟨e1, ?_, ?_⟩
      · show ctr sz (adv sz fw n ((csc sz fw cs x q).2, (csc sz fw cs x q).1)).2 = _
        rw [e2, c.2, prR_eq]
        have hlt := ctr_lt v
        split
        · rw [show ctr sz cs + 1 + n = ctr sz cs + (n + 1) by omega]
        · rw [show ctr sz cs + (n + 1) = n + prR sz by omega, Nat.add_mod_right, Nat.zero_add]
      · show (adv sz fw n ((csc sz fw cs x q).2, (csc sz fw cs x q).1)).1.length + totM (adv sz fw n ((csc sz fw cs x q).2, (csc sz fw cs x q).1)).2 = _
        rw [e3, List.length_cons]
        omega
end R
namespace R
open PySem PySem.Spec PyProof.Rows L2
section
variable {prog : Program} {w : World} {A : Around} {E : Value → Shared → Prop} {s : Shared}
end
end R
namespace R
open PySem PySem.Spec PyProof.Rows L2
section
variable {X : Cx} {a b c : Expr} {ma mb mc : DE} {pos : Pos}
end
end R
namespace R
open PySem
end R
namespace R
open PySem
end R
namespace R
open PySem PySem.Spec PyProof.Rows L2
section
variable {X : Cx} {a c : Expr} {ma : DE} {mx : DX} {pos : Pos}
end
end R
namespace R
open PySem
end R
namespace R
end R
namespace R
open PySem
section
variable {t : Nat → Nat} {n i : Nat} {c : List Nat}
end
end R
namespace R
open PySem PySem.Spec PyProof.Rows L2
section
variable {X : Cx} {a b c : Expr} {pos : Pos} {mr : DA}
end
end R
namespace R
open PySem PySem.Spec PyProof.Rows L2
section
variable {X : Cx} {a b c : Expr} {mb mc : DE} {pos : Pos} {pr : List Nat} {pl : DP}
end
end R
namespace R
open PySem
end R
namespace R
open PySem
def cntB (P : Nat → Bool) : Nat → Nat
  | 0 => 0
  | n + 1 => cntB P n + (if P n = true then 1 else 0)
def fstB (P : Nat → Bool) : Nat → Option Nat
  | 0 => none
  | n + 1 => (fstB P n).or (if P n = true then some n else none)
theorem adv_memb {sz fw : List Nat} (M : RowM sz fw) : ∀ (n : Nat) {q : List Nat} {cs : List (List Nat)}, Val sz cs → (memb (adv sz fw n (q, cs)).1 (adv sz fw n (q, cs)).2).Perm (memb q cs) ∧ Val sz (adv sz fw n (q, cs)).2
  | 0, q, cs, v => ⟨.refl _, v⟩
  | n + 1, [], cs, v => adv_memb M n v
  | n + 1, x :: q, cs, v => by
    obtain ⟨a, b⟩ := adv_memb M n (q := (csc sz fw cs x q).2) (csc_ctr (fw := fw) (m := x) (q := q) M.ne v).1
    exact ⟨a.trans (csc_perm M.ne M.fl M.fi v), b⟩
def pcN (cs : List (List Nat)) (k : Nat) : List Nat := cs.getD k []
def inC (sz fw : List Nat) (tg x : Nat) (s : List Nat × List (List Nat)) (k : Nat) : Bool := decide (x ∈ pcN (adv sz fw k s).2 tg)
theorem csc_in {s x : Nat} {ss fw : List Nat} {c q : List Nat} {cs : List (List Nat)} (h : c.length + 1 < s) : csc (s :: ss) fw (c :: cs) x q = ((c ++ [x]) :: cs, q) := by
  cases ss with
  | nil => rw [csc, if_pos h]
  | cons _ _ => rw [csc, if_pos h]
end R
namespace R
open PySem
def og (l : List (Option Nat)) (i : Nat) : Option Nat := l.getD i none
theorem pk_set {l : List Nat} {i v : Nat} (h : i < l.length) (j : Nat) : pk (l.set i v) j = if j = i then v else pk l j := by
  unfold pk
  rw [List.getD_eq_getElem?_getD, List.getD_eq_getElem?_getD, List.getElem?_set]
  by_cases e : i = j
  · rw [if_pos e, if_pos (by omega), if_pos e.symm] <;> rfl
  · rw [if_neg e, if_neg fun z => e z.symm]
structure VOk (sz fw : List Nat) (tg c : Nat) (v : List Nat × List (Option Nat)) (Q : List Nat) (rest : List (List Nat)) (W : Nat) : Prop where
  l1 : v.1.length = Q.length
  l2 : v.2.length = Q.length
  cnt : ∀ i, i < Q.length → pk v.1 i = cntB (inC sz fw tg (pk Q i) (Q, List.replicate c [] ++ rest)) W
  fst : ∀ i, i < Q.length → og v.2 i = fstB (inC sz fw tg (pk Q i) (Q, List.replicate c [] ++ rest)) W
end R
namespace R
open PySem PySem.Spec PyProof.Rows L2
section
variable {X : Cx} {a tg : Expr} {mx : DX} {g : DG} {pos : Pos} {pr : List Nat}
end
section
variable {X : Cx} {CX : CXT} {k np : Nat} {f C : Addr} {fd : FuncData} {ps ks : List Str} {sp : Sp} {E : XK} {x m : Str} {p pos apos kpos : Pos} {e o : Expr} {es : List Expr} {kws : List Keyword} {te ta : TE} {t tk : TA} {nm : Option Str} {g : List Value → List Value → List Value} {gV : List V → List V → List V}
end
structure MetKR (P : Program) (w : World) (K : PySem.W.Frag) (mg : Str → Option Value) (base : Heap) (C : Addr) (m : Str) (n : Nat) (F : Spec1) (np : Nat) (ks : List Str) (k : Nat) : Prop where
  ex : ∃ (f : Addr) (fd : FuncData) (ps : List Str) (g : List Value → List Value → List Value), Cls K C ∧ Meth K C m f ∧ FnOk P w K mg base CX0 k f fd ps (spR K n F.io) ∧ KBn K fd ps (np + 1) ks g (fun vs zs => vs ++ zs)
section
variable {X : Cx} {k j n np : Nat} {C : Addr} {F1 : Spec1} {x m : Str} {p pos apos : Pos} {e o : Expr} {es : List Expr} {mo : DE} {ma mk : DA} {kws : List Keyword} {ks : List Str}
end
end R
namespace R
open PySem PySem.Spec PyProof.Rows L2
section
variable {X : Cx} {tg : Expr} {g : DG} {m : DS} {s1 : List Stmt} {pos : Pos} {pr : List Nat}
theorem Post.less {K : PySem.W.Frag} {W : Wd} {H : Hp} {fp : List Addr} {i : Nat} {σ σ' : L2.St} {W' : Wd} {H' : Hp} {e : Env} {fp' xf' : List Addr} (P : Post K W H fp (i :: pr) σ σ' W' H' e fp' xf') : Post K W H fp pr σ σ' W' H' e fp' xf' :=
  ⟨P.t, P.E, P.S, P.nf, fun l m => P.pr l (List.mem_cons_of_mem _ m)⟩
theorem RtOk.more {K : PySem.W.Frag} {ex : Nat → Hp → Prop} {W : Wd} {H : Hp} {fp : List Addr} {i : Nat} {pr : List Nat} {σ : L2.St} {Kr : Rs → Env → Prop} {Dr : V → Hp → Prop} (rt : RtOk K ex W H fp pr σ Kr Dr) : RtOk K ex W H fp (i :: pr) σ Kr Dr :=
  ⟨fun r e q v σ' W' H' fp' xf' p o => rt.rt r e q v σ' W' H' fp' xf' p.less o, fun k e q σ' W' H' fp' xf' p => rt.x k e q σ' W' H' fp' xf' p.less⟩
end
end R
namespace R
open PySem PySem.Spec PyProof.Rows L2
section
variable {X : Cx} {a b c : Expr} {pos : Pos} {mr : DA}
end
end R
namespace R
open PySem
end R
namespace R
open PySem
section
variable {sz fw : List Nat} {c tg x : Nat} {q : List Nat} {rest : List (List Nat)}
end
section
variable {sz fw : List Nat} {tg : Nat} {q : List Nat}
end
end R
namespace R
open PySem PySem.Spec PyProof.Rows L2
section
variable {X : Cx} {tg a b c : Expr} {ma mb mc : DE} {pos tpos : Pos} {ta tb : DT} {elts : List Expr} {kk : Nat}
end
end R
namespace R
open PySem
end R
namespace R
open PySem PySem.Spec PyProof.Rows L2
section
variable {X : Cx} {a : Expr} {lo hi : Option Expr} {ma : DE} {ml mh : DO} {pos : Pos}
end
end R
namespace R
open PySem
end R
namespace R
open PySem PySem.Spec PyProof.Rows
theorem filter_one {c n : Nat} {P : Nat → Bool} (hc : c < n) (h : ∀ i, i < n → (P i = true ↔ i = c)) : (List.range n).filter P = [c] := by
  have key : ∀ m, m ≤ n → (List.range m).filter P = if c < m then [c] else [] := by
    intro m
    induction m with
    | zero => intro _; rw [if_neg (by omega)] <;> rfl
    | succ m ih =>
      intro hm
      rw [List.range_succ, List.filter_append, ih (by omega), List.filter_cons, List.filter_nil]
      by_cases e : m = c
      · rw [if_neg (by omega), if_pos ((h m (by omega)).mpr e), if_pos (show c < m + 1 by omega), e]
        rfl
      · rw [if_neg (fun z => e ((h m (by omega)).mp z)), List.append_nil]
        by_cases w : c < m
        · rw [if_pos w, if_pos (by omega)]
        · rw [if_neg w, if_neg (by omega)]
  rw [key n (Nat.le_refl _), if_pos hc]
end R
namespace R
open PySem PySem.Spec PyProof.Rows L2
end R
namespace R
open PySem PySem.Spec PyProof.Rows L2
section
variable {prog : Program} {w : World} {A : Around} {E : Value → Shared → Prop} {s : Shared}
def ZipSt (h : Heap) (z TI TO i1 i2 l1 l2 : Addr) (k : Nat) : Prop :=
  IsPair h TI (.ref i1) (.ref i2) ∧ h.IsListIter i1 l1 k ∧ h.IsListIter i2 l2 k ∧ ((IsZip h z TI TO .none ∧ ∃ x y, IsPair h TO x y) ∨ ∃ T f o, IsZipHeld h z TI TO T f ∧ h.get? T = some o ∧ T ∉ [z, TI, TO, i1, i2])
theorem ZipSt.kept {h h' : Heap} {z TI TO i1 i2 l1 l2 : Addr} {k : Nat} (st : ZipSt h z TI TO i1 i2 l1 l2 k) (q : Addr) (hk : ∀ c o, c ≠ q → h.get? c = some o → h'.get? c = some o) (hq : ∀ o, h.get? q = some o → o.cls = .type "list") (hq2 : ∃ o, h'.get? q = some o) : ZipSt h' z TI TO i1 i2 l1 l2 k := by
  have no : ∀ {c : Addr} {o : Obj}, h.get? c = some o → o.cls ≠ .type "list" → h'.get? c = some o := fun {c o} e n => hk c o (fun z => n (hq o (z ▸ e))) e
  obtain ⟨hTI, ⟨o1, e1, c1, d1⟩, ⟨o2, e2, c2, d2⟩, hz⟩ := st
  refine ⟨no hTI (by simp), ⟨o1, no e1 (by rw [c1]; simp), c1, d1⟩, ⟨o2, no e2 (by rw [c2]; simp), c2, d2⟩, ?_⟩
  rcases hz with ⟨hz, x0, y0, hTO⟩ | ⟨T, f, o, hz, hT, hTn⟩
  · exact .inl ⟨no hz (by simp), x0, y0, no hTO (by simp)⟩
  · by_cases e : T = q
    · obtain ⟨o', ho'⟩ := hq2
      exact .inr ⟨T, f, o', no hz (by simp), e ▸ ho', hTn⟩
    · exact .inr ⟨T, f, o, no hz (by simp), hk _ _ e hT, hTn⟩
end
structure FrP (H : Hp) (q : Addr) (ps : List (Addr × V × V)) : Prop where
  no : ∀ p ∈ ps, H p.1 = none
  nq : ∀ p ∈ ps, p.1 ≠ q
  nd : (ps.map (·.1)).Nodup
section
variable {X : Cx} {pins : List (Addr × Obj)} {σ : L2.St} {a b q z TI TO i1 i2 : Addr} {xs ys : List V} {H0 : Hp} {A1 : Around} {Rs : Result → Shared → Prop}
end
end R
namespace R
open PySem PySem.Spec PyProof.Rows L2
section
variable {K : PySem.W.Frag} {W : Wd} {fp xf : List Addr} {q : Addr}
end
section
variable {X : Cx} {a b c : Expr} {ma mb mc : DE} {pos pos2 p p2 : Pos}
end
end R
namespace R
section
variable {sz fw : List Nat} {q : List Nat} {cs : List (List Nat)}
end
end R
namespace R
section
variable {sz fw : List Nat} {q : List Nat} {cs : List (List Nat)}
end
end R
namespace R
section
variable {sz fw : List Nat} {q : List Nat} {cs : List (List Nat)}
end
end R
namespace R
open PySem PySem.Spec PyProof.Rows L2
section
variable {X : Cx} {c o o1 o3 : Expr} {mc : DE} {pos p1 : Pos} {pr : List Nat} {es es1 es3 : List Expr} {i : Nat} {js : List Nat}
end
end R
namespace R
open PySem PySem.Spec PyProof.Rows L2
end R
namespace R
open PySem
theorem flat_nils (n : Nat) : (List.replicate n ([] : List Nat)).flatten = [] := by
  induction n with
  | zero => rfl
  | succ n ih => rw [List.replicate_succ, List.flatten_cons, ih] <;> rfl
section
variable {ss fs a a' b b' : List Nat} {s s' : Nat} {q : List Nat}
end
end R
namespace R
open PySem PySem.Spec PyProof.Rows L2
open AutoSeq1 (wpAny_loadPart')
section
variable {prog : Program} {w : World} {A : Around} {E : Value → Shared → Prop} {s : Shared}
end
section
variable {X : Cx} {a : Expr} {ma : DE} {pos tpos : Pos} {elts : List Expr} {kk : Nat}
end
end R
namespace R
open PySem PySem.Spec PyProof.Rows L2
section
variable {prog : Program} {w : World} {A : Around} {E : Value → Shared → Prop} {s : Shared} {K : PySem.W.Frag} {x y C f : Addr} {ox : Obj} {od : Option Obj}
end
section
variable {X : Cx} {CX : CXT} {C f : Addr} {fd : FuncData} {ps : List Str} {k : Nat} {sp : Sp} {E : XK}
end
section
variable (P : Program) (w : World) (K : PySem.W.Frag) (mg : Str → Option Value) (base : Heap)
structure EqR (C : Addr) (F : Spec1) (k : Nat) : Prop where
  ex : ∃ (f : Addr) (fd : FuncData) (ps : List Str), Meth K C "__eq__" f ∧ FnOk P w K mg base CX0 k f fd ps (spR K 2 F.io) ∧ Binds K fd ps []
end
section
variable {X : Cx} {k j : Nat} {C : Addr} {F1 : Spec1} {pos : Pos} {a b : Expr} {ma mb : DE}
end
end R
namespace R
open PySem
def rc : List Nat → List (List Nat) → List (List Nat)
  | s :: s2 :: ss, c :: cs => if s = 1 then rc (s2 :: ss) cs else c :: rc (s2 :: ss) cs
  | _, cs => cs
end R
namespace R
open PySem
inductive Bh (s : Nat) : List Nat → List Nat → Prop where
  | no (b : List Nat) : Bh s [] b
  | one {b : List Nat} : pk b 0 < s → pk b 0 + 1 ≠ s → Bh s [1] b
  | big {u : Nat} {v b : List Nat} : pk b 0 < s → 2 ≤ u → Bh s (u :: v) b
section
variable {ss fs a a' b b' : List Nat} {s s' : Nat} {q : List Nat}
end
end R
namespace R
open PySem PySem.Spec PyProof.Rows L2
section
variable {X : Cx} {es : List Expr} {gs : List DG} {pos : Pos}
end
end R
namespace R
open PySem PySem.Spec PyProof.Rows L2
section
variable {K : PySem.W.Frag} {W : Wd} {H : Hp} {fp xf : List Addr} {σ : L2.St} {env : Env}
end
section
variable {X : Cx} {a b a2 b2 c : Expr} {pl pl2 : DP} {mb mb2 mc : DE} {pos : Pos} {pr : List Nat}
end
end R
namespace R
open PySem
section
variable {q w c : List Nat}
end
end R
namespace R
open PySem
def IsOff (sz fw : List Nat) (A B : List Nat × List (List Nat)) : Option Nat → Prop
  | none => ∀ d, adv sz fw d A ≠ B
  | some D => adv sz fw D A = B ∧ ∀ d, d < D → adv sz fw d A ≠ B
structure StM (sz : List Nat) (n : Nat) (A : List Nat × List (List Nat)) : Prop where
  v : Val sz A.2
  t : A.1.length + totM A.2 = n
section
variable {sz fw : List Nat} {n : Nat} {A B : List Nat × List (List Nat)}
theorem StM.go (M : RowM sz fw) (hn : least sz sz.length ≤ n) (h : StM sz n A) (k : Nat) : StM sz n (R.adv sz fw k A) := by
  obtain ⟨q, c⟩ := A
  obtain ⟨a, _, b⟩ := adv_ctr M k (q := q) (cs := c) h.v (by have : q.length + totM c = n := h.t; omega)
  exact ⟨a, b.trans h.t⟩
theorem StM.cnt (M : RowM sz fw) (hn : least sz sz.length ≤ n) (h : StM sz n A) (k : Nat) : ctr sz (adv sz fw k A).2 = (ctr sz A.2 + k) % prodL sz := by
  obtain ⟨q, c⟩ := A
  exact (adv_ctr M k (q := q) (cs := c) h.v (by have : q.length + totM c = n := h.t; omega)).2.1
theorem StM.lt (h : StM sz n A) : R.ctr sz A.2 < prodL sz := by rw [prR_eq]; exact ctr_lt h.v
theorem StM.bk (M : RowM sz fw) (hn : least sz sz.length ≤ n) (h : StM sz n A) (k : Nat) : R.adv sz fw (k + R.bk sz fw n k) A = A := by
  obtain ⟨q, c⟩ := A
  have ht : q.length + totM c = n := h.t
  have := adv_bk M (q := q) (cs := c) h.v (by omega) k
  rw [ht] at this
  exact this
end
end R
namespace R
open PySem
section
variable {sz fw : List Nat} {n : Nat} {A B : List Nat × List (List Nat)}
theorem StM.nd (M : RowM sz fw) (h : StM sz n A) (nd : (memb A.1 A.2).Nodup) (k : Nat) : (memb (R.adv sz fw k A).1 (R.adv sz fw k A).2).Nodup := by
  obtain ⟨q, c⟩ := A
  exact (adv_memb M k (q := q) (cs := c) h.v).1.nodup_iff.mpr nd
theorem IsOff.ctr (M : RowM sz fw) (hn : least sz sz.length ≤ n) (hA : StM sz n A) {D : Nat} (h : IsOff sz fw A B (some D)) : ctr sz B.2 = (ctr sz A.2 + D) % prodL sz := by
  rw [← h.1]
  exact hA.cnt M hn D
end
theorem perm_inj {l : List Nat} {n : Nat} (hl : l.length = n) (lt : ∀ i, i < n → pk l i < n) (inj : ∀ i j, i < n → j < n → pk l i = pk l j → i = j) : l.Perm (List.range n) := by
  have nd : l.Nodup := by
    rw [List.nodup_iff_pairwise_ne, List.pairwise_iff_getElem]
    intro i j hi hj hij e
    rw [← pk_lt hi, ← pk_lt hj] at e
    have := inj i j (by omega) (by omega) e
    omega
  have al : ∀ x ∈ l, x < n := fun x m => by
    obtain ⟨i, hi, rfl⟩ := mem_pk m
    exact lt i (by omega)
  refine perm_range nd fun x => ⟨al x, fun hx => ?_⟩
  apply Classical.byContradiction
  intro z
  have := nodup_le (n := n) (c := x :: l) (List.nodup_cons.mpr ⟨z, nd⟩) fun y m => by
    rcases List.mem_cons.mp m with rfl | m
    · exact hx
    · exact al y m
  rw [List.length_cons] at this
  omega
theorem pk_set' {l : List Nat} {a s i : Nat} (hi : i < l.length) : pk (l.set a s) i = if i = a then s else pk l i := by
  rw [pk_lt (by rw [List.length_set]; exact hi), List.getElem_set]
  split
  · rename_i e; rw [if_pos e.symm]
  · rename_i e; rw [if_neg fun z => e z.symm, pk_lt hi]
theorem pk_rng {n i : Nat} (h : i < n) : pk (List.range n) i = i := by
  rw [pk_lt (by rw [List.length_range]; exact h), List.getElem_range]
structure RotI (c : List Nat) (n i : Nat) (l : List Nat) : Prop where
  len : l.length = n
  st : ∀ j, j < i → pk l (pk c ((j + 1) % c.length)) = pk c j
  ot : ∀ p, p < n → (∀ j, j < i → p ≠ pk c ((j + 1) % c.length)) → pk l p = p
theorem RotI.start (c : List Nat) (n : Nat) : RotI c n 0 (List.range n) := ⟨List.length_range, fun j h => absurd h (Nat.not_lt_zero j), fun p h _ => pk_rng h⟩
theorem mod_inj {l i j : Nat} (hi : i < l) (hj : j < l) (e : (i + 1) % l = (j + 1) % l) : i = j := by
  have f : ∀ x, x < l → (x + 1) % l = if x + 1 = l then 0 else x + 1 := fun x hx => by
    split
    · rename_i z; rw [z, Nat.mod_self]
    · exact Nat.mod_eq_of_lt (by omega)
  rw [f i hi, f j hj] at e
  split at e <;> split at e <;> omega
theorem RotI.step {c l : List Nat} {n i : Nat} (h : RotI c n i l) (hi : i < c.length) (nd : c.Nodup) (lt : ∀ x ∈ c, x < n) : RotI c n (i + 1) (l.set (pk c ((i + 1) % c.length)) (pk c i)) := by
  have hm : ∀ j, pk c ((j + 1) % c.length) < n := fun j => lt _ (pk_mem (Nat.mod_lt _ (by omega)))
  refine ⟨by rw [List.length_set]; exact h.len, fun j hj => ?_, fun p hp hn => ?_⟩
  · rw [pk_set' (by rw [h.len]; exact hm j)]
    by_cases z : j = i
    · rw [z, if_pos rfl]
    · rw [if_neg fun e => z (mod_inj (by omega) hi (nodup_pk nd (Nat.mod_lt _ (by omega)) (Nat.mod_lt _ (by omega)) e))]
      exact h.st j (by omega)
  · rw [pk_set' (by rw [h.len]; exact hp), if_neg (hn i (by omega))]
    exact h.ot p hp fun j hj => hn j (by omega)
theorem at_next {c : List Nat} {p : Nat} (m : p ∈ c) : ∃ j, j < c.length ∧ p = pk c ((j + 1) % c.length) := by
  obtain ⟨i, hi, rfl⟩ := mem_pk m
  cases i with
  | zero => exact ⟨c.length - 1, by omega, by rw [show c.length - 1 + 1 = c.length by omega, Nat.mod_self]⟩
  | succ i => exact ⟨i, by omega, by rw [Nat.mod_eq_of_lt hi]⟩
theorem RotI.perm {c l : List Nat} {n : Nat} (h : RotI c n c.length l) (nd : c.Nodup) (lt : ∀ x ∈ c, x < n) : l.Perm (List.range n) := by
  have val : ∀ p, p < n → (p ∈ c ∧ ∃ j, j < c.length ∧ p = pk c ((j + 1) % c.length) ∧ pk l p = pk c j) ∨ (p ∉ c ∧ pk l p = p) := fun p hp => by
    by_cases m : p ∈ c
    · obtain ⟨j, hj, e⟩ := at_next m
      exact .inl ⟨m, j, hj, e, by rw [e]; exact h.st j hj⟩
    · exact .inr ⟨m, h.ot p hp fun j hj e => m (by rw [e]; exact pk_mem (Nat.mod_lt _ (by omega)))⟩
  refine perm_inj h.len (fun i hi => ?_) fun i j hi hj e => ?_
  · rcases val i hi with ⟨_, j, hj, _, e⟩ | ⟨_, e⟩
    · rw [e]; exact lt _ (pk_mem hj)
    · rw [e]; exact hi
  · rcases val i hi with ⟨m1, a, ha, e1, f1⟩ | ⟨m1, f1⟩ <;> rcases val j hj with ⟨m2, b, hb, e2, f2⟩ | ⟨m2, f2⟩
    · rw [f1, f2] at e
      rw [e1, e2, nodup_pk nd ha hb e]
    · rw [f1, f2] at e
      exact absurd (by rw [← e]; exact pk_mem ha) m2
    · rw [f1, f2] at e
      exact absurd (by rw [e]; exact pk_mem hb) m1
    · rw [f1, f2] at e
      exact e
section
variable {sz fw : List Nat} {n : Nat}
end
end R
namespace R
open PySem PySem.Spec PyProof.Rows L2
section
variable {X : Cx}
end
section
variable {X : Cx} {a b : Expr} {ma mb : DE}
end
end R
namespace R
open PySem PySem.Spec PyProof.Rows L2
section
variable {K : PySem.W.Frag} {W W1 W2 W' : Wd} {H H1 H2 H' : Hp} {f f1 fp fp1 fp2 xf xf1 xf2 : List Addr} {σ σ1 σ2 : L2.St} {Q : VK} {r : Rs} {v : V} {env env1 env2 : Env}
end
section
variable {X : Cx} {tg a b c : Expr} {ma mb mc : DE} {pos : Pos} {ta tb : DT} {st : Stmt} {rest s1 s2 : List Stmt} {m m1 m2 : DS} {pr : List Nat} {pl : DP} {x : Str} {C : Addr}
end
end R
namespace R
open PySem PySem.Spec PyProof.Rows L2
section
variable {prog : Program} {w : World} {A : Around} {E : Value → Shared → Prop} {s : Shared}
end
section
variable {X : Cx} {a b c : Expr} {ma mb mc : DE} {pos : Pos}
end
end R
namespace R
open PySem PySem.Spec PyProof.Rows L2
section
variable {X : Cx} {a : Expr} {ma : DE} {pos : Pos} {pr : List Nat} {es : List Expr}
end
end R
namespace R
open PySem PySem.Spec PyProof.Rows L2
section
variable {X : Cx} {pr : List Nat} {m : DS} {st : Stmt}
end
end R
namespace R
open PySem PySem.Spec PyProof.Rows L2
section
variable {X : Cx} {a b c d : Expr} {ma mb mc md : DE} {pos : Pos}
end
end R
namespace R
open PySem PySem.Spec PyProof.Rows L2
section
variable {X : Cx} {b c : Expr} {mb mc : DE} {pos p1 : Pos} {pr : List Nat} {x : Str}
end
end R
namespace R
open PySem PySem.Spec PyProof.Rows L2
section
variable {K : PySem.W.Frag} {W : Wd} {H : Hp}
end
section
variable {X : Cx} {a b c : Expr} {ma mb mc : DE} {mr : DA} {pos : Pos}
end
end R
namespace R
open PySem PySem.Spec PyProof.Rows L2
section
variable {X : Cx} {b : Expr} {mb : DE} {pos : Pos} {pr : List Nat} {x : Str}
end
end R
namespace R
theorem ite_eq {A B : Prop} : (fun c : Bool => if c = true then A else B) = fun c => (c = true → A) ∧ (c = false → B) := by
  funext c
  cases c with
  | true => exact propext ⟨fun h => ⟨fun _ => by rw [if_pos rfl] at h; exact h, fun z => by cases z⟩, fun h => by rw [if_pos rfl]; exact h.1 rfl⟩
  | false => exact propext ⟨fun h => ⟨(fun z => by cases z), fun _ => by rw [if_neg Bool.false_ne_true] at h; exact h⟩, fun h => by rw [if_neg Bool.false_ne_true]; exact h.2 rfl⟩
theorem if_p {t : DT} {a b : DS} {env : Env} {Z : DK} (h : t env fun c => (c = true → a env Z) ∧ (c = false → b env Z)) : mIfS t a b env Z := by
  show t env fun c => if c = true then a env Z else b env Z
  rw [ite_eq]
  exact h
theorem and_p {t u : DT} {env : Env} {Q : Bool → Prop} (h : t env fun c => (c = true → u env Q) ∧ (c = false → Q false)) : mAnd t u env Q := by
  show t env fun c => if c = true then u env Q else Q false
  rw [ite_eq]
  exact h
theorem or_p {t u : DT} {env : Env} {Q : Bool → Prop} (h : t env fun c => (c = true → Q true) ∧ (c = false → u env Q)) : mOr t u env Q := by
  show t env fun c => if c = true then Q true else u env Q
  rw [ite_eq]
  exact h
end R
namespace R
open PySem
end R
namespace R
open PySem
end R
namespace R
open PySem
end R
namespace R
open PySem PySem.Spec PyProof.Rows L2
section
variable {X : Cx} {a b c : Expr} {ma mb mc : DE} {pos : Pos} {mr : DA}
end
end R
namespace R
open PySem PySem.Spec PyProof.Rows L2
section
variable {K : PySem.W.Frag} {W W1 W2 W' : Wd} {H H1 H2 H' : Hp} {f f1 fp xf : List Addr} {σ : L2.St} {env : Env}
theorem Stp.at (t : Stp W H [] W' H') {r : Addr} {o : HO} (h : H r = some o) (s : W.S r = none) : H' r = some o := t.kp r o h (by simp) s
theorem LcOk.outer {D r : Addr} {acc : List OT} {o0 o : HO} (L : LcOk K W H fp xf D acc W' H') (hr : H r = some o0) (hg : W.G r = none) (hs : W.S r = none) : LcOk K W (upd H r o) fp xf D acc W' (upd H' r o) := by
  obtain ⟨vs, g, hD, ow, nd, z⟩ := L.own
  have al := some_ne hr
  obtain ⟨e1, e2⟩ := L.t.kpS al
  have ne : ∀ a ∈ D :: g, a ≠ r := fun a m e => by rw [e] at m; rw [(z r m).1] at hr; cases hr
  have nn : ∀ a, upd H r o a ≠ none → H a ≠ none := fun a q => by
    by_cases e : a = r
    · rw [e]; exact al
    · rw [upd_ne e] at q; exact q
  refine ⟨⟨fun a n m => L.t.wx a (nn a n) m, fun a u e m s => ?_, fun a n => ?_⟩, L.S.wr (e1.trans hg) (e2.trans hs), vs, g, by rw [upd_ne (ne D List.mem_cons_self)]; exact hD, ow.mono (.refl _) fun a m u e => by rw [upd_ne (ne a (List.mem_cons_of_mem _ m))]; exact e, nd, fun a m => ⟨by rw [upd_ne (ne a m)]; exact (z a m).1, (z a m).2⟩⟩
  · by_cases q : a = r
    · rw [q, upd_same] at e ⊢; exact e
    · rw [upd_ne q] at e ⊢; exact L.t.kp a u e m s
  · by_cases q : a = r
    · rw [q, upd_same]; exact fun z => nomatch z
    · rw [upd_ne q]; exact L.t.al a (nn a n)
end
section
variable {X : Cx} {a b c : Expr} {ma mb mc : DE} {pos : Pos} {pr : List Nat} {tg elt iter : Expr} {scope : Scope} {own : List (Str × Nat)} {mz : DE}
end
end R
namespace R
open PySem PySem.Spec PyProof.Rows L2
section
variable {X : Cx} {a b c : Expr} {x y z : Str} {ma mb mc : DE} {pos : Pos} {pr : List Nat}
end
end R
namespace R
open PySem
def uS : List Bool → List Nat → List Nat
  | true :: m, sz => 1 :: uS m sz
  | false :: m, s :: sz => s :: uS m sz
  | _, _ => []
def uF : List Bool → List Nat → List Nat
  | true :: m, fw => 0 :: uF m fw
  | false :: m, f :: fw => f :: uF m fw
  | _, _ => []
def uK : List Bool → List (List Nat) → List (List Nat)
  | true :: m, cs => [] :: uK m cs
  | false :: m, c :: cs => c :: uK m cs
  | _, _ => []
inductive Mks : List Bool → Nat → Prop where
  | one : Mks [false] 1
  | unit {m : List Bool} {n : Nat} : Mks m n → Mks (true :: m) n
  | cup {m : List Bool} {n : Nat} : Mks m n → Mks (false :: m) (n + 1)
theorem Mks.pos {m : List Bool} {n : Nat} (h : Mks m n) : 1 ≤ n := by induction h <;> omega
theorem Mks.le {m : List Bool} {n : Nat} (h : Mks m n) : n ≤ m.length := by
  induction h with
  | one => exact Nat.le_refl _
  | unit _ ih => rw [List.length_cons]; omega
  | cup _ ih => rw [List.length_cons]; omega
theorem Mks.cnt {m : List Bool} {n : Nat} (h : Mks m n) : m.count false = n := by
  induction h with
  | one => rfl
  | unit _ ih => rw [List.count_cons, ih] <;> rfl
  | cup _ ih => rw [List.count_cons, ih] <;> rfl
theorem uS_len {m : List Bool} {n : Nat} (h : Mks m n) : ∀ {sz : List Nat}, sz.length = n → (uS m sz).length = m.length := by
  induction h with
  | one =>
    intro sz e
    match sz, e with
    | [s], _ => rfl
  | unit _ ih => intro sz e; rw [uS, List.length_cons, List.length_cons, ih e]
  | cup _ ih =>
    intro sz e
    match sz, e with
    | s :: sz, e => rw [uS, List.length_cons, List.length_cons, ih (by simpa using e)]
theorem uF_len {m : List Bool} {n : Nat} (h : Mks m n) : ∀ {fw : List Nat}, fw.length + 1 = n → (uF m fw).length + 1 = m.length := by
  induction h with
  | one =>
    intro sz e
    match sz, e with
    | [], _ => rfl
  | unit _ ih => intro sz e; rw [uF, List.length_cons, List.length_cons, ih e]
  | cup h ih =>
    intro sz e
    have := h.pos
    match sz, e with
    | [], e => simp at e; omega
    | s :: sz, e => rw [uF, List.length_cons, List.length_cons, ih (by simpa using e)]
theorem Mks.cons {m : List Bool} {n : Nat} (h : Mks m n) {sz : List Nat} (e : sz.length = n) : ∃ s l, uS m sz = s :: l := by
  have a := uS_len h e
  have b := h.le
  have c := h.pos
  cases q : uS m sz with
  | nil => rw [q] at a; rw [List.length_nil] at a; omega
  | cons s l => exact ⟨s, l, rfl⟩
theorem csc_ins {m : List Bool} {n : Nat} (h : Mks m n) : ∀ {sz fw : List Nat} {cs : List (List Nat)} {x : Nat} {q : List Nat}, sz.length = n → fw.length + 1 = n → cs.length = n →
    csc (uS m sz) (uF m fw) (uK m cs) x q = (uK m (csc sz fw cs x q).1, (csc sz fw cs x q).2) := by
  induction h with
  | one =>
    intro sz fw cs x q e1 e2 e3
    match sz, e1, fw, e2, cs, e3 with
    | [s], _, [], _, [c], _ =>
      show csc [s] [] [c] x q = (uK [false] (csc [s] [] [c] x q).1, _)
      rw [csc]
      split <;> rfl
  | unit h ih =>
    intro sz fw cs x q e1 e2 e3
    obtain ⟨s2, l, es⟩ := h.cons e1
    have i2 := ih (x := x) (q := q) e1 e2 e3
    rw [uS, uF, uK, uK]
    rw [es] at i2 ⊢
    rw [csc, if_neg (by simp)]
    have e1 : (([] : List Nat) ++ [x]).eraseIdx 0 = [] := rfl
    have e2 : pk (([] : List Nat) ++ [x]) 0 = x := rfl
    rw [show ∀ l : List Nat, pk (0 :: l) 0 = 0 from fun _ => rfl, e1, e2, List.append_nil, show ∀ l : List Nat, (0 :: l).drop 1 = l from fun _ => rfl, i2]
  | cup h ih =>
    intro sz fw cs x q e1 e2 e3
    have hp := h.pos
    match sz, e1, fw, e2, cs, e3 with
    | s :: sz, e1, f :: fw, e2, c :: cs, e3 =>
      obtain ⟨s2, l, es⟩ := h.cons (sz := sz) (by simpa using e1)
      obtain ⟨t, sz', rfl⟩ : ∃ t sz', sz = t :: sz' := by
        cases sz with
        | nil => simp at e1; omega
        | cons t l => exact ⟨t, l, rfl⟩
      rw [uS, uF, uK, csc.eq_def (s :: t :: sz')]
      dsimp only
      by_cases hh : c.length + 1 < s
      · rw [if_pos hh]
        dsimp only
        rw [uK, csc_in hh]
      · rw [if_neg hh]
        dsimp only
        have i2 := ih (x := pk (c ++ [x]) f) (q := q ++ (c ++ [x]).eraseIdx f) (sz := t :: sz') (fw := fw) (cs := cs) (by simpa using e1) (by simpa using e2) (by simpa using e3)
        rw [es] at i2 ⊢
        rw [csc, if_neg hh]
        rw [show ∀ l : List Nat, pk (f :: l) 0 = f from fun _ => rfl, show ∀ l : List Nat, (f :: l).drop 1 = l from fun _ => rfl, show ∀ l : List Nat, (f :: l).drop 1 = l from fun _ => rfl, i2, uK]
        rfl
    | s :: sz, e1, [], e2, cs, e3 => simp at e2; omega
theorem Val.ins {m : List Bool} {n : Nat} (h : Mks m n) : ∀ {sz : List Nat} {cs : List (List Nat)}, sz.length = n → Val sz cs → Val (uS m sz) (uK m cs) := by
  induction h with
  | one =>
    intro sz cs e v
    match sz, e, cs, v with
    | [s], _, [c], v => exact v
  | unit _ ih => intro sz cs e v; exact .cons (by decide) (ih e v)
  | cup _ ih =>
    intro sz cs e v
    match sz, e, cs, v with
    | s :: sz, e, c :: cs, .cons h v => exact .cons h (ih (by simpa using e) v)
theorem sum_ins {m : List Bool} {n : Nat} (h : Mks m n) : ∀ {sz : List Nat}, sz.length = n → (uS m sz).sum + n = sz.sum + m.length := by
  induction h with
  | one =>
    intro sz e
    match sz, e with
    | [s], _ => rfl
  | unit _ ih => intro sz e; rw [uS, List.sum_cons, List.length_cons]; have := ih e; omega
  | cup _ ih =>
    intro sz e
    match sz, e with
    | s :: sz, e => rw [uS, List.sum_cons, List.sum_cons, List.length_cons]; have := ih (sz := sz) (by simpa using e); omega
theorem least_ins {m : List Bool} {n : Nat} (h : Mks m n) : ∀ {sz : List Nat}, sz.length = n → least (uS m sz) (uS m sz).length = least sz sz.length := by
  have key : ∀ {sz : List Nat}, sz.length = n → ((uS m sz).map (· - 1)).sum = (sz.map (· - 1)).sum := by
    induction h with
    | one =>
      intro sz e
      match sz, e with
      | [s], _ => rfl
    | unit _ ih => intro sz e; rw [uS, List.map_cons, List.sum_cons, ih e]; omega
    | cup _ ih =>
      intro sz e
      match sz, e with
      | s :: sz, e => rw [uS, List.map_cons, List.sum_cons, List.map_cons, List.sum_cons, ih (by simpa using e)]
  intro sz e
  unfold least
  rw [List.take_length, List.take_length, key e]
theorem flat_ins {m : List Bool} {n : Nat} (h : Mks m n) : ∀ {cs : List (List Nat)}, cs.length = n → (uK m cs).flatten = cs.flatten := by
  induction h with
  | one =>
    intro sz e
    match sz, e with
    | [s], _ => rfl
  | unit _ ih => intro sz e; rw [uK, List.flatten_cons, ih e] <;> rfl
  | cup _ ih =>
    intro sz e
    match sz, e with
    | s :: sz, e => rw [uK, List.flatten_cons, List.flatten_cons, ih (by simpa using e)]
theorem memb_ins {m : List Bool} {n : Nat} (h : Mks m n) {cs : List (List Nat)} {q : List Nat} (e : cs.length = n) : memb q (uK m cs) = memb q cs := by unfold memb; rw [flat_ins h e]
theorem tot_ins {m : List Bool} {n : Nat} (h : Mks m n) {cs : List (List Nat)} (e : cs.length = n) : totM (uK m cs) = totM cs := by
  rw [← totM_flat, ← totM_flat, flat_ins h e]
theorem nils_ins {m : List Bool} {n : Nat} (h : Mks m n) : uK m (List.replicate n []) = List.replicate m.length [] := by
  induction h with
  | one => rfl
  | unit _ ih => rw [uK, ih, List.length_cons, List.replicate_succ]
  | cup _ ih => rw [List.replicate_succ, uK, ih, List.length_cons, List.replicate_succ]
theorem fi_ins {m : List Bool} {n : Nat} (h : Mks m n) : ∀ {sz fw : List Nat}, sz.length = n → fw.length + 1 = n → (∀ i, i < fw.length → pk fw i < pk sz i) → ∀ i, i < (uF m fw).length → pk (uF m fw) i < pk (uS m sz) i := by
  induction h with
  | one =>
    intro sz fw e1 e2 _ i hi
    match fw, e2 with
    | [], _ => exact absurd hi (Nat.not_lt_zero _)
  | unit _ ih =>
    intro sz fw e1 e2 hf i hi
    rw [uF, uS]
    rw [uF, List.length_cons] at hi
    cases i with
    | zero => exact Nat.zero_lt_one
    | succ i => exact ih e1 e2 hf i (by omega)
  | cup h ih =>
    intro sz fw e1 e2 hf i hi
    have hp := h.pos
    match sz, e1, fw, e2 with
    | s :: sz, e1, f :: fw, e2 =>
      rw [uF, uS]
      rw [uF, List.length_cons] at hi
      cases i with
      | zero => exact hf 0 (by simp)
      | succ i => exact ih (by simpa using e1) (by simpa using e2) (fun j hj => hf (j + 1) (by rw [List.length_cons]; omega)) i (by omega)
    | s :: sz, e1, [], e2 => simp at e2; omega
theorem s_ins {m : List Bool} {n : Nat} (h : Mks m n) : ∀ {sz : List Nat}, sz.length = n → ∀ s ∈ uS m sz, s = 1 ∨ s ∈ sz := by
  induction h with
  | one =>
    intro sz e s hs
    match sz, e with
    | [t], _ => exact .inr hs
  | unit _ ih =>
    intro sz e s hs
    rw [uS] at hs
    rcases List.mem_cons.mp hs with rfl | hs
    · exact .inl rfl
    · exact ih e s hs
  | cup _ ih =>
    intro sz e s hs
    match sz, e with
    | t :: sz, e =>
      rw [uS] at hs
      rcases List.mem_cons.mp hs with rfl | hs
      · exact .inr List.mem_cons_self
      · exact (ih (sz := sz) (by simpa using e) s hs).imp id (List.mem_cons_of_mem _)
theorem RowM.ins {m : List Bool} {sz fw : List Nat} (M : RowM sz fw) (h : Mks m sz.length) : RowM (uS m sz) (uF m fw) := by
  have a := uS_len h rfl
  have b := uF_len h M.fl
  have c := h.le
  have d := M.l0
  exact ⟨by omega, by omega, fun s hs => (s_ins h rfl s hs).elim (fun e => by omega) (M.s1 s), fi_ins h rfl M.fl M.fi⟩
theorem adv_ins {m : List Bool} {sz fw : List Nat} (M : RowM sz fw) (h : Mks m sz.length) : ∀ (t : Nat) {q : List Nat} {cs : List (List Nat)}, Val sz cs → adv (uS m sz) (uF m fw) t (q, uK m cs) = ((adv sz fw t (q, cs)).1, uK m (adv sz fw t (q, cs)).2)
  | 0, _, _, _ => rfl
  | t + 1, [], cs, v => by
    show adv _ _ t (stp _ _ ([], uK m cs)) = (_, uK m (adv sz fw t (stp sz fw ([], cs))).2)
    exact adv_ins M h t v
  | t + 1, x :: q, cs, v => by
    show adv _ _ t (stp _ _ (x :: q, uK m cs)) = _
    have e : stp (uS m sz) (uF m fw) (x :: q, uK m cs) = ((csc sz fw cs x q).2, uK m (csc sz fw cs x q).1) := by
      show ((csc _ _ (uK m cs) x q).2, (csc _ _ (uK m cs) x q).1) = _
      rw [csc_ins h rfl M.fl (val_len v)]
    rw [e, adv_ins M h t (csc_ctr M.ne v).1]
    rfl
end R
namespace R
open PySem PySem.Spec PyProof.Rows L2
section
variable {K : PySem.W.Frag} {W W1 W2 W' : Wd} {H H1 H2 H' : Hp} {f f1 fp xf : List Addr} {σ : L2.St}
end
section
variable (P : Program) (w : World) (K : PySem.W.Frag) (mg : Str → Option Value) (base : Heap)
structure CalZ (x : Str) (n : Nat) (F : Spec1) (ks : List Str) (k : Nat) : Prop where
  ex : ∃ (f : Addr) (fd : FuncData) (ps : List Str) (g : List Value → List Value → List Value), FnOk P w K mg base CX0 k f fd ps (spR K n F.io) ∧ mg x = some (.ref f) ∧ PySem.W.keepIn K (.ref f) = true ∧ KBn K fd ps 0 ks g (fun _ zs => zs.reverse)
structure MetZ (C : Addr) (m : Str) (n : Nat) (F : Spec1) (ks : List Str) (k : Nat) : Prop where
  ex : ∃ (f : Addr) (fd : FuncData) (ps : List Str) (g : List Value → List Value → List Value), Cls K C ∧ Meth K C m f ∧ FnOk P w K mg base CX0 k f fd ps (spR K n F.io) ∧ KBn K fd ps 1 ks g (fun vs zs => vs ++ zs.reverse)
structure MakZ (x : Str) (C : Addr) (n : Nat) (F : Spec) (ks : List Str) (k : Nat) : Prop where
  ex : ∃ (f : Addr) (fd : FuncData) (ps : List Str) (g : List Value → List Value → List Value), Mk K C f ∧ FnOk P w K mg base CX0 k f fd ps (spR K n F) ∧ mg x = some (.ref C) ∧ KBn K fd ps 1 ks g (fun vs zs => vs ++ zs.reverse)
end
section
variable {X : Cx} {CX : CXT} {k j n np : Nat} {f C : Addr} {fd : FuncData} {ps ks : List Str} {sp : Sp} {E : XK} {x m : Str} {p pos apos kpos : Pos} {e o : Expr} {es : List Expr} {kws : List Keyword} {te ta : TE} {t tk : TA} {nm : Option Str} {g : List Value → List Value → List Value} {gV : List V → List V → List V} {F1 : Spec1} {F0 : Spec} {mo : DE} {mk : DA}
end
section
variable {K : PySem.W.Frag} {x qual : Str} {params : Arguments} {body : List Stmt} {scope : Scope} {kws : List (Str × V)} {f : Addr} {fd : FuncData} {ps : List Str}
end
end R
namespace R
open PySem PySem.Spec PyProof.Rows L2
def mMethV (n : Nat) (C : Nat) (m : Str) (F : Spec) (i : Nat) (ma : DA) (dv : List D) : DX := fun env Q => ∃ ks ts0, env[i]? = some (some (.nw (.ins C ks ts0))) ∧ ks.contains m = false ∧ mCallV n F [i] ma dv env Q
section
variable {X : Cx} {k j n i : Nat} {F0 : Spec} {dv : List D} {m nm : Str} {p pos apos : Pos} {e : Expr} {es : List Expr} {ma : DA} {C : Addr}
theorem dm_mthV {pl : Sem Bool} (c : MetIO X.prog X.w X.K X.mg X.base C m n F0 dv k) (hr : Room j X.A) (hk : k ≤ j) (hi : PE X (.Name nm p) (tVar i)) (ha : PA X (e :: es) (LA X.K ma))
    (hst : starEach (e :: es) X.env = (false, eval e X.env) :: starEach es X.env := by rfl) (hpl : (backTo pos (starEach es X.env)).any (·.1) = false := by rfl)
    (ht : eval (.Call (.Attribute (.Name nm p) m apos) (e :: es) [] pos) X.env = (do
      let ov ← eval (.Name nm p) X.env
      standAt apos.atName
      let (f, first) ← holding [ov] (getMethod ov m pl)
      callWith pos f first (backTo pos (starEach (e :: es) X.env)) (backToKw pos (keywordEach [] X.env))) := by rfl) :
    PE X (.Call (.Attribute (.Name nm p) m apos) (e :: es) [] pos) (LM X.K (mMethV n C m F0 i ma dv)) := by
  obtain ⟨f, fd, ps, ds, dvs, cl, me, F, b, d, r⟩ := c.ex
  refine pe_imp (pe_meth (pl := pl) hi cl me F (hr.mono hk) b d (pass0 (X := X)) ha hst hpl ht) fun σ H Q h => ?_
  obtain ⟨W, env, fp, xf, Q0, En, S, ⟨ks, ts0, ei, en, ts, e0, hmv, hma⟩, kk⟩ := h
  obtain ⟨v, ev, o, _⟩ := En.get ei S
  obtain ⟨a, dx, fs, g0, rfl, g, rfl, w, z⟩ := inst_ok (r := .br (.ins C ks ts0)) (ks := ks) rfl o S
  obtain ⟨vs, ⟨v', us', e1, ev', e2⟩, hla⟩ := callV_ok (E := E0) (is := [i]) (vs := []) En S hmv r kk hma
  have e2 : us' = [] := e2
  subst e2
  subst e1
  rw [ev] at ev'
  cases ev'
  exact ⟨.ref a, ev, a, dx, fs, rfl, g, lookup_no en, hla⟩
end
end R
namespace R
open PySem PySem.Spec PyProof.Rows L2
def exK (ad : Nat → Addr) (E : XK) : Nat → Hp → Prop := fun k H => match fldOf k with
  | none => E (.ref (ad k)) none H
  | some p => ∀ d, H d = some (.xd [(p.1, .str p.2)]) → E (.ref (ad k)) (some d) H
def spX (K : PySem.W.Frag) (ad : Nat → Addr) (n : Nat) (F : Spec) : Sp := fun vs H Q E => vs.length = n ∧ ∃ (W : Wd) (ss : Env) (fp xf : List Addr) (Q0 : Rs → Env → Prop), EnvOk K W H (vs.map some) ss fp xf ∧ Sat K W H fp xf ∧ F ss Q0 ∧
  (∀ r ss', Q0 r ss' → ∀ v W' H' fp' xf', Stp W H fp W' H' → EnvOk K W' H' (vs.map some) ss' fp' xf' → Sat K W' H' fp' xf' → (∀ a ∈ fp', a ∈ fp ∨ H a = none) → RetOk K H fp fp' W' H' v r → Q v H') ∧
  ∀ k ss', Q0 (.fz (.exn k)) ss' → ∀ W' H' fp' xf', Stp W H fp W' H' → EnvOk K W' H' (vs.map some) ss' fp' xf' → Sat K W' H' fp' xf' → (∀ a ∈ fp', a ∈ fp ∨ H a = none) → exK ad E k H'
section
variable {X : Cx} {a b c : Expr} {ma mb mc : DE} {pos : Pos} {pr : List Nat} {ex : Nat → Hp → Prop} {ad : Nat → Addr} {E : XK} {x : Str}
end
end R
namespace R
open PySem PySem.Spec PyProof.Rows L2
section
variable {K : PySem.W.Frag} {W W1 W2 W' : Wd} {H H1 H2 H' : Hp} {f f1 fp fp1 fp2 xf xf1 xf2 : List Addr} {σ σ1 σ2 : L2.St} {Q : VK} {r : Rs} {v : V} {env env1 env2 : Env}
end
section
variable {P : Program} {w : World} {K : PySem.W.Frag} {mg : Str → Option Value} {base : Heap}
end
section
variable (P : Program) (w : World) (K : PySem.W.Frag) (mg : Str → Option Value) (base : Heap) (ad : Nat → Addr)
structure CalX (x : Str) (n : Nat) (F : Spec1) (dv : List D) (k : Nat) : Prop where
  ex : ∃ (f : Addr) (fd : FuncData) (ps : List Str) (ds : List Value) (dvs : List V), FnOk P w K mg base (L2.CX P w) k f fd ps (spX K ad n F.io) ∧ mg x = some (.ref f) ∧ PySem.W.keepIn K (.ref f) = true ∧ Binds K fd ps ds ∧ Vals dvs ds ∧ ∀ W, RepAll K W dvs dv
structure MetX (C : Addr) (m : Str) (n : Nat) (F : Spec1) (dv : List D) (k : Nat) : Prop where
  ex : ∃ (f : Addr) (fd : FuncData) (ps : List Str) (ds : List Value) (dvs : List V), Cls K C ∧ Meth K C m f ∧ FnOk P w K mg base (L2.CX P w) k f fd ps (spX K ad n F.io) ∧ Binds K fd ps ds ∧ Vals dvs ds ∧ ∀ W, RepAll K W dvs dv
end
section
variable {X : Cx} {CX : CXT} {k j n : Nat} {f C : Addr} {fd : FuncData} {ps : List Str} {F1 : Spec1} {F0 : Spec} {dvs : List V} {dv : List D} {ds : List Value} {E : XK} {x m : Str} {p pos apos : Pos} {e o : Expr} {es : List Expr} {mo : DE} {ma : DA}
end
end R
namespace R
open PySem PySem.Spec PyProof.Rows L2
section
variable {X : Cx} {pins : List (Addr × Obj)} {σ : L2.St} {H HZ : Hp} {s s1 : Shared}
end
end R
namespace R
open PySem PySem.Spec PyProof.Rows L2
structure BaseC (K : PySem.W.Frag) (mg : Str → Option Value) (b : Str) (D : Addr) : Prop where
  gl : mg b = some (.ref D)
  kp : PySem.W.keepIn K (.ref D) = true
  sg : PySem.W.specialIn K (.ref D) "__getattribute__" = some (some (.builtin "type.__getattribute__"))
  rd : PySem.W.readsIn K D (.type "type") = true
  fi : PySem.W.findCls K (.ref D) (.type "type") "__init__" = some (.val (.builtin "ValueError.__init__"))
section
variable {X : Cx} {e : Expr} {es : List Expr} {ta : TA} {b : Str} {D : Addr} {p1 p2 pos : Pos}
end
def spIni (C : Addr) (f : Str) : Sp := fun vs H Q _ => ∃ (a : Addr) (v : V), vs = [.ref a, v] ∧ H a = some (exo a C none) ∧ ∀ dx, H dx = none → dx ≠ a → Q .non (upd (upd H dx (exd dx [(f, v)])) a (exo a C (some dx)))
section
variable {P : Program} {w : World} {K : PySem.W.Frag} {mg : Str → Option Value} {base : Heap}
end
structure IniC (P : Program) (w : World) (K : PySem.W.Frag) (mg : Str → Option Value) (base : Heap) (x : Str) (C : Addr) (f : Str) (k : Nat) : Prop where
  gl : mg x = some (.ref C)
  ox : OexC K C
  ini : ∃ (fI : Addr) (fd : FuncData) (self : Str), PySem.W.findIn K (.ref C) "__init__" = some (some (.ref fI)) ∧ PySem.W.typeIn K (.ref fI) = some (.type "function") ∧ L2.FnOk P w K mg base (L2.CX P w) 1 fI fd [self, f] (spIni C f) ∧ Binds K fd [self, f] []
section
variable {X : Cx} {E : XK} {ad : Nat → Addr} {x f v : Str} {p p2 pos pos2 : Pos}
end
end R
namespace R
open PySem PySem.Spec PySem.W PySem.Calls PyProof.Rows
section
variable {prog : Program} {w : World} {A : Around} {E : Value → Shared → Prop} {s : Shared} {K : Frag} {x D : Addr} {ox : Obj} {od : Option Obj}
end
end R
namespace R
open PySem PySem.Spec PyProof.Rows L2
def dOf (k : Nat) (dd : Addr) : Option Addr := match fldOf k with
  | some _ => some dd
  | none => none
def excR (k : Nat) (r dd : Addr) : Rs := match fldOf k with
  | some p => .ex (.xo r dd p.1 p.2)
  | none => .fz (.adr r)
def outEnv (N : List Str) (i k : Nat) (f r dd : Addr) : Env := (some (.fz (.adr f)) :: List.replicate (N.length - 1) none).set i (some (excR k r dd))
structure OutD (P : Program) (w : World) (K : PySem.W.Frag) (mg : Str → Option Value) (base : Heap) (ad : Nat → Addr) (x : Str) (wd : Option Nat → D) (ks : List Nat) (g CS : Addr) (fd : FuncData) (a n e ret : Str) (pg : Arguments) (b1 : Stmt) (suite : List Stmt) (sg : Scope) (N : List Str) (i : Nat) (ms : Nat → Addr → Addr → DS) (j : Nat) (p1 p2 p3 p4 p5 p6 p7 p8 : Pos) : Prop where
  fn : FunD K x x pg [.Try [.Expr (.Call (.Name a p1) [] [] p2) p3] [.ExceptHandler (some (.Name e p4)) (some n) (b1 :: suite) p5] [] [] p6, .Return (some (.Constant (.str ret) j p7)) p8] sg [] [] g fd
  gm : mg x = some (.ref g)
  bd : Binds K fd [a] []
  sc : FnScope N [a] sg
  h0 : N[0]? = some a
  va : Vis sg a
  a1 : (a == ("__debug__" : Str)) = false
  a2 : (a == ("__classdict__" : Str)) = false
  hi : N[i]? = some n
  ln : sg.names.lookup n = some .local
  ge : sg.names.lookup e = some .globalImplicit
  de : (e == ("__debug__" : Str)) = false
  me : mg e = some (.ref CS)
  exm : ∀ k ∈ ks, PySem.W.exmOne K (.ref (ad k)) (.ref CS) = some true
  su : ∀ k ∈ ks, ∀ (cdv : Value) (A : Around) (outer : List PySem.Env) (s : Shared) (H : Hp) (r dd : Addr) (oe : Obj) (pn : List (Addr × Obj)), Zc (.ref (ad k)) (dOf k dd) oe → (∃ vs, oe.data = .fields vs) → Room 0 (A.deeper (envOfC x sg s.heap.objs.size g cdv)) → PSs ((cxOf CX0 P w K mg base N x sg g cdv A outer s H fun _ _ _ => False).nox.suite r ((r, oe) :: pn)) (b1 :: suite) (LS K exT [] (ms k r dd))
  rd : ∀ k ∈ ks, ∀ f r dd : Addr, ms k r dd (outEnv N i k f r dd) { nx := fun _ => False, rt := fun z _ => z = .fz (wd (some k)) }
  wn : wd none = .str ret
structure OutC (P : Program) (w : World) (K : PySem.W.Frag) (mg : Str → Option Value) (base : Heap) (ad : Nat → Addr) (x : Str) (wd : Option Nat → D) (ks : List Nat) : Prop where
  ex : ∃ (g CS : Addr) (fd : FuncData) (a n e ret : Str) (pg : Arguments) (b1 : Stmt) (suite : List Stmt) (sg : Scope) (N : List Str) (i : Nat) (ms : Nat → Addr → Addr → DS) (j : Nat) (p1 p2 p3 p4 p5 p6 p7 p8 : Pos), OutD P w K mg base ad x wd ks g CS fd a n e ret pg b1 suite sg N i ms j p1 p2 p3 p4 p5 p6 p7 p8
section
variable {X : Cx}
end
end R
namespace R
open PySem PySem.Spec PyProof.Rows L2
structure ErrC (K : PySem.W.Frag) (mg : Str → Option Value) (x : Str) (a : Addr) : Prop where
  gl : mg x = some (.ref a)
  q : PySem.W.excIn K a He.veBase "ValueError.__new__" = true
  kp : PySem.W.keepIn K (.ref a) = true
  sb : PySem.W.subIn K (.ref a) (.type "BaseException") = some true
  ty : PySem.W.typeIn K (.ref a) = some (.type "type")
structure ErrI (K : PySem.W.Frag) (ad : Nat → Addr) (n k : Nat) : Prop where
  c : ExcC K (ad k)
  is : ∀ j, j < n → PySem.W.kitOne K (.ref (ad k)) (.ref (ad j)) = some (clsK k == j)
  ve : PySem.W.kitOne K (.ref (ad k)) (.type "ValueError") = some true
  nf : ∀ p, fldOf k = some p → PySem.W.findIn K (.ref (ad k)) p.1 = some none
theorem ErrI.congr {K : PySem.W.Frag} {ad ad' : Nat → Addr} {n k : Nat} (h : ErrI K ad n k) (hk : ad k = ad' k) (e : ∀ j, j < n → ad j = ad' j) : ErrI K ad' n k := ⟨by rw [← hk]; exact h.c, fun j hj => by rw [← hk, ← e j hj]; exact h.is j hj, by rw [← hk]; exact h.ve, by rw [← hk]; exact h.nf⟩
section
variable {X : Cx} {k j n np : Nat} {C : Addr} {F1 : Spec1} {x m : Str} {p pos apos : Pos} {e o : Expr} {es : List Expr} {mo : DE} {ma mk : DA} {kws : List Keyword} {ks : List Str} {E : XK} {ad : Nat → Addr}
structure MetKX (P : Program) (w : World) (K : PySem.W.Frag) (mg : Str → Option Value) (base : Heap) (ad : Nat → Addr) (C : Addr) (m : Str) (n : Nat) (F : Spec1) (np : Nat) (ks : List Str) (k : Nat) : Prop where
  ex : ∃ (f : Addr) (fd : FuncData) (ps : List Str) (g : List Value → List Value → List Value), Cls K C ∧ Meth K C m f ∧ FnOk P w K mg base (L2.CX P w) k f fd ps (spX K ad n F.io) ∧ KBn K fd ps (np + 1) ks g (fun vs zs => vs ++ zs)
end
theorem exB_is {is es : List Str} {ks : List Nat} {tf : List He.Defn} {ox : List (Str × Str)} {K : PySem.W.Frag} (h : exB is es ks tf ox K = true) : is.all (isB K) = true := (He.ba h).1
theorem lookup_mem {α : Type} {a : Addr} {o : α} : ∀ {l : List (Addr × α)}, l.lookup a = some o → (a, o) ∈ l
  | [], h => by cases h
  | (b, u) :: r, h => by
    rw [List.lookup_cons] at h
    cases q : a == b with
    | true =>
      rw [q] at h
      cases h
      rw [beq_iff_eq.mp q]
      exact List.mem_cons_self
    | false =>
      rw [q] at h
      exact List.mem_cons_of_mem _ (lookup_mem h)
theorem exB_tab {is es : List Str} {ks : List Nat} {tf : List He.Defn} {ox : List (Str × Str)} {K : PySem.W.Frag} (h : exB is es ks tf ox K = true) {P : Addr} {q : Str} (e : (lamTab K).lookup P = some q) : ∃ p ∈ tf.map (He.cT K), p.2 = P := by
  obtain ⟨p, hp, z⟩ := List.any_eq_true.mp (List.all_eq_true.mp (He.ba (He.ba (He.ba h).2).2).1 (P, q) (lookup_mem e))
  exact ⟨_, List.mem_map.mpr ⟨p, hp, rfl⟩, beq_iff_eq.mp z⟩
theorem tabs_at {fa : List He.Fa} {fn : List He.DefD} {ts : List He.Tab} {tf : List He.Defn} {ex : PySem.W.Frag → Bool} {w : World} {h : Heap} {K : PySem.W.Frag} {mg : Str → Option Value} (X : K.In h) (c : He.SaysX fa fn ts tf ex w h K)
    (b : ∃ (m : Addr) (o : Obj), mg "__builtins__" = some (.ref m) ∧ m ≠ builtinsNs ∧ h.get? m = some o ∧ o.cls = .type "module" ∧ o.dict = some builtinsNs ∧ o.data = .plain) : TabsAt K mg h (tf.map (He.cT K)) := by
  refine ⟨fun p m => ?_, fun p m => ?_, fun p m => ?_, b⟩
  all_goals
    obtain ⟨q, hq, rfl⟩ := List.mem_map.mp m
  · exact c.empty q hq
  · exact c.out q hq
  · exact PySem.W.codeHd_of_K X (c.hd q hq)
end R
namespace R
open PySem PySem.Spec PyProof.Rows L2
section
variable {X : Cx} {a b e : Expr} {es : List Expr} {ma mb : DE} {mr : DA} {pos : Pos} {pr : List Nat} {ex : Nat → Hp → Prop} {x : Str} {n k j : Nat} {F1 : Spec1} {dv : List D}
variable {tg elt iter : Expr} {ifs : List Expr} {scope : Scope} {own : List (Str × Nat)} {g : DG} {t : DT} {mi : DE}
end
end R
namespace R
open PySem PySem.Spec PyProof.Rows L2
section
variable {X : Cx} {a b : Expr} {ma mb : DE}
end
end R
namespace R
open PySem PySem.Spec PyProof.Rows L2
section
variable {X : Cx} {a b : Expr} {ma mb : DE} {pos : Pos} {C : Addr}
end
section
variable {X : Cx} {CX : CXT} {C f : Addr} {fd : FuncData} {ps : List Str} {k : Nat} {sp : Sp} {E : XK}
end
section
variable {X : Cx} {k j : Nat} {C : Addr} {F1 : Spec1} {pos : Pos} {a b : Expr} {ma mb : DE}
end
end R
namespace R
open PySem PySem.Spec PyProof.Rows L2
section
variable {K : PySem.W.Frag} {W W' : Wd} {H H' : Hp} {fp : List Addr}
end
section
variable {X : Cx} {a b : Expr} {ma mb : DE} {pos : Pos} {k : Nat} {pr : List Nat}
end
end R
namespace R
open PySem PySem.Spec PyProof.Rows L2
section
variable {X : Cx} {a : Expr} {ma : DE} {pr : List Nat} {ex : Nat → Hp → Prop} {ad : Nat → Addr} {x : Str}
end
end R
namespace R
open PySem PySem.Spec PyProof.Rows L2
section
variable {prog : Program} {w : World} {A : Around}
end
end R
namespace R
open PySem PySem.Spec PyProof.Rows L2
section
variable {X : Cx} {a b : Expr} {pos : Pos} {mr : DA}
end
end R
namespace R
open PySem PySem.Spec PyProof.Rows L2
section
variable {X : Cx} {k n : Nat} {F0 : Spec} {dvs : List V} {dv : List D} {E : XK} {x : Str} {p pos : Pos} {e : Expr} {es : List Expr} {ma : DA} {is : List Nat} {m0 : DE} {ms : List DE}
end
end R
namespace R
open PySem PySem.Spec PyProof.Rows L2
section
variable {X : Cx} {pins : List (Addr × Obj)} {σ : L2.St} {H : Hp} {s : Shared}
end
end R
namespace R
open PySem PySem.Spec PyProof.Rows L2
section
variable {X : Cx} {pins : List (Addr × Obj)} {σ : L2.St} {H : Hp} {s : Shared}
theorem vals_ints {ns : List Int} : ∀ {kA : List Value}, Vals (ns.map V.int) kA → IntsAre kA ns := by
  induction ns with
  | nil => intro kA h; cases h; exact .nil
  | cons n ns ih =>
    intro kA h
    cases h with
    | cons r h =>
      obtain ⟨t, rfl⟩ := r
      exact .cons n t (ih h)
end
end R
namespace R
open PySem PySem.Spec PyProof.Rows L2
section
variable {X : Cx}
end
end R
namespace R
open PySem PySem.Spec PyProof.Rows L2
section
variable {X : Cx} {a b c : Expr} {ma mb mc : DE} {mr : DA} {pos p1 : Pos} {pr : List Nat} {x : Str}
end
end R
namespace R
open PySem PySem.Spec PyProof.Rows L2
section
variable (P : Program) (w : World) (K : PySem.W.Frag) (mg : Str → Option Value) (base : Heap) (ad : Nat → Addr)
structure MakX (x : Str) (C : Addr) (n : Nat) (F : Spec) (dv : List D) (k : Nat) : Prop where
  ex : ∃ (f : Addr) (fd : FuncData) (ps : List Str) (ds : List Value) (dvs : List V), Mk K C f ∧ FnOk P w K mg base (L2.CX P w) k f fd ps (spX K ad n F) ∧ mg x = some (.ref C) ∧ Binds K fd ps ds ∧ Vals dvs ds ∧ ∀ W, RepAll K W dvs dv
structure MakKX (x : Str) (C : Addr) (n : Nat) (F : Spec) (np : Nat) (ks : List Str) (k : Nat) : Prop where
  ex : ∃ (f : Addr) (fd : FuncData) (ps : List Str) (g : List Value → List Value → List Value), Mk K C f ∧ FnOk P w K mg base (L2.CX P w) k f fd ps (spX K ad n F) ∧ mg x = some (.ref C) ∧ KBn K fd ps (np + 1) ks g (fun vs zs => vs ++ zs)
end
section
variable {X : Cx} {CX : CXT} {k j n np : Nat} {f C : Addr} {fd : FuncData} {ps ks : List Str} {F0 : Spec} {dvs : List V} {dv : List D} {ds : List Value} {E : XK} {x m : Str} {p pos apos : Pos} {e o : Expr} {es : List Expr} {ma mk : DA} {kws : List Keyword} {ad : Nat → Addr} {pr : List Nat} {ex : Nat → Hp → Prop} {a : Expr} {mx : DE}
end
section
variable {P : Program} {w : World} {K : PySem.W.Frag} {mg : Str → Option Value} {base : Heap} {ad : Nat → Addr} {k k1 k2 n : Nat} {f : Addr} {fd : FuncData} {ps : List Str} {F1 F2 : Spec}
end
end R
namespace R
open PySem PySem.Spec PyProof.Rows L2
structure Mid (X : Cx) (sB : Shared) (HB : Hp) (sc : Scope) (ce : PySem.Env) (fp : List Addr) (ws : List Nat) (σ : L2.St) (tn : Nat → Heap → Prop) (W : Nat → Nat → Hp → Prop) (n : Nat) (t : Shared) : Prop where
  ex : ∃ (i : Nat) (G : Hp), Inv (X.blk sB HB sc ce fp) [] (wipe σ ws) G t ∧ tn i t.heap ∧ (∀ b ∈ fp, G b = none) ∧ W i n G
section
variable {X : Cx}
end
end R
namespace R
open PySem PySem.Spec PyProof.Rows L2
section
variable {X : Cx} {pins : List (Addr × Obj)} {σ : L2.St} {H HZ : Hp} {s s1 : Shared}
end
end R
namespace R
open PySem PySem.Spec PyProof.Rows L2
section
variable {X : Cx} {a : Expr} {ma : DE} {pos : Pos}
end
end R
namespace R
open PySem PySem.Spec PyProof.Rows L2
mutual
inductive Dq (H : Hp) : V → PyData → Prop
  | non : Dq H .non .none
  | bl (b : Bool) : Dq H (.bl b) (.bool b)
  | int (i : Int) : Dq H (.int i) (.int i)
  | str (x : Str) : Dq H (.str x) (.str x)
  | lst {a : Addr} {xs : List V} {ds : List PyData} : H a = some (.lst xs) → DqAll H xs ds → Dq H (.ref a) (.list ds)
  | tup {a : Addr} {xs : List V} {ds : List PyData} : H a = some (.tup xs) → DqAll H xs ds → Dq H (.ref a) (.tuple ds)
  | dct {a : Addr} : H a = some (.dK []) → Dq H (.ref a) (.dict [])
inductive DqAll (H : Hp) : List V → List PyData → Prop
  | nil : DqAll H [] []
  | cons {v : V} {vs : List V} {d : PyData} {ds : List PyData} : Dq H v d → DqAll H vs ds → DqAll H (v :: vs) (d :: ds)
end
section
variable {X : Cx} {pins : List (Addr × Obj)} {σ : L2.St} {H : Hp} {s : Shared}
def RpOk (P : Program) (w : World) (h : Heap) (u : Value) (d : PyData) : Prop := ∃ as bs, Reads h u d as ∧ ReadAtMost h d.depth bs ∧ ReprK P w bs h d.depth u d.shown
def RpAll (P : Program) (w : World) (h : Heap) (us : List Value) (ds : List PyData) : Prop := ∃ as bs, ReadsAll h us ds as ∧ ReadAtMost h (PyData.depthAll ds) bs ∧ ReprAllK P w bs h (PyData.depthAll ds) us (PyData.shownAll ds)
theorem rp_dict (I : Inv X pins σ H s) {a : Addr} (g : H a = some (.dK [])) : ∃ o n, s.heap.get? a = some o ∧ o.cls = .type "dict" ∧ o.data = .dict #[] n ∧ (a == sysModules) = false := by
  obtain ⟨_, lo, vs, rel, o, es, ep, ho, hx, hd, _, hpr, _⟩ := dk_of I.hok g
  cases rel
  have he : es = #[] := by
    have : es.toList = [] := by
      generalize es.toList = l at hpr
      cases hpr
      rfl
    rw [← Array.toArray_toList (xs := es), this]
  subst he
  exact ⟨o, ep, ho, hx.1, hd, lo⟩
mutual
theorem Dq.rp (I : Inv X pins σ H s) : ∀ (d : PyData) (v : V) (u : Value), Dq H v d → RelV v u → d.showable = true → d.shown.length ≤ sizeLine → RpOk X.prog X.w s.heap u d
  | .none, _, _, h, r, _, _ => by
    cases h
    cases r
    exact ⟨_, [], Reads.none, (fun _ h => nomatch h), by simp only [PyData.shown]; exact .of_is ReprIs.none _ _ _⟩
  | .bool b, _, _, h, r, _, _ => by
    cases h
    cases r
    exact ⟨_, [], Reads.bool b, (fun _ h => nomatch h), by simp only [PyData.shown]; exact .of_is (ReprIs.bool b) _ _ _⟩
  | .int i, _, _, h, r, hs, _ => by
    cases h
    obtain ⟨t, rfl⟩ := r
    exact ⟨_, [], Reads.int i t, (fun _ h => nomatch h), by simp only [PyData.shown]; exact .of_is (ReprIs.int t (by simpa [PyData.showable] using hs)) _ _ _⟩
  | .str x, _, _, h, r, _, hz => by
    cases h
    obtain ⟨t, rfl⟩ := r
    exact ⟨_, [], Reads.str x t, (fun _ h => nomatch h), by simp only [PyData.shown]; exact .of_is (ReprIs.str x t (by simpa only [PyData.shown] using hz)) _ _ _⟩
  | .list ds, _, _, h, r, hs, hz => by
    cases h with
    | lst g ha =>
      cases r
      have hz' : (listText (PyData.shownAll ds)).length ≤ sizeLine := by simpa only [PyData.shown] using hz
      obtain ⟨its, rv, ⟨o, n, h1, h2, _, h3⟩, _⟩ := I.list (.of g)
      obtain ⟨as, bs, h4, hb, hk⟩ := Dq.rpAll I ds _ its ha rv (by simpa [PyData.showable] using hs) (fun t ht => Nat.le_trans (listText_mem_le ht) hz')
      have r := Reads.list h1 h2 h3 h4
      have hna := not_mem_of_deeper r (by simp only [PyData.depth]; omega) hb
      refine ⟨_, _, r, ReadAtMost.cons r (by simp only [PyData.depth]; omega) hb, ?_⟩
      simp only [PyData.depth, PyData.shown]
      cases its with
      | nil =>
        cases h4
        simp only [PyData.shownAll, listText_nil]
        exact ReprK.listEmpty h1 h2 h3
      | cons x l => exact ReprK.list h1 h2 h3 hna (by simpa using hk.length_eq) (fun i y e => hk.item i y (by simpa using e))
  | .tuple ds, _, _, h, r, hs, hz => by
    cases h with
    | tup g ha =>
      cases r
      have hz' : (tupleText (PyData.shownAll ds)).length ≤ sizeLine := by simpa only [PyData.shown] using hz
      obtain ⟨its, rv, ⟨o, h1, h2, n, h3⟩, _⟩ := I.tuple (.of g)
      obtain ⟨as, bs, h4, hb, hk⟩ := Dq.rpAll I ds _ its ha rv (by simpa [PyData.showable] using hs) (fun t ht => Nat.le_trans (tupleText_mem_le ht) hz')
      have r := Reads.tuple h1 h2 h3 h4
      have hna := not_mem_of_deeper r (by simp only [PyData.depth]; omega) hb
      refine ⟨_, _, r, ReadAtMost.cons r (by simp only [PyData.depth]; omega) hb, ?_⟩
      simp only [PyData.depth, PyData.shown]
      exact ReprK.tuple h1 h2 h3 hna hk
  | .dict kvs, _, _, h, r, _, _ => by
    cases h with
    | dct g =>
      cases r
      obtain ⟨o, n, h1, h2, h3, lo⟩ := rp_dict I g
      have r := Reads.dict (h := s.heap) (kvs := []) h1 h2 h3 .nil .nil
      refine ⟨_, _, r, ReadAtMost.cons r (Nat.zero_le _) (bs := []) (fun _ h => nomatch h), ?_⟩
      simp only [PyData.depth, PyData.shown, PyData.shownKv]
      exact ReprK.dict h1 h2 h3 lo (fun h => nomatch h) (ReprEntriesK.of_two [] [] [] .nil .nil)
theorem Dq.rpAll (I : Inv X pins σ H s) : ∀ (ds : List PyData) (vs : List V) (us : List Value), DqAll H vs ds → Vals vs us → PyData.showableAll ds = true → (∀ t ∈ PyData.shownAll ds, t.length ≤ sizeLine) → RpAll X.prog X.w s.heap us ds
  | [], _, _, h, r, _, _ => by
    cases h
    cases r
    exact ⟨_, [], ReadsAll.nil, (fun _ h => nomatch h), by simp only [PyData.shownAll]; exact .nil⟩
  | d :: ds, _, _, h, r, hs, hz => by
    cases h with
    | cons h1 h2 =>
      cases r with
      | cons r1 r2 =>
        have hs' : d.showable = true ∧ PyData.showableAll ds = true := by simpa [PyData.showableAll] using hs
        obtain ⟨as, b1, q1, hb1, k1⟩ := Dq.rp I d _ _ h1 r1 hs'.1 (hz _ (by simp only [PyData.shownAll]; exact List.mem_cons_self ..))
        obtain ⟨bs, b2, q2, hb2, k2⟩ := Dq.rpAll I ds _ _ h2 r2 hs'.2 (fun t ht => hz t (by simp only [PyData.shownAll]; exact List.mem_cons_of_mem _ ht))
        refine ⟨_, b1 ++ b2, ReadsAll.cons q1 q2, ?_, ?_⟩
        · intro b hm
          simp only [PyData.depthAll]
          rcases List.mem_append.mp hm with hm | hm
          · obtain ⟨d', as', r', hd'⟩ := hb1 b hm
            exact ⟨d', as', r', Nat.le_trans hd' (Nat.le_max_left _ _)⟩
          · obtain ⟨d', as', r', hd'⟩ := hb2 b hm
            exact ⟨d', as', r', Nat.le_trans hd' (Nat.le_max_right _ _)⟩
        · simp only [PyData.depthAll, PyData.shownAll]
          exact .cons ((k1.more fun b hb => List.mem_append_left _ hb).level_le (Nat.le_max_left _ _)) (k2.more_le (fun b hb => List.mem_append_right _ hb) (Nat.le_max_right _ _))
end
end
section
variable {X : Cx} {a : Expr} {mr : DA}
end
end R
namespace R
open PySem PySem.Spec PyProof.Rows L2
section
variable {prog : Program} {w : World} {A : Around}
end
section
variable {X : Cx} {a b : Expr} {pos : Pos} {mr : DA}
end
end R
namespace R
open PySem PySem.Spec PyProof.Rows L2
section
variable {X : Cx} {a : Expr} {ma : DE} {pos : Pos} {ml mh : DO} {lo hi : Option Expr}
end
end R
namespace R
open PySem PySem.Spec PyProof.Rows L2
section
variable {X : Cx} {a : Expr} {ma : DE} {pos : Pos} {C D : Addr}
end
end R
namespace R
open PySem PySem.Spec PyProof.Rows L2
section
variable {X : Cx} {x : Str}
end
end R
namespace R
open PySem PySem.Spec PyProof.Rows L2
section
variable {X : Cx} {a : Expr} {mr : DA}
end
end R
namespace R
open PySem PySem.Spec PyProof.Rows L2
section
variable {X : Cx} {a b c : Expr} {pos : Pos} {mr : DA}
end
end R
namespace R
open PySem PySem.Spec PyProof.Rows L2
structure IniV (P : Program) (w : World) (K : PySem.W.Frag) (mg : Str → Option Value) (base : Heap) (x : Str) (C : Addr) (f : Str) (k : Nat) : Prop where
  gl : mg x = some (.ref C)
  ox : OexC K C
  no : PySem.W.findIn K (.ref C) f = some none
  ini : ∃ (fI : Addr) (fd : FuncData) (self : Str), PySem.W.findIn K (.ref C) "__init__" = some (some (.ref fI)) ∧ PySem.W.typeIn K (.ref fI) = some (.type "function") ∧ L2.FnOk P w K mg base CX0 1 fI fd [self, f] (spIni C f) ∧ Binds K fd [self, f] []
section
variable {X : Cx} {e : Expr} {es : List Expr} {te : TE} {ta : TA} {m : DE} {x f : Str} {C : Addr} {p pos : Pos}
end
end R
namespace R
open PySem PySem.Spec PySem.HandSPX
section
variable {M : Model} {A : Around} {E : Value → Shared → Prop} {h : Heap} {g : Array GenState} {d : Drawn} {t : Nat} {os : OsState}
variable {nm q : Str} {C N : Addr} {bs bm bmB : List Value} {hdct : Bool} {sn : List Str} {sub : List Value} {ab : Bool} {col : Option Bool} {dd : Option Addr} {k0 k1 k2 k3 k5 : Option Value} {B newId initId : String}
end
section
variable {prog : Program} {w : World} {A : Around} {E : Value → Shared → Prop} {R : Result → Shared → Prop} {h : Heap} {g : Array GenState} {d : Drawn} {t : Nat} {os : OsState}
variable {nm q : Str} {C N : Addr} {bs bm bmB : List Value} {hdct : Bool} {sn : List Str} {sub : List Value} {ab : Bool} {col : Option Bool} {dd : Option Addr} {k0 k1 k2 k3 k5 : Option Value} {B newId initId : String}
end
end R
namespace R
open PySem PySem.Spec PyProof.Rows L2
structure IniZ (P : Program) (w : World) (K : PySem.W.Frag) (mg : Str → Option Value) (base : Heap) (x : Str) (C : Addr) (f : Str) (k : Nat) : Prop where
  gl : mg x = some (.ref C)
  ox : OexC K C
  no : PySem.W.findIn K (.ref C) f = some none
  ini : ∃ (fI : Addr) (fd : FuncData) (self : Str) (g : List Value → List Value → List Value), PySem.W.findIn K (.ref C) "__init__" = some (some (.ref fI)) ∧ PySem.W.typeIn K (.ref fI) = some (.type "function") ∧ L2.FnOk P w K mg base CX0 1 fI fd [self, f] (spIni C f) ∧ KBn K fd [self, f] 1 [f] g (fun vs zs => vs ++ zs.reverse)
section
variable {X : Cx} {e : Expr} {te : TE} {m : DE} {x f : Str} {C : Addr} {p pos kpos : Pos} {ks : List Str} {kws : List Keyword} {tk : TA}
end
end R
namespace R
open PySem PySem.Spec PyProof.Rows L2
def mCall1N (F : Spec) (m : DE) : DE := fun env Q => m env fun r => ∃ t, r = .nw t ∧ F [some (.nw t)] fun v _ => ∃ d, v = .fz d ∧ Q (.fz d)
def mIfOrN (a : DX) (b : DE) (x y : DS) : DS := fun env D => a env fun r e => ∃ c, r = .fz (.bl c) ∧ if c = true then mIfS (mNot (mT b)) x y e D else x e D
section
variable {X : Cx} {e a b : Expr} {m mb : DE} {mx : DX} {F0 : Spec} {k j : Nat} {x : Str} {p pos np np2 op : Pos} {s1 s2 : List Stmt} {m1 m2 : DS} {ex : Nat → Hp → Prop} {pr : List Nat}
theorem dp_cal1N (c : CalIO X.prog X.w X.K X.mg X.base x 1 F0 [] k) (hr : Room j X.A) (hk : k ≤ j) (he : PE X e (LP X.K m)) (hg : Gl X x := by rfl) (hs : starEach [e] X.env = (false, eval e X.env) :: starEach [] X.env := by rfl) (hpl : (backTo pos (starEach [] X.env)).any (·.1) = false := by rfl) (hdb : (x == ("__debug__" : Str)) = false := by decide) :
    PE X (.Call (.Name x p) [e] [] pos) (LP X.K (mCall1N F0 m)) := by
  obtain ⟨f, fd, ps, ds, dvs, F, hm, kp, b, d, r⟩ := c.ex
  refine pe_imp (pe_call F (hr.mono hk) hg hm kp b d (pass0 (X := X)) (pa_cons he pa_nil hs) hdb hs hpl) fun σ H Q h => ?_
  obtain ⟨W, env, fp, xf, Q0, En, S, hm, kk⟩ := h
  refine ⟨W, env, fp, xf, _, En, S, hm, fun r0 ⟨t, er, hF⟩ v W1 H1 t1 S1 o => ?_⟩
  subst er
  obtain ⟨g, ow, nd, fr⟩ := o
  have r1 := r W1
  cases dvs with
  | cons => cases r1
  | nil =>
    have S2 : Sat X.K W1 H1 (g ++ []) [] := ⟨S1.sub, S1.vol, by rw [List.append_nil]; exact nd, fun a m => by
      rw [List.append_nil] at m
      exact ⟨(fr a m).2.1, (fr a m).2.2, ow.alloc a m⟩, fun _ m => by cases m⟩
    refine ⟨rfl, W1, [some (.nw t)], g ++ [], [], _, .nw ow .nil, S2, hF, fun r2 ss' ⟨d2, er, q⟩ v2 W' H' fp' xf' t5 E5 S5 nf ro => ?_⟩
    subst er
    have tall : Stp W H [] W' H' := t1.trans t5 fun a m => .inr (fr a (by rwa [List.append_nil] at m)).1
    exact kk _ q _ W' H' tall (S.back tall (S5.sublist (List.nil_sublist _) fun _ m => m)) ro
theorem ds_ifOrN (ha : PE X a (LM X.K mx)) (hb : PE X b (LP X.K mb)) (h1 : PSs X s1 (LS X.K ex pr m1)) (h2 : PSs X s2 (LS X.K ex pr m2))
    (hea : ∀ whole, isTrue a X.env whole = (do let v ← whole; standAt a.pos; holding [v] (truthy v)) := by intro _; rfl) (heb : ∀ whole, isTrue b X.env whole = (do let v ← whole; standAt b.pos; holding [v] (truthy v)) := by intro _; rfl) :
    PS X (.If (.BoolOp .Or [.UnaryOp .Not a np, .UnaryOp .Not b np2] op) s1 s2 pos) (LS X.K ex pr (mIfOrN mx mb m1 m2)) :=
  ps_imp (ps_if (PW.pt (pw_or (pt_not (pt_val ha hea)) (pw_or1 (dt_not (dt_val hb heb))))) h1 h2) fun D σ H h => by
  obtain ⟨W, env, fp, xf, K0, E, S, hm, nx, bk, ct, rt⟩ := h
  refine ⟨W, env, fp, xf, _, E, S, hm, fun r e ⟨b, hr, hq⟩ v W' H' fp' xf' t E' S' nf ro => ?_⟩
  subst hr
  have P : Post X.K W H fp pr σ σ W' H' e fp' xf' := ⟨t, E', S', nf, fun _ _ => rfl⟩
  have ev : v = .bl b := by cases (show Rep X.K W' v (.bl b) from ro); rfl
  refine ⟨b, ev, ?_⟩
  cases b with
  | false => exact iteT (iteT (LSs.post P hq nx bk ct rt))
  | true =>
    refine iteF ?_
    obtain ⟨W2, env2, fp2, xf2, K2, E2, S2, hm2, nx2, bk2, ct2, rt2⟩ := LSs.post (m := mIfS (mNot (mT mb)) m1 m2) P hq nx bk ct rt
    refine LT.next E2 S2 hm2 fun c hc W1 H1 t1 S1 E1 => ?_
    cases c with
    | true => exact iteT (LS.from (.pure t1 E1 S1) (show m1 env2 K2 from hc) nx2 bk2 ct2 rt2)
    | false => exact iteF (LS.from (.pure t1 E1 S1) (show m2 env2 K2 from hc) nx2 bk2 ct2 rt2)
end
end R
namespace R
open PySem PySem.Spec PyProof.Rows L2
def pickF : List Str → List OT → List Str → Option (List OT)
  | _, _, [] => some []
  | k :: ks, t :: ts, f :: fs => if k = f then (pickF ks ts fs).map (t :: ·) else pickF ks ts (f :: fs)
  | _, _, _ => none
def mRetFl (i C : Nat) (fs : List Str) : DS := fun env D => ∃ ks ts0 ts, env[i]? = some (some (.nw (.ins C ks ts0))) ∧ ks.Nodup ∧ pickF ks ts0 fs = some ts ∧ D.rt (.nw (.tup ts)) (env.set i none)
def tFlds (K : PySem.W.Frag) (i : Nat) (fs : List Str) : TA := fun σ H Q => ∃ a C dx ps vs, σ[i]? = some (some (.ref a)) ∧ H a = some (.ins C dx ps) ∧ Cls K C ∧ (∀ f ∈ fs, NoAttr K C f) ∧ fs.map (fun f => ps.lookup f) = vs.map some ∧ Q vs H
theorem pick_ok {K : PySem.W.Frag} {W : Wd} {H : Hp} : ∀ {ps : List (Str × V)} {ts0 ts : List OT} {g : List Addr} {fs : List Str}, (ps.map (·.1)).Nodup → OwnAll K W H (ps.map (·.2)) ts0 g → pickF (ps.map (·.1)) ts0 fs = some ts →
    ∃ vs g', fs.map (fun f => ps.lookup f) = vs.map some ∧ OwnAll K W H vs ts g' ∧ g'.Sublist g ∧ ∀ f ∈ fs, f ∈ ps.map (·.1)
  | ps, ts0, ts, g, [], _, _, h => by
    have : ts = [] := by
      cases ps <;> cases ts0 <;> (rw [pickF] at h; cases h; rfl)
    subst this
    exact ⟨[], [], rfl, .nil, List.nil_sublist _, fun _ m => by cases m⟩
  | [], ts0, ts, g, f :: fs, _, w, h => by cases ts0 <;> cases h
  | (k, u) :: ps, ts0, ts, g, f :: fs, nd, w, h => by
    cases w with
    | @cons _ _ t ts1 f1 g1 o1 r1 =>
      have nd' := List.nodup_cons.mp nd
      replace h : (if k = f then (pickF (ps.map (·.1)) ts1 fs).map (t :: ·) else pickF (ps.map (·.1)) ts1 (f :: fs)) = some ts := h
      have look : ∀ f' : Str, f' ∈ ps.map (·.1) → ((k, u) :: ps).lookup f' = ps.lookup f' := fun f' m => by
        rw [List.lookup_cons, show (f' == k) = false from beq_eq_false_iff_ne.mpr fun z => nd'.1 (z ▸ m)]
      by_cases e : k = f
      · rw [if_pos e] at h
        subst e
        cases z : pickF (ps.map (·.1)) ts1 fs with
        | none => rw [z] at h; cases h
        | some ts2 =>
          rw [z] at h
          cases h
          obtain ⟨vs, g', e1, o2, s2, m2⟩ := pick_ok nd'.2 r1 z
          refine ⟨u :: vs, f1 ++ g', ?_, .cons o1 o2, s2.append_left f1, fun f' m => ?_⟩
          · rw [List.map_cons, List.map_cons, ← e1, List.lookup_cons, beq_self_eq_true, List.map_congr_left fun f' m => look f' (m2 f' m)]
          · rcases List.mem_cons.mp m with q | q
            · rw [q]; exact List.mem_cons_self
            · exact List.mem_cons_of_mem _ (m2 f' q)
      · rw [if_neg e] at h
        obtain ⟨vs, g', e1, o2, s2, m2⟩ := pick_ok nd'.2 r1 h
        refine ⟨vs, g', ?_, o2, s2.trans (List.sublist_append_right f1 g1), fun f' m => List.mem_cons_of_mem _ (m2 f' m)⟩
        rw [← e1]
        exact List.map_congr_left fun f' m => look f' (m2 f' m)
section
variable {X : Cx} {pos : Pos} {pr : List Nat} {es : List Expr} {x f : Str} {fs : List Str} {i C : Nat} {ex : Nat → Hp → Prop}
theorem paf_nil : PA X [] (tFlds X.K i []) := pa_imp pa_nil fun σ H Q ⟨a, C, dx, ps, vs, _, _, _, _, e, q⟩ => by
  have : vs = [] := List.map_eq_nil_iff.mp e.symm
  rw [this] at q
  exact q
theorem paf_cons {p p2 : Pos} (hr : PA X es (tFlds X.K i fs)) (hv : PE X (.Name x p) (tVar i)) (hb : attributeBase (.Name x p) f X.env (eval (.Name x p) X.env) = eval (.Name x p) X.env := by rfl) (hs : starEach (.Attribute (.Name x p) f p2 :: es) X.env = (false, eval (.Attribute (.Name x p) f p2) X.env) :: starEach es X.env := by rfl) :
    PA X (.Attribute (.Name x p) f p2 :: es) (tFlds X.K i (f :: fs)) := pa_imp (pa_cons (pe_fld hv hb) hr hs) fun σ H Q ⟨a, C, dx, ps, vs, ev, ea, c, n, e, q⟩ => by
  cases vs with
  | nil => cases e
  | cons v vs =>
    rw [List.map_cons, List.map_cons] at e
    obtain ⟨e1, e2⟩ := List.cons.inj e
    exact ⟨_, ev, a, C, dx, ps, v, rfl, ea, c, n f List.mem_cons_self, e1, a, C, dx, ps, vs, ev, ea, c, fun f' m => n f' (List.mem_cons_of_mem _ m), e2, q⟩
theorem ds_retFl {x1 : Nat} {p : Pos} (cl : Cls X.K C) (na : ∀ f ∈ fs, NoAttr X.K C f) (h : PA X es (tFlds X.K i fs)) (hl : fs.length < 100 := by decide) : PS X (.Return (some (.Tuple es x1 p)) pos) (LS X.K ex pr (mRetFl i C fs)) := ps_imp (ps_ret (pe_tup h)) fun D σ H h => by
  obtain ⟨W, env, fp, xf, K0, E, S, ⟨ks, ts0, ts, he, hnd, hpk, hm⟩, nx, bk, ct, rt⟩ := h
  obtain ⟨v, f, fp1, xf1, ev, ow, E1, S1, p1, x1⟩ := E.take S he
  obtain ⟨n1, n2, n3⟩ := List.nodup_append.mp (p1.nodup_iff.mp S.nd)
  cases ow with
  | @ins a _ dx ps _ g0 ea w =>
    obtain ⟨vs, g, elk, ow, sub, _⟩ := pick_ok hnd w hpk
    have gin : ∀ b ∈ g, b ∈ a :: g0 := fun b m => List.mem_cons_of_mem _ (sub.subset m)
    have nd1 : g.Nodup := (n1.sublist (List.sublist_cons_self _ _)).sublist sub
    have hlen : vs.length = fs.length := by
      have := congrArg List.length elk
      rw [List.length_map, List.length_map] at this
      exact this.symm
    refine ⟨a, C, dx, ps, vs, ev, ea, cl, na, elk, ?_, fun p n => ?_⟩
    · rw [hlen, ← sizeL_eq]; unfold sizeL; omega
    · have fr := S1.free n
      have P : Post X.K W H fp pr σ σ W (upd H p (.tup vs)) (env.set i none) fp1 xf1 := by
        have P0 := Post.move (pr := pr) E1 S1 p1
        exact P0.trans (Post.pure (.new n) (E1.keep S1 (.new n)) (S1.new n))
      have off : ∀ a ∈ g, W.G a = none ∧ W.S a = none ∧ H a ≠ none := fun a m => S.off a (p1.mem_iff.mpr (List.mem_append_left _ (gin a m)))
      refine rt _ _ hm _ σ W _ fp1 xf1 P ⟨p :: g, .tup upd_same (ow.mono (.refl _) fun a m o q => by rw [upd_ne (fun z => by rw [z] at m; exact (off p m).2.2 n)]; exact q), ?_, fun a m => ?_⟩
      · exact List.nodup_cons.mpr ⟨fun m => (off p m).2.2 n, nd1⟩
      · rcases List.mem_cons.mp m with q | q
        · subst q
          exact ⟨.inl n, fun q => (S1.off a q).2.2 n, fr⟩
        · exact ⟨.inr (p1.mem_iff.mpr (List.mem_append_left _ (gin a q))), fun z => n3 a (gin a q) a z rfl, (off a q).1, (off a q).2.1⟩
end
end R
namespace Cl
open PySem PySem.Spec PyProof.Rows L2 R
abbrev N_is_name : List PySem.Str := ["value", "letter"]
abbrev P_is_name : List PySem.Str := ["value"]
theorem sc_is_name : FnScope N_is_name P_is_name (defScope s_is_name) := ⟨rfl, rfl, rfl, by decide +kernel, rfl, by decide +kernel, by decide +kernel⟩
abbrev N_is_name_list : List PySem.Str := ["value", "name"]
abbrev P_is_name_list : List PySem.Str := ["value"]
theorem sc_is_name_list : FnScope N_is_name_list P_is_name_list (defScope s_is_name_list) := ⟨rfl, rfl, rfl, by decide +kernel, rfl, by decide +kernel, by decide +kernel⟩
abbrev N_require : List PySem.Str := ["condition"]
abbrev P_require : List PySem.Str := ["condition"]
theorem sc_require : FnScope N_require P_require (defScope s_require) := ⟨rfl, rfl, rfl, by decide +kernel, rfl, by decide +kernel, by decide +kernel⟩
abbrev N_CupFinder_init : List PySem.Str := ["self", "queue"]
abbrev P_CupFinder_init : List PySem.Str := ["self", "queue"]
theorem sc_CupFinder_init : FnScope N_CupFinder_init P_CupFinder_init (defScope s_CupFinder_init) := ⟨rfl, rfl, rfl, by decide +kernel, rfl, by decide +kernel, by decide +kernel⟩
abbrev N_CupFinder_observe : List PySem.Str := ["self", "queue", "cup", "returned"]
abbrev P_CupFinder_observe : List PySem.Str := ["self", "queue"]
theorem sc_CupFinder_observe : FnScope N_CupFinder_observe P_CupFinder_observe (defScope s_CupFinder_observe) := ⟨rfl, rfl, rfl, by decide +kernel, rfl, by decide +kernel, by decide +kernel⟩
abbrev N_CupFinder_empty_known_cup : List PySem.Str := ["self", "cup", "row"]
abbrev P_CupFinder_empty_known_cup : List PySem.Str := ["self", "cup"]
theorem sc_CupFinder_empty_known_cup : FnScope N_CupFinder_empty_known_cup P_CupFinder_empty_known_cup (defScope s_CupFinder_empty_known_cup) := ⟨rfl, rfl, rfl, by decide +kernel, rfl, by decide +kernel, by decide +kernel⟩
abbrev N_CupFinder_learn_cup : List PySem.Str := ["self", "returned", "row", "found", "forwarded", "at"]
abbrev P_CupFinder_learn_cup : List PySem.Str := ["self", "returned"]
theorem sc_CupFinder_learn_cup : FnScope N_CupFinder_learn_cup P_CupFinder_learn_cup (defScope s_CupFinder_learn_cup) := ⟨rfl, rfl, rfl, by decide +kernel, rfl, by decide +kernel, by decide +kernel⟩
abbrev N_CupFinder_check_limits : List PySem.Str := ["self", "count", "sizes"]
abbrev P_CupFinder_check_limits : List PySem.Str := ["self", "count"]
theorem sc_CupFinder_check_limits : FnScope N_CupFinder_check_limits P_CupFinder_check_limits (defScope s_CupFinder_check_limits) := ⟨rfl, rfl, rfl, by decide +kernel, rfl, by decide +kernel, by decide +kernel⟩
abbrev N_infer_cups : List PySem.Str := ["queues", "first", "finder", "queue"]
abbrev P_infer_cups : List PySem.Str := ["queues"]
theorem sc_infer_cups : FnScope N_infer_cups P_infer_cups (defScope s_infer_cups) := ⟨rfl, rfl, rfl, by decide +kernel, rfl, by decide +kernel, by decide +kernel⟩
abbrev N_law_cell_at : List PySem.Str := ["_law_script", "_law_k"]
abbrev P_law_cell_at : List PySem.Str := ["_law_script", "_law_k"]
theorem sc_law_cell_at : FnScope N_law_cell_at P_law_cell_at (defScope s_law_cell_at) := ⟨rfl, rfl, rfl, by decide +kernel, rfl, by decide +kernel, by decide +kernel⟩
abbrev N_law_mixed : List PySem.Str := ["_law_cell", "_law_k", "_law_low"]
abbrev P_law_mixed : List PySem.Str := ["_law_cell", "_law_k"]
theorem sc_law_mixed : FnScope N_law_mixed P_law_mixed (defScope s_law_mixed) := ⟨rfl, rfl, rfl, by decide +kernel, rfl, by decide +kernel, by decide +kernel⟩
abbrev N_law_source : List PySem.Str := ["_law_script", "_law_k", "_law_cell"]
abbrev P_law_source : List PySem.Str := ["_law_script", "_law_k"]
theorem sc_law_source : FnScope N_law_source P_law_source (defScope s_law_source) := ⟨rfl, rfl, rfl, by decide +kernel, rfl, by decide +kernel, by decide +kernel⟩
abbrev N_law_draw : List PySem.Str := ["_law_source_here", "_law_bound", "_law_found"]
abbrev P_law_draw : List PySem.Str := ["_law_source_here", "_law_bound"]
theorem sc_law_draw : FnScope N_law_draw P_law_draw (defScope s_law_draw) := ⟨rfl, rfl, rfl, by decide +kernel, rfl, by decide +kernel, by decide +kernel⟩
abbrev N_law_pick : List PySem.Str := ["_law_source_here", "_law_options"]
abbrev P_law_pick : List PySem.Str := ["_law_source_here", "_law_options"]
theorem sc_law_pick : FnScope N_law_pick P_law_pick (defScope s_law_pick) := ⟨rfl, rfl, rfl, by decide +kernel, rfl, by decide +kernel, by decide +kernel⟩
abbrev N_law_name : List PySem.Str := ["_law_number", "_law_found"]
abbrev P_law_name : List PySem.Str := ["_law_number"]
theorem sc_law_name : FnScope N_law_name P_law_name (defScope s_law_name) := ⟨rfl, rfl, rfl, by decide +kernel, rfl, by decide +kernel, by decide +kernel⟩
abbrev N_law_names : List PySem.Str := ["_law_source_here", "_law_count", "_law_first", "_law_stride", "_law_at"]
abbrev P_law_names : List PySem.Str := ["_law_source_here", "_law_count"]
theorem sc_law_names : FnScope N_law_names P_law_names (defScope s_law_names) := ⟨rfl, rfl, rfl, by decide +kernel, rfl, by decide +kernel, by decide +kernel⟩
abbrev N_law_row : List PySem.Str := ["_law_source_here", "_law_extra", "_law_cap", "_law_sizes", "_law_left", "_law_k", "_law_size"]
abbrev P_law_row : List PySem.Str := ["_law_source_here", "_law_extra"]
theorem sc_law_row : FnScope N_law_row P_law_row (defScope s_law_row) := ⟨rfl, rfl, rfl, by decide +kernel, rfl, by decide +kernel, by decide +kernel⟩
abbrev N_law_member_count : List PySem.Str := ["_law_source_here", "_law_sizes", "_law_least"]
abbrev P_law_member_count : List PySem.Str := ["_law_source_here", "_law_sizes"]
theorem sc_law_member_count : FnScope N_law_member_count P_law_member_count (defScope s_law_member_count) := ⟨rfl, rfl, rfl, by decide +kernel, rfl, by decide +kernel, by decide +kernel⟩
abbrev N_law_step : List PySem.Str := ["_law_sizes", "_law_indices", "_law_state", "_law_queue", "_law_contents", "_law_at", "_law_size", "_law_row_here"]
abbrev P_law_step : List PySem.Str := ["_law_sizes", "_law_indices", "_law_state"]
theorem sc_law_step : FnScope N_law_step P_law_step (defScope s_law_step) := ⟨rfl, rfl, rfl, by decide +kernel, rfl, by decide +kernel, by decide +kernel⟩
abbrev N_law_queues : List PySem.Str := ["_law_sizes", "_law_indices", "_law_queue", "_law_count", "_law_state", "_law_found", "_law_emptied", "_law_step_here", "_law_full", "_law_size"]
abbrev P_law_queues : List PySem.Str := ["_law_sizes", "_law_indices", "_law_queue", "_law_count"]
theorem sc_law_queues : FnScope N_law_queues P_law_queues (defScope s_law_queues) := ⟨rfl, rfl, rfl, by decide +kernel, rfl, by decide +kernel, by decide +kernel⟩
abbrev N_law_simple_row : List PySem.Str := ["_law_source_here", "_law_sizes", "_law_indices", "_law_size"]
abbrev P_law_simple_row : List PySem.Str := ["_law_source_here"]
theorem sc_law_simple_row : FnScope N_law_simple_row P_law_simple_row (defScope s_law_simple_row) := ⟨rfl, rfl, rfl, by decide +kernel, rfl, by decide +kernel, by decide +kernel⟩
abbrev N_law_expected : List PySem.Str := ["_law_sizes", "_law_indices", "_law_emptied", "_law_count", "_law_times"]
abbrev P_law_expected : List PySem.Str := ["_law_sizes", "_law_indices", "_law_emptied"]
theorem sc_law_expected : FnScope N_law_expected P_law_expected (defScope s_law_expected) := ⟨rfl, rfl, rfl, by decide +kernel, rfl, by decide +kernel, by decide +kernel⟩
abbrev N_law_with_unit_cups : List PySem.Str := ["_law_sizes", "_law_indices"]
abbrev P_law_with_unit_cups : List PySem.Str := ["_law_sizes", "_law_indices"]
theorem sc_law_with_unit_cups : FnScope N_law_with_unit_cups P_law_with_unit_cups (defScope s_law_with_unit_cups) := ⟨rfl, rfl, rfl, by decide +kernel, rfl, by decide +kernel, by decide +kernel⟩
abbrev N_law_lists_are_new : List PySem.Str := ["_law_result", "_law_kept"]
abbrev P_law_lists_are_new : List PySem.Str := ["_law_result"]
theorem sc_law_lists_are_new : FnScope N_law_lists_are_new P_law_lists_are_new (defScope s_law_lists_are_new) := ⟨rfl, rfl, rfl, by decide +kernel, rfl, by decide +kernel, by decide +kernel⟩
abbrev N_law : List PySem.Str := ["_law_script", "_law_k", "_law_source_here", "_law_sizes", "_law_indices", "_law_queue", "_law_count", "_law_queues_here", "_law_emptied", "_law_argument", "_law_result", "_law_more", "_law_its_indices", "_law_fewer_steps", "_law_prefix_result", "_law_expected_here", "_law_row_here"]
abbrev P_law : List PySem.Str := ["_law_script"]
theorem sc_law : FnScope N_law P_law (defScope s_law) := ⟨rfl, rfl, rfl, by decide +kernel, rfl, by decide +kernel, by decide +kernel⟩
structure Cs where
  CupLadderError : Nat
  InvalidState : Nat
  CupFinder : Nat
  CupRow : Nat
  Blocks : Nat
  Simulation : Nat
structure Tt (K : PySem.W.Frag) (mg : PySem.Str → Option Value) (cs : Cs) : Prop where
  b_all : mg "all" = none
  b_bool : mg "bool" = none
  b_enumerate : mg "enumerate" = none
  b_int : mg "int" = none
  b_isinstance : mg "isinstance" = none
  b_len : mg "len" = none
  b_list : mg "list" = none
  b_max : mg "max" = none
  b_min : mg "min" = none
  b_range : mg "range" = none
  b_set : mg "set" = none
  b_str : mg "str" = none
  b_sum : mg "sum" = none
  c_LETTERS : ∃ t, mg "LETTERS" = some (.str "abcdefghijklmnopqrstuvwxyz" t)
  c_MAX_CUPS : ∃ t, mg "MAX_CUPS" = some (.int 30 t)
  c_MAX_EXTRA : ∃ t, mg "MAX_EXTRA" = some (.int 30 t)
  c_MAX_LETTERS : ∃ t, mg "MAX_LETTERS" = some (.int 8 t)
  c_MAX_MEMBERS : ∃ t, mg "MAX_MEMBERS" = some (.int 40 t)
  c_MAX_QUEUES : ∃ t, mg "MAX_QUEUES" = some (.int 400 t)
  c_MAX_SIZE : ∃ t, mg "MAX_SIZE" = some (.int 9 t)
  k_CupFinder : Cls K cs.CupFinder
  n_CupFinder_complete : NoAttr K cs.CupFinder "complete"
  n_CupFinder_contents : NoAttr K cs.CupFinder "contents"
  n_CupFinder_known_indices : NoAttr K cs.CupFinder "known_indices"
  n_CupFinder_known_sizes : NoAttr K cs.CupFinder "known_sizes"
  n_CupFinder_queue : NoAttr K cs.CupFinder "queue"
def scrD (ns : List Int) : R.D := .rol (ns.map .int)
structure Row (sz fw : List Nat) : Prop where
  l0 : 0 < sz.length
  l1 : sz.length ≤ 30
  s1 : ∀ s ∈ sz, 1 ≤ s ∧ s ≤ 9
  sm : sz.sum ≤ sz.length + 30
  fl : fw.length + 1 = sz.length
  fi : ∀ i, i < fw.length → pk fw i < pk sz i
theorem Row.cups {sz fw : List Nat} (h : Row sz fw) {c : Nat} (hc : c ≤ fw.length) : Cups sz fw c :=
  ⟨by have := h.fl; omega, fun i hi => (h.s1 _ (pk_mem (by have := h.fl; omega))).1, fun i hi => h.fi i (by omega)⟩
def wts (sz : List Nat) : List Nat := (List.range (sz.length + 1)).map fun c => prodL (sz.take c)
def cupN : List PySem.Str := ["size_tuple", "forward_tuple", "weights"]
def cupD (cs : Cs) (sz fw : List Nat) : R.D := .ins cs.CupRow cupN [nT sz, nT fw, nL (wts sz)]
abbrev fz (d : R.D) : Option Rs := some (.fz d)
def F_law_cell_at (_ : Cs) : Spec1 := fun ss Q => ∃ ns k, ss = [fz (scrD ns), fz (nI k)] ∧ ∀ x : Int, Q (.fz (.int x))
def F_law_mixed (_ : Cs) : Spec1 := fun ss Q => ∃ a b : Int, ss = [fz (.int a), fz (.int b)] ∧ ∀ x : Int, Q (.fz (.int x))
def F_law_source (_ : Cs) : Spec1 := fun ss Q => ∃ ns k, ss = [fz (scrD ns), fz (nI k)] ∧ Q (.fz (.vol 0 []))
def F_law_draw (_ : Cs) : Spec1 := fun ss Q => ∃ ps b, ss = [fz (.vol 0 ps), fz (.int b)] ∧ 0 < b ∧ b < 2 ^ 200 ∧ ∀ x : Int, 0 ≤ x → x < b → Q (.fz (.int x))
def F_law_pick (_ : Cs) : Spec1 := fun ss Q => ∃ ps ds, ss = [fz (.vol 0 ps), fz (.lst ds)] ∧ ds ≠ [] ∧ ds.length < 5000 ∧ ∀ d ∈ ds, Q (.fz d)
def blkN : List PySem.Str := ["cups", "orders", "visits"]
def blkD (cs : Cs) (sz fw : List Nat) : R.D := .ins cs.Blocks blkN [cupD cs sz fw, .vol 1 [nT sz, nT fw], .vol 2 [nT sz, nT fw]]
theorem Row.leastN {sz fw : List Nat} (h : Row sz fw) : ((sz.sum : Nat) : Int) - (sz.length : Nat) + 1 = (least sz (fw.length + 1) : Nat) ∧ 1 ≤ least sz (fw.length + 1) ∧ least sz (fw.length + 1) ≤ 31 := by
  have e := sum_pred (l := sz) fun s hs => (h.s1 s hs).1
  have e2 : least sz (fw.length + 1) = (sz.map (· - 1)).sum + 1 := by
    unfold least
    rw [List.take_of_length_le (by have := h.fl; omega)]
  have := h.sm
  omega
theorem b1 {Z : List Rs → (Rs → Prop) → Prop} {a : DE} {env : R.Env} {Q : Rs → Prop} (h : a env fun x => Z [x.ffz] Q) : mB Z (mCons a mNil) env Q := h
structure Rw (sz fw : List Nat) : Prop where
  l1 : sz.length ≤ 30
  fl : fw.length + 1 = sz.length
  fi : ∀ i, i < fw.length → pk fw i < pk sz i
theorem drop_pk {l : List Nat} {j : Nat} (h : j < l.length) : l.drop j = pk l j :: l.drop (j + 1) := by rw [pk_lt h]; exact List.drop_eq_getElem_cons h
theorem drop_pk1 {l : List Nat} {j : Nat} : pk (l.drop j) 0 = pk l j := by
  unfold pk
  rw [List.getD_eq_getElem?_getD, List.getD_eq_getElem?_getD, List.getElem?_drop, Nat.add_zero]
theorem rw_drop {l : List Nat} {j : Nat} : (l.drop j).drop 1 = l.drop (j + 1) := by rw [List.drop_drop]
theorem mAnd_of {t u : DT} {env : R.Env} {P : Bool → Prop} (c d : Bool) (ht : ∀ P : Bool → Prop, P c → t env P) (hu : c = true → ∀ P : Bool → Prop, P d → u env P) (h : P (c && d)) : mAnd t u env P := ht _ (by
  cases c with
  | true => rw [if_pos rfl]; exact hu rfl _ h
  | false => rw [if_neg Bool.false_ne_true]; exact h)
theorem w_add_bn {a b : List R.D} {Q : Rs → Prop} (hl : a.length + b.length ≤ sizeL) (h : Q (.nw (.lst ((a ++ b).map .leaf)))) : oAdd (Rs.br (.lst (a.map .leaf))) (Rs.nw (.lst (b.map .leaf))).ffz Q := by
  rw [ffz_lst]
  exact .inl ⟨a, b, leaves_map a, rfl, hl, h⟩
theorem all_lc {it : DI} {gg : DG} {e : DE} {ws : List Nat} {env : R.Env} {Q : Rs → Prop} (xs : List Rs) (hit : ∀ Q' : Bool → List Rs → Prop, Q' true xs → it env Q') (hs : xs.length ≤ sizeL)
    (step : ∀ (k : Nat) (r : Rs), xs[k]? = some r → ∀ P : Rs → Prop, P (.fz (.bl true)) → gg (R.Env.wipe (R.Env.lent env) ws) r.arg fun e1 => e1.length = env.length ∧ e e1 P) (h : Q (.fz (.bl true))) : mB oAll (mCons (mLc it gg mYes e ws) mNil) env Q := by
  show mLc it gg mYes e ws env fun x => oAll [x.ffz] Q
  refine lc_any xs true (fun _ => .leaf (.bl true)) hit hs (fun k r hr => step k r hr _ ⟨_, rfl, item_snoc⟩) ?_
  have e : (List.range xs.length).map (fun _ => OT.leaf (.bl true)) = ((List.replicate xs.length true).map R.D.bl).map OT.leaf := by
    rw [List.map_const', List.length_range, List.map_replicate, List.map_replicate]
  rw [e]
  show oAll [(Rs.nw (.lst (((List.replicate xs.length true).map R.D.bl).map OT.leaf))).ffz] Q
  rw [ffz_lst]
  refine ⟨_, _, rfl, bls_of _, ?_⟩
  rw [all_true]
  exact h
theorem mAndV_tt {a b : DE} {env : R.Env} {Q : Rs → Prop} (h1 : ∀ P : Rs → Prop, P (.fz (.bl true)) → a env P) (h2 : b env Q) : mAndV a b env Q := h1 _ (by show (if true = true then _ else _); rw [if_pos rfl]; exact h2)
theorem mNot_tt {t : DT} {env : R.Env} {P : Bool → Prop} (h : ∀ P : Bool → Prop, P true → t env P) (q : P false) : mNot t env P := h _ q
theorem mCh_tt {f gg : Int → Int → Bool} {a b c : DE} {env : R.Env} {Q : Rs → Prop} {i j k : Int} (ha : ∀ P : Rs → Prop, P (.fz (.int i)) → a env P) (hb : ∀ P : Rs → Prop, P (.fz (.int j)) → b env P) (hc : ∀ P : Rs → Prop, P (.fz (.int k)) → c env P) (h1 : f i j = true) (h2 : gg j k = true)
    (q : Q (.fz (.bl true))) : mCh f gg a b c env Q := ha _ (hb _ ⟨i, j, rfl, rfl, by rw [if_pos h1]; exact hc _ ⟨k, rfl, by rw [h2]; exact q⟩⟩)
theorem mT_tt {a : DE} {env : R.Env} {P : Bool → Prop} {b : Bool} (h : ∀ Q : Rs → Prop, Q (.fz (.bl b)) → a env Q) (q : P b) : mT a env P := h _ q
theorem w_add_ff {a b : List R.D} {Q : Rs → Prop} (hl : a.length + b.length ≤ sizeL) (h : Q (.nw (.lst ((a ++ b).map .leaf)))) : oAdd (.fz (.lst a)) (.fz (.lst b)) Q := .inl ⟨_, _, rfl, rfl, hl, h⟩
theorem w_sl {ds : List R.D} {lo hi : Option Int} {Q : Rs → Prop} (h : Q (.nw (.lst ((cut' ds lo hi).map .leaf)))) : oSl (.fz (.lst ds)) lo hi Q := ⟨ds, rfl, h⟩
theorem cutA {α : Type} (xs : List α) (c : Nat) : cut' xs none (some (c : Int)) = xs.take c := by
  by_cases h : c ≤ xs.length
  · exact cut_take h
  · simp only [cut', sIx', List.drop_zero, Nat.sub_zero]
    rw [if_neg (by omega), Int.toNat_natCast, Nat.min_eq_right (by omega), List.take_length, List.take_of_length_le (by omega)]
theorem cutB {α : Type} (xs : List α) (c : Nat) : cut' xs (some (c : Int)) none = xs.drop c := by
  by_cases h : c ≤ xs.length
  · exact cut_from h
  · simp only [cut', sIx']
    rw [if_neg (by omega), Int.toNat_natCast, Nat.min_eq_right (by omega), List.drop_length, List.take_nil, List.drop_eq_nil_of_le (by omega)]

theorem Row.rnd {sz fw : List Nat} (h : Row sz fw) {n : Nat} (hl : least sz (fw.length + 1) ≤ n) : (R.rnd sz fw n).Perm (List.range n) := rnd_perm (h.cups (Nat.le_refl _)) (by have := h.fl; omega) (h.s1 _ (pk_mem (by have := h.fl; omega))).1 hl
def F_law_member_count (_ : Cs) : Spec1 := fun ss Q => ∃ sz fw ps, Row sz fw ∧ ss = [fz (.vol 0 ps), fz (nL sz)] ∧ ∀ n : Nat, least sz (fw.length + 1) ≤ n → n ≤ 40 → Q (.fz (nI n))

def F_law_row (_ : Cs) : Spec1 := fun ss Q => ∃ ps lim, lim ≤ 30 ∧ ss = [fz (.vol 0 ps), fz (nI lim)] ∧ ∀ sz fw, Row sz fw → sz.sum ≤ sz.length + lim → Q (.nw (.tup [.leaf (nL sz), .lst (fw.map fun n => .leaf (nI n))]))
def F_law (_ : Cs) : Spec1 := fun ss Q => ∃ ns : List Int, ss = [fz (scrD ns)] ∧ ns.length ≤ 63 ∧ Q (.fz (.bl true))
def nS (g : Nat → PySem.Str) (n : Nat) : R.D := .str (g n)
def sL (g : Nat → PySem.Str) (l : List Nat) : R.D := .lst (l.map (nS g))
def sC (g : Nat → PySem.Str) (cs : List (List Nat)) : R.D := .lst (cs.map (sL g))
def ownS (g : Nat → PySem.Str) (cs : List (List Nat)) : List OT := cs.map fun c => .lst (c.map fun n => .leaf (nS g n))
abbrev stD (g : Nat → PySem.Str) (q : List Nat) (cs : List (List Nat)) : R.D := .tup [sL g q, sC g cs]
abbrev stT (g : Nat → PySem.Str) (q : List Nat) (cs : List (List Nat)) : OT := .tup [.lst (q.map fun n => .leaf (nS g n)), .lst (ownS g cs)]
def abc : PySem.Str := "abcdefghijklmnopqrstuvwxyz"
theorem abc_eq : abc.cps.toList = List.range' 97 26 := by decide +kernel
structure NameOk (z : PySem.Str) : Prop where
  l1 : 1 ≤ z.cps.toList.length
  l8 : z.cps.toList.length ≤ 8
  lt : ∀ c ∈ z.cps.toList, 97 ≤ c ∧ c ≤ 122
theorem len_cps (z : PySem.Str) : z.length = z.cps.toList.length := by
  show z.cps.size = _
  rw [Array.length_toList]
structure Nms (g : Nat → PySem.Str) (l : List Nat) : Prop where
  nd : (l.map g).Nodup
  ok : ∀ n ∈ l, NameOk (g n)
theorem Nms.perm {g : Nat → PySem.Str} {l m : List Nat} (h : Nms g l) (p : m.Perm l) : Nms g m := ⟨(p.map g).nodup_iff.mpr h.nd, fun n m => h.ok n (p.mem_iff.mp m)⟩
structure StOk (sz fw : List Nat) (g : Nat → PySem.Str) (q : List Nat) (cs : List (List Nat)) : Prop where
  val : Val sz cs
  nms : Nms g (memb q cs)
  lo : least sz (fw.length + 1) ≤ q.length + totM cs
  hi : q.length + totM cs ≤ 40
theorem ownS_fz (g : Nat → PySem.Str) (cs : List (List Nat)) : Fz (.lst (ownS g cs)) (sC g cs) := by
  unfold ownS sC
  refine .lst ?_
  induction cs with
  | nil => exact .nil
  | cons c cs ih => exact .cons (by
      have e : (c.map fun n => OT.leaf (nS g n)) = (c.map (nS g)).map .leaf := by rw [List.map_map] <;> rfl
      show Fz (.lst (c.map fun n => .leaf (nS g n))) _
      rw [e]
      exact fz_lst _) ih
theorem leafs_nS (g : Nat → PySem.Str) (c : List Nat) : (c.map fun n => OT.leaf (nS g n)) = (c.map (nS g)).map .leaf := by rw [List.map_map] <;> rfl
theorem snoc_nS (g : Nat → PySem.Str) (c : List Nat) (x : Nat) : (c.map fun n => OT.leaf (nS g n)) ++ [OT.leaf (nS g x)] = (c ++ [x]).map fun n => .leaf (nS g n) := by rw [List.map_append] <;> rfl
theorem leaves_nS (g : Nat → PySem.Str) (l : List Nat) : leaves (l.map fun n => OT.leaf (nS g n)) = some (l.map (nS g)) := by
  have := leaves_map (l.map (nS g))
  rw [List.map_map] at this
  exact this
theorem leaf_nS {g : Nat → PySem.Str} {l : List Nat} {j : Nat} (h : j < l.length) : (l.map fun n => OT.leaf (nS g n))[j]? = some (.leaf (nS g (pk l j))) := by
  rw [List.getElem?_map, List.getElem?_eq_getElem h, pk_lt h] <;> rfl
theorem ownS_len (g : Nat → PySem.Str) (cs : List (List Nat)) : (ownS g cs).length = cs.length := by unfold ownS; rw [List.length_map]
theorem ownS_at {g : Nat → PySem.Str} {p : List (List Nat)} {c : List Nat} {r : List (List Nat)} : (ownS g (p ++ c :: r))[p.length]? = some (.lst (c.map fun n => .leaf (nS g n))) := by
  unfold ownS
  rw [List.map_append, List.getElem?_append_right (by rw [List.length_map]; omega), List.length_map, Nat.sub_self] <;> rfl
theorem ownS_set {g : Nat → PySem.Str} {p : List (List Nat)} {c d : List Nat} {r : List (List Nat)} : (ownS g (p ++ c :: r)).set p.length (.lst (d.map fun n => .leaf (nS g n))) = ownS g (p ++ d :: r) := by
  unfold ownS
  rw [List.map_append, List.map_append, List.set_append_right _ _ (by rw [List.length_map]; omega), List.length_map, Nat.sub_self] <;> rfl
theorem get_nS {g : Nat → PySem.Str} {l : List Nat} {k : Nat} {r : Rs} (h : ((l.map (nS g)).map Rs.fz)[k]? = some r) : k < l.length ∧ r = .fz (nS g (pk l k)) := by
  obtain ⟨d, e, rfl⟩ := get_fz h
  rw [List.getElem?_map] at e
  cases q : l[k]? with
  | none => rw [q] at e; cases e
  | some x =>
    rw [q] at e
    cases e
    obtain ⟨hl, e⟩ := List.getElem?_eq_some_iff.mp q
    exact ⟨hl, by rw [pk_lt hl, e]⟩
def pc (cs : List (List Nat)) (k : Nat) : List Nat := cs.getD k []
theorem get_sL {g : Nat → PySem.Str} {cs : List (List Nat)} {k : Nat} {r : Rs} (h : ((cs.map (sL g)).map Rs.fz)[k]? = some r) : k < cs.length ∧ r = .fz (sL g (pc cs k)) := by
  obtain ⟨d, e, rfl⟩ := get_fz h
  rw [List.getElem?_map] at e
  cases q : cs[k]? with
  | none => rw [q] at e; cases e
  | some x =>
    rw [q] at e
    cases e
    obtain ⟨hl, e⟩ := List.getElem?_eq_some_iff.mp q
    refine ⟨hl, ?_⟩
    unfold pc
    rw [List.getD_eq_getElem?_getD, q] <;> rfl
theorem pc_lt {cs : List (List Nat)} {k : Nat} (h : k < cs.length) : pc cs k = cs[k] := by
  unfold pc
  rw [List.getD_eq_getElem?_getD, List.getElem?_eq_getElem h] <;> rfl
theorem own_range (g : Nat → PySem.Str) (cs : List (List Nat)) : (List.range ((cs.map (sL g)).map Rs.fz).length).map (fun k => OT.lst ((pc cs k).map fun n => .leaf (nS g n))) = ownS g cs := by
  rw [List.length_map, List.length_map]
  unfold ownS
  apply List.ext_getElem
  · rw [List.length_map, List.length_range, List.length_map]
  · intro k h1 h2
    rw [List.length_map] at h2
    rw [List.getElem_map, List.getElem_range, List.getElem_map, pc_lt h2]
theorem strs_nS (g : Nat → PySem.Str) (l : List Nat) : allOf D.str? (l.map (nS g)) = some (l.map g) := by
  have h := strs_of (l.map g)
  rw [List.map_map] at h
  exact h
theorem ownS_snoc (g : Nat → PySem.Str) (cs : List (List Nat)) (c : List Nat) : ownS g cs ++ [.lst (c.map fun n => .leaf (nS g n))] = ownS g (cs ++ [c]) := by
  unfold ownS
  rw [List.map_append] <;> rfl
theorem pd_nS {g : Nat → PySem.Str} (n : Nat) {l : List Nat} (h : ∀ x ∈ l, NameOk (g x)) : allOf (D.pd n) (l.map (nS g)) = some (l.map fun x => PyData.str (g x)) := by
  induction l with
  | nil => rfl
  | cons x l ih =>
    rw [List.map_cons, allOf, ih fun y m => h y (List.mem_cons_of_mem _ m)]
    have ok : PyData.strOk (g x) = true := by
      show (g x).cps.all (· < 0x110000) = true
      rw [← Array.all_toList]
      refine List.all_eq_true.mpr fun c m => decide_eq_true ?_
      have := ((h x List.mem_cons_self).lt c m).2
      omega
    have e : (nS g x).pd n = some (.str (g x)) := by
      cases n with
      | zero => show (if PyData.strOk (g x) = true then _ else _) = _; rw [if_pos ok]
      | succ n => show (if PyData.strOk (g x) = true then _ else _) = _; rw [if_pos ok]
    rw [e] <;> rfl
theorem pdT_nS {g : Nat → PySem.Str} (n : Nat) {l : List Nat} (h : ∀ x ∈ l, NameOk (g x)) : allOfT (OT.pd n) (l.map fun x => OT.leaf (nS g x)) = some (l.map fun x => PyData.str (g x)) := by
  induction l with
  | nil => rfl
  | cons x l ih =>
    have e := pd_nS n (g := g) (l := [x]) fun y m => h y (by rw [List.mem_singleton.mp m]; exact List.mem_cons_self)
    rw [List.map_cons, allOfT, ih fun y m => h y (List.mem_cons_of_mem _ m)]
    have e2 : (OT.leaf (nS g x)).pd n = some (.str (g x)) := by
      have e3 : (nS g x).pd n = some (.str (g x)) := by
        rw [List.map_cons, List.map_nil, allOf, allOf] at e
        cases q : (nS g x).pd n with
        | none => rw [q] at e; cases e
        | some p => rw [q] at e; cases e; rfl
      cases n with
      | zero => exact e3
      | succ n => exact e3
    rw [e2] <;> rfl
def F_is_name (_ : Cs) : Spec1 := fun ss Q => ∃ z, NameOk z ∧ ss = [fz (.str z)] ∧ Q (.fz (.bl true))
def IsS (g : Nat → PySem.Str) (l : List Nat) (r : Rs) : Prop := r = .fz (sL g l) ∨ r = .ex (.lst (l.map fun n => .leaf (nS g n)))
def IsC (g : Nat → PySem.Str) (cs : List (List Nat)) (r : Rs) : Prop := r = .fz (sC g cs) ∨ r = .ex (.lst (ownS g cs))
def IsSt (g : Nat → PySem.Str) (q : List Nat) (cs : List (List Nat)) (r : Rs) : Prop := r = .fz (stD g q cs) ∨ r = .ex (stT g q cs)
theorem IsS.fz (g : Nat → PySem.Str) (l : List Nat) : IsS g l (.fz (sL g l)) := .inl rfl
theorem IsC.fz (g : Nat → PySem.Str) (cs : List (List Nat)) : IsC g cs (.fz (sC g cs)) := .inl rfl
theorem IsSt.fz (g : Nat → PySem.Str) (q : List Nat) (cs : List (List Nat)) : IsSt g q cs (.fz (stD g q cs)) := .inl rfl
theorem kid_leafs_ex (t : OT) (ds : List R.D) : (ds.map OT.leaf).map (Rs.kid (.ex t)) = ds.map .fz := by rw [List.map_map] <;> rfl
theorem it_S {env : R.Env} {i : Nat} {g : Nat → PySem.Str} {l : List Nat} {r : Rs} {Q : Bool → List Rs → Prop} (e : env[i]? = some (some r)) (h : IsS g l r) (q : Q true ((l.map (nS g)).map .fz)) : mItL (mVar i) env Q := by
  rcases h with rfl | rfl
  · exact it_var_lst e q
  · refine ⟨_, e, _, rfl, ?_⟩
    show Q true ((l.map fun n => OT.leaf (nS g n)).map (Rs.kid (.ex _)))
    rw [leafs_nS, kid_leafs_ex]
    exact q
theorem IsS.rd {g : Nat → PySem.Str} {l : List Nat} {r : Rs} (h : IsS g l r) : r.rd = r ∧ r.ffz = r ∧ r.arg = r ∧ r.slot ∧ r.els true = some (l.map (nS g)) := by
  rcases h with rfl | rfl
  · exact ⟨rfl, rfl, rfl, trivial, rfl⟩
  · exact ⟨rfl, rfl, rfl, trivial, leaves_nS g l⟩
theorem IsC.rd {g : Nat → PySem.Str} {l : List (List Nat)} {r : Rs} (h : IsC g l r) : r.rd = r ∧ r.ffz = r := by
  rcases h with rfl | rfl
  · exact ⟨rfl, rfl⟩
  · exact ⟨rfl, rfl⟩
theorem IsSt.lend {g : Nat → PySem.Str} {q : List Nat} {cs : List (List Nat)} {r : Rs} (h : IsSt g q cs r) : r.rd.lend = r := by
  rcases h with rfl | rfl
  · rfl
  · rfl
theorem IsS.len {g : Nat → PySem.Str} {l : List Nat} {r : Rs} {Q : Rs → Prop} (h : IsS g l r) (q : Q (.fz (.int (l.length : Nat)))) : oLen [r] Q := by
  rcases h with rfl | rfl
  · exact ⟨_, rfl, by rw [List.length_map, List.length_map]; exact q⟩
  · exact ⟨_, rfl, by rw [List.length_map]; exact q⟩
theorem IsC.len {g : Nat → PySem.Str} {l : List (List Nat)} {r : Rs} {Q : Rs → Prop} (h : IsC g l r) (q : Q (.fz (.int (l.length : Nat)))) : oLen [r.rd.ffz] Q := by
  rcases h with rfl | rfl
  · exact ⟨_, rfl, by rw [List.length_map, List.length_map]; exact q⟩
  · exact ⟨_, rfl, by rw [ownS_len]; exact q⟩
theorem IsSt.len {g : Nat → PySem.Str} {q : List Nat} {cs : List (List Nat)} {r : Rs} {Q : Rs → Prop} (h : IsSt g q cs r) (k : Q (.fz (.int ((2 : Nat) : Int)))) : oLen [r.rd.ffz] Q := by
  rcases h with rfl | rfl
  · exact ⟨_, rfl, k⟩
  · exact ⟨_, rfl, k⟩
theorem IsSt.parts {g : Nat → PySem.Str} {q : List Nat} {cs : List (List Nat)} {r : Rs} (h : IsSt g q cs r) : ∃ rq rc, IsS g q rq ∧ IsC g cs rc ∧ (∀ Q : Rs → Prop, Q rq → oIx r.rd.ffz (Rs.fz (.int 0)).ffz Q) ∧ (∀ Q : Rs → Prop, Q rc → oIx r.rd.ffz (Rs.fz (.int 1)).ffz Q) ∧
    ∀ {env : R.Env} {i j : Nat} (Q : R.Env → Prop), Q ((env.set i (some rq)).set j (some rc)) → gT [gN i, gN j] env r.rd Q := by
  rcases h with rfl | rfl
  · exact ⟨_, _, .inl rfl, .inl rfl, fun Q q => ⟨_, rfl, q⟩, fun Q q => ⟨_, rfl, q⟩, fun Q q => ⟨_, rfl, rfl, trivial, trivial, q⟩⟩
  · exact ⟨_, _, .inr rfl, .inr rfl, fun Q q => ⟨_, _, rfl, rfl, q⟩, fun Q q => ⟨_, _, rfl, rfl, q⟩, fun Q q => ⟨_, rfl, rfl, trivial, trivial, q⟩⟩
def F_is_name_list (_ : Cs) : Spec1 := fun ss Q => ∃ g l r, IsS g l r ∧ (∀ n ∈ l, NameOk (g n)) ∧ l.length ≤ 100 ∧ ss = [some r] ∧ Q (.fz (.bl true))
theorem Row.ne {sz fw : List Nat} (h : Row sz fw) : sz ≠ [] := fun z => by have := h.l0; rw [z] at this; simp at this
theorem StOk.cons {sz fw : List Nat} {g : Nat → PySem.Str} {q : List Nat} {cs : List (List Nat)} (hR : Row sz fw) (h : StOk sz fw g q cs) : ∃ x q', q = x :: q' := by
  have a := val_tot h.val
  have b := hR.leastN
  have c := h.lo
  cases q with
  | nil => rw [List.length_nil] at c; omega
  | cons x q => exact ⟨x, q, rfl⟩
theorem StOk.step {sz fw : List Nat} {g : Nat → PySem.Str} {x : Nat} {q : List Nat} {cs : List (List Nat)} (hR : Row sz fw) (h : StOk sz fw g (x :: q) cs) : StOk sz fw g (csc sz fw cs x q).2 (csc sz fw cs x q).1 := by
  have a := csc_tot (m := x) (q := q) hR.ne hR.fl hR.fi h.val
  have b := csc_perm (m := x) (q := q) hR.ne hR.fl hR.fi h.val
  have c := h.lo
  have d := h.hi
  rw [List.length_cons] at c d
  exact ⟨(csc_ctr (m := x) (q := q) hR.ne h.val).1, h.nms.perm b, by omega, by omega⟩
theorem StOk.next {sz fw : List Nat} {g : Nat → PySem.Str} {x : Nat} {q : List Nat} {cs : List (List Nat)} (hR : Row sz fw) (h : StOk sz fw g (x :: q) cs) : ctr sz (csc sz fw cs x q).1 = (ctr sz cs + 1) % prodL sz := by
  have a := (csc_ctr (fw := fw) (m := x) (q := q) hR.ne h.val).2
  have b := ctr_lt h.val
  rw [prR_eq, a]
  split
  · rename_i z
    rw [Nat.mod_eq_of_lt z]
  · rw [show ctr sz cs + 1 = prR sz by omega, Nat.mod_self]
theorem Fz.st (g : Nat → PySem.Str) (q : List Nat) (cs : List (List Nat)) : Fz (stT g q cs) (stD g q cs) := by
  unfold stT
  rw [leafs_nS]
  exact .tup (.cons (fz_lst _) (.cons (ownS_fz g cs) .nil))
theorem lc_filter {it : DI} {gg : DG} {t : DT} {e : DE} {ws : List Nat} {env : R.Env} {Q : Rs → Prop} (ds : List R.D) (p : R.D → Bool) (hit : ∀ Q' : Bool → List Rs → Prop, Q' true (ds.map .fz) → it env Q') (hs : ds.length ≤ sizeL)
    (step : ∀ (k : Nat) (d : R.D), ds[k]? = some d → ∃ e1 : R.Env, (∀ P : R.Env → Prop, P e1 → gg (R.Env.wipe (R.Env.lent env) ws) (Rs.fz d).arg P) ∧ e1.length = env.length ∧ (∀ P : Bool → Prop, P (p d) → t e1 P) ∧ (∀ P : Rs → Prop, P (.fz d) → e e1 P))
    (q : Q (.nw (.lst ((ds.filter p).map .leaf)))) : mLc it gg t e ws env Q := by
  refine hit _ ⟨fun i acc => acc = ((ds.take i).filter p).map .leaf, rfl, ?_, ?_⟩
  · rintro i r acc hr rfl
    obtain ⟨d, hd, rfl⟩ := get_fz hr
    obtain ⟨e1, a, b, c, f⟩ := step i d hd
    have hlt := (List.getElem?_eq_some_iff.mp hd).1
    refine ⟨?_, a _ ⟨b, c _ ?_⟩⟩
    · have := List.length_filter_le p (ds.take i)
      rw [List.length_map]
      rw [List.length_take] at this
      omega
    · have e2 : (ds.take (i + 1)).filter p = (ds.take i).filter p ++ if p d = true then [d] else [] := by
        rw [List.take_add_one, hd, List.filter_append]
        show _ ++ List.filter p [d] = _
        rw [List.filter_cons, List.filter_nil]
      dsimp only
      rw [e2]
      cases hp : p d with
      | true =>
        rw [if_pos rfl]
        exact f _ ⟨_, rfl, by rw [if_pos rfl, List.map_append] <;> rfl⟩
      | false =>
        rw [if_neg Bool.false_ne_true, if_neg Bool.false_ne_true, List.append_nil]
  · rintro acc rfl
    rw [List.length_map, List.take_length]
    exact q
theorem it_st {env : R.Env} {k : Nat} {g : Nat → PySem.Str} {q : List Nat} {cts : List (List Nat)} {Q : Bool → List Rs → Prop} (e : env[k]? = some (some (.fz (stD g q cts)))) (h : Q true ((cts.map (sL g)).map .fz)) : mItL (mOp oIx (mVar k) (mC (.int 1))) env Q := ⟨_, e, sC g cts, rfl, _, rfl, by
  show Q true (((cts.map (sL g)).map OT.leaf).map (Rs.kid (.fz (.lst (cts.map (sL g))))))
  rw [kid_leafs]
  exact h⟩
abbrev rowsP (g : Nat → PySem.Str) (cs : List (List Nat)) : List PyData := cs.map fun c => PyData.list (c.map fun x => PyData.str (g x))
theorem pd_row {g : Nat → PySem.Str} (n : Nat) {c : List Nat} (h : ∀ x ∈ c, NameOk (g x)) : (sL g c).pd (n + 1) = some (.list (c.map fun x => PyData.str (g x))) := by
  show (allOf (D.pd n) (c.map (nS g))).map PyData.list = _
  rw [pd_nS n h] <;> rfl
theorem pdT_row {g : Nat → PySem.Str} (n : Nat) {c : List Nat} (h : ∀ x ∈ c, NameOk (g x)) : (OT.lst (c.map fun x => .leaf (nS g x))).pd (n + 1) = some (.list (c.map fun x => PyData.str (g x))) := by
  show (allOfT (OT.pd n) (c.map fun x => OT.leaf (nS g x))).map PyData.list = _
  rw [pdT_nS n h] <;> rfl
theorem pd_rows {g : Nat → PySem.Str} (n : Nat) {cs : List (List Nat)} (h : ∀ c ∈ cs, ∀ x ∈ c, NameOk (g x)) : allOf (D.pd (n + 1)) (cs.map (sL g)) = some (rowsP g cs) := by
  induction cs with
  | nil => rfl
  | cons c cs ih => rw [List.map_cons, allOf, pd_row n (h c List.mem_cons_self), ih fun c m => h c (List.mem_cons_of_mem _ m)] <;> rfl
theorem pd_sC {g : Nat → PySem.Str} (n : Nat) {cs : List (List Nat)} (h : ∀ c ∈ cs, ∀ x ∈ c, NameOk (g x)) : (sC g cs).pd (n + 2) = some (.list (rowsP g cs)) := by
  show (allOf (D.pd (n + 1)) (cs.map (sL g))).map PyData.list = _
  rw [pd_rows n h] <;> rfl
theorem lend_nw {t : OT} {d : R.D} (h : t.fzd = some d) : (Rs.nw t).lend = .fz d := by
  unfold Rs.lend Rs.ffz
  show (match (match t.fzd with | some d => Rs.fz d | none => _) with | .fz d => Rs.fz d | .nw t => .ex t | .br t => .ex t | .ex t => .ex t) = _
  rw [h]
theorem ffz_nw {t : OT} {d : R.D} (h : t.fzd = some d) : (Rs.nw t).ffz = .fz d := by
  show (match t.fzd with | some d => Rs.fz d | none => _) = _
  rw [h]
theorem Row.M {sz fw : List Nat} (h : Row sz fw) : RowM sz fw := ⟨h.l0, h.fl, fun s m => (h.s1 s m).1, h.fi⟩
theorem Row.lst {sz fw : List Nat} (h : Row sz fw) : least sz sz.length = least sz (fw.length + 1) := by rw [h.fl]
theorem stp_ok {sz fw : List Nat} {g : Nat → PySem.Str} {s : List Nat × List (List Nat)} (hR : Row sz fw) (h : StOk sz fw g s.1 s.2) : StOk sz fw g (stp sz fw s).1 (stp sz fw s).2 := by
  obtain ⟨q, cs⟩ := s
  obtain ⟨x, q, rfl⟩ := StOk.cons hR h
  exact StOk.step hR h
theorem adv_ok {sz fw : List Nat} {g : Nat → PySem.Str} (hR : Row sz fw) : ∀ (n : Nat) {s : List Nat × List (List Nat)}, StOk sz fw g s.1 s.2 → StOk sz fw g (adv sz fw n s).1 (adv sz fw n s).2
  | 0, _, h => h
  | n + 1, _, h => adv_ok hR n (stp_ok hR h)
theorem StOk.adv {sz fw : List Nat} {g : Nat → PySem.Str} {q : List Nat} {cs : List (List Nat)} (hR : Row sz fw) (h : StOk sz fw g q cs) (n : Nat) : StOk sz fw g (R.adv sz fw n (q, cs)).1 (R.adv sz fw n (q, cs)).2 := adv_ok hR n h
theorem stp_tot {sz fw : List Nat} {g : Nat → PySem.Str} {q : List Nat} {cs : List (List Nat)} (hR : Row sz fw) (h : StOk sz fw g q cs) : (stp sz fw (q, cs)).1.length + totM (stp sz fw (q, cs)).2 = q.length + totM cs := by
  obtain ⟨x, q, rfl⟩ := StOk.cons hR h
  have := csc_tot (m := x) (q := q) hR.ne hR.fl hR.fi h.val
  show (csc sz fw cs x q).2.length + totM (csc sz fw cs x q).1 = _
  rw [List.length_cons]
  omega
theorem adv_tot {sz fw : List Nat} {g : Nat → PySem.Str} (hR : Row sz fw) : ∀ (n : Nat) {q : List Nat} {cs : List (List Nat)}, StOk sz fw g q cs → (R.adv sz fw n (q, cs)).1.length + totM (R.adv sz fw n (q, cs)).2 = q.length + totM cs
  | 0, _, _, _ => rfl
  | n + 1, q, cs, h => by
    have e := stp_tot hR h
    have := adv_tot hR n (q := (stp sz fw (q, cs)).1) (cs := (stp sz fw (q, cs)).2) (stp_ok (s := (q, cs)) hR h)
    rw [← e, ← this]
    rfl
theorem ixS {g : Nat → PySem.Str} {l : List Nat} {i : Nat} {r : Rs} {Q : Rs → Prop} (h : r = .br (.lst (l.map fun n => .leaf (nS g n))) ∨ IsS g l r) (hi : i < l.length) (q : Q (.fz (nS g (pk l i)))) : oIx r.ffz (.fz (nI i)) Q := by
  rcases h with rfl | rfl | rfl
  · exact ⟨_, _, rfl, at_nat (leaf_nS hi), q⟩
  · exact ⟨nS g (pk l i), at_nat (by rw [List.getElem?_map, List.getElem?_eq_getElem hi, pk_lt hi] <;> rfl), q⟩
  · exact ⟨_, _, rfl, at_nat (leaf_nS hi), q⟩
theorem get_enum {c : List Nat} {i : Nat} {r : Rs} (h : (enumR (c.map nI))[i]? = some r) : i < c.length ∧ r = pairR (nI i) (nI (pk c i)) := by
  have hi := (List.getElem?_eq_some_iff.mp h).1
  unfold enumR at hi h
  rw [List.length_map, List.length_range, List.length_map] at hi
  have := range_map_get h
  rw [getD_nI hi] at this
  exact ⟨hi, this⟩
theorem enum_len (c : List Nat) : (enumR (c.map nI)).length = c.length := by unfold enumR; rw [List.length_map, List.length_range, List.length_map]
theorem eqv_nil (ps : List PyData) : PyData.eqv (.list ps) (.list []) = ps.isEmpty := by
  cases ps with
  | nil => rw [PyData.eqv, PyData.eqvAll] <;> rfl
  | cons p ps =>
    rw [PyData.eqv, PyData.eqvAll]
    · rfl
    all_goals simp
theorem oEq_row {g : Nat → PySem.Str} {l : List Nat} {neg : Bool} {r : Rs} {Q : Rs → Prop} (h : IsS g l r) (ok : ∀ n ∈ l, NameOk (g n)) (q : Q (.fz (.bl (l.isEmpty != neg)))) : oEq neg r (.fz (.lst [])) Q := by
  have e : r.t.pd 8 = some (.list (l.map fun x => PyData.str (g x))) := by
    rcases h with rfl | rfl
    · exact pd_row 7 ok
    · exact pdT_row 7 ok
  refine ⟨_, .list [], e, rfl, ?_⟩
  rw [eqv_nil, show (l.map fun x => PyData.str (g x)).isEmpty = l.isEmpty from by cases l <;> rfl]
  exact q
theorem it_slc {a : DE} {lo hi : DO} {env : R.Env} {Q : Bool → List Rs → Prop} {ds : List R.D} {l h : Option Int} (ha : ∀ P : Rs → Prop, P (.fz (.lst ds)) → a env P) (hl : ∀ P : Option Int → Prop, P l → lo env P) (hh : ∀ P : Option Int → Prop, P h → hi env P) (q : Q true ((cut' ds l h).map .fz)) : mItL (mSl a lo hi) env Q := by
  refine ha _ (hl _ (hh _ (w_sl ?_)))
  rw [ffz_lst]
  refine ⟨_, rfl, ?_⟩
  rw [kid_leafs]
  exact q
abbrev Sta : Type := List Nat × List (List Nat)
def simN : List PySem.Str := ["cups", "blocks", "last_event", "names", "early_states", "early_groups"]
def grD2 (g : Nat → PySem.Str) (p : Nat × List Nat) : R.D := .tup [nI p.1, sL g p.2]
def simD (cs : Cs) (sz fw : List Nat) (g : Nat → PySem.Str) (L : Nat) (nm : List Nat) (sts : List Sta) (grs : List (Nat × List Nat)) : R.D :=
  .ins cs.Simulation simN [cupD cs sz fw, blkD cs sz fw, nI L, sL g nm, .lst (sts.map fun s => stD g s.1 s.2), .lst (grs.map (grD2 g))]
def F_Simulation_copy_at (cs : Cs) : Spec1 := fun ss Q => ∃ sz fw g L nm sts grs n q cts, Row sz fw ∧ sts[min n L]? = some (q, cts) ∧ StOk sz fw g q cts ∧ ss = [fz (simD cs sz fw g L nm sts grs), fz (nI n)] ∧
  Q (.nw (stT g (R.adv sz fw (n - L) (q, cts)).1 (R.adv sz fw (n - L) (q, cts)).2))
def F_Simulation_state_at (cs : Cs) : Spec1 := F_Simulation_copy_at cs
theorem sim0 {cs : Cs} {sz fw : List Nat} {g : Nat → PySem.Str} {nm : List Nat} {n : Nat} {q : List Nat} {cts : List (List Nat)} {Q : Rs → Prop} (hR : Row sz fw) (hS : StOk sz fw g q cts) (h : Q (.nw (stT g (R.adv sz fw n (q, cts)).1 (R.adv sz fw n (q, cts)).2))) :
    F_Simulation_state_at cs [fz (simD cs sz fw g 0 nm [(q, cts)] []), fz (nI n)] Q := ⟨sz, fw, g, 0, nm, [(q, cts)], [], n, q, cts, hR, by rw [Nat.min_zero] <;> rfl, hS, rfl, h⟩
theorem eqvAll_names {g : Nat → PySem.Str} : ∀ {l m : List Nat}, (∀ x ∈ l, ∀ y ∈ m, g x = g y → x = y) → PyData.eqvAll (l.map fun x => PyData.str (g x)) (m.map fun x => PyData.str (g x)) = decide (l = m)
  | [], [], _ => by rw [List.map_nil, PyData.eqvAll] <;> rfl
  | [], y :: m, _ => by
    rw [List.map_nil, List.map_cons, PyData.eqvAll]
    · rfl
    all_goals simp
  | x :: l, [], _ => by
    rw [List.map_nil, List.map_cons, PyData.eqvAll]
    · rfl
    all_goals simp
  | x :: l, y :: m, h => by
    rw [List.map_cons, List.map_cons, PyData.eqvAll, PyData.eqv, eqvAll_names fun a ha b hb => h a (List.mem_cons_of_mem _ ha) b (List.mem_cons_of_mem _ hb)]
    by_cases z : x = y
    · subst z
      by_cases w : l = m
      · subst w
        simp
      · rw [decide_eq_false w, decide_eq_false (fun e => w (List.cons.inj e).2), Bool.and_false]
    · have : (g x == g y) = false := beq_false_of_ne fun e => z (h x List.mem_cons_self y List.mem_cons_self e)
      rw [this, decide_eq_false (fun e => z (List.cons.inj e).1), Bool.false_and]
theorem eqv_names {g : Nat → PySem.Str} {l m : List Nat} (h : ∀ x ∈ l, ∀ y ∈ m, g x = g y → x = y) : PyData.eqv (.list (l.map fun x => PyData.str (g x))) (.list (m.map fun x => PyData.str (g x))) = decide (l = m) := by
  rw [PyData.eqv, eqvAll_names h]
theorem adv_memb {sz fw : List Nat} {g : Nat → PySem.Str} (hR : Row sz fw) : ∀ (n : Nat) {q : List Nat} {cs : List (List Nat)}, StOk sz fw g q cs → (memb (R.adv sz fw n (q, cs)).1 (R.adv sz fw n (q, cs)).2).Perm (memb q cs)
  | 0, _, _, _ => .refl _
  | n + 1, q, cs, h => by
    obtain ⟨x, q, rfl⟩ := StOk.cons hR h
    exact (adv_memb hR n (StOk.step hR h)).trans (csc_perm hR.ne hR.fl hR.fi h.val)
theorem StOk.mnd {sz fw : List Nat} {g : Nat → PySem.Str} {q : List Nat} {cs : List (List Nat)} (h : StOk sz fw g q cs) : (memb q cs).Nodup := by
  have := h.nms.nd
  rw [List.nodup_iff_pairwise_ne, List.pairwise_map] at this
  exact List.nodup_iff_pairwise_ne.mpr (this.imp fun h e => h (by rw [e]))

theorem Nms.inj {g : Nat → PySem.Str} {M : List Nat} (h : Nms g M) {a b : Nat} (ha : a ∈ M) (hb : b ∈ M) (e : g a = g b) : a = b := by
  have nd := h.nd
  obtain ⟨i, hi, rfl⟩ := List.getElem_of_mem ha
  obtain ⟨j, hj, rfl⟩ := List.getElem_of_mem hb
  have := (List.nodup_iff_pairwise_ne.mp nd)
  rw [List.pairwise_map, List.pairwise_iff_getElem] at this
  rcases Nat.lt_trichotomy i j with q | q | q
  · exact absurd e (this i j hi hj q)
  · subst q; rfl
  · exact absurd e.symm (this j i hj hi q)
theorem oEq_nS {g : Nat → PySem.Str} {a b : Nat} (ha : NameOk (g a)) (hb : NameOk (g b)) {neg : Bool} {Q : Rs → Prop} (q : Q (.fz (.bl ((g a == g b) != neg)))) : oEq neg (.fz (nS g a)) (.fz (nS g b)) Q := by
  have e : ∀ x, NameOk (g x) → (nS g x).pd 8 = some (.str (g x)) := fun x h => by
    have w := pd_nS (g := g) 8 (l := [x]) fun y m => by rw [List.mem_singleton.mp m]; exact h
    cases z : (nS g x).pd 8 with
    | none => rw [List.map_cons, allOf, z] at w; cases w
    | some p =>
      rw [List.map_cons, List.map_nil, allOf, z] at w
      cases w
      rfl
  exact ⟨.str (g a), .str (g b), e a ha, e b hb, by rw [PyData.eqv]; exact q⟩
theorem range_filter (P : Nat → Bool) (i : Nat) : (List.range (i + 1)).filter P = (List.range i).filter P ++ if P i = true then [i] else [] := by
  rw [List.range_succ, List.filter_append, List.filter_cons, List.filter_nil]
def F_law_name (_ : Cs) : Spec1 := fun ss Q => ∃ n : Nat, ss = [fz (nI n)] ∧ n ≤ 20000 ∧ ∀ z, NameOk z → lval z.cps.toList = n + 1 → Q (.fz (.str z))
def F_law_names (_ : Cs) : Spec1 := fun ss Q => ∃ ps n, ss = [fz (.vol 0 ps), fz (nI n)] ∧ 1 ≤ n ∧ n ≤ 40 ∧ ∀ g, Nms g (List.range n) → Q (.nw (.lst ((List.range n).map fun k => .leaf (nS g k))))
def F_law_step (_ : Cs) : Spec1 := fun ss Q => ∃ sz fw g x q cts, Row sz fw ∧ Val sz cts ∧ q.length + totM cts ≤ 64 ∧ ss = [fz (nL sz), fz (nL fw), fz (stD g (x :: q) cts)] ∧
  ∀ t d, t.fzd = some (.tup [stD g (csc sz fw cts x q).2 (csc sz fw cts x q).1, d]) → Q (.nw t)
def kp (sz : List Nat) : List Nat := (List.range sz.length).filter fun i => decide (1 < pk sz i) || decide (i + 1 = sz.length)
def smA (sz : List Nat) : List Nat := (kp sz).map (pk sz)
def smB (sz fw : List Nat) : List Nat := (kp sz).dropLast.map (pk fw)
def smC (a b : List Nat) : Bool := decide (1 < a.length) && (decide (lastN a = 1) && decide (lastN b = pk a (a.length - 2) - 1))
def sm (sz fw : List Nat) : List Nat × List Nat := if smC (smA sz) (smB sz fw) = true then ((smA sz).dropLast, (smB sz fw).dropLast) else (smA sz, smB sz fw)
theorem Row.one {sz fw : List Nat} (h : Row sz fw) : ∀ s ∈ sz, 1 ≤ s := fun s m => (h.s1 s m).1
theorem set_leaf {l : List Nat} {c v : Nat} : ((l.map fun n => OT.leaf (nI n)).set c (.leaf (nI v))) = (l.set c v).map fun n => .leaf (nI n) := by rw [List.map_set]
theorem memb_nils (q : List Nat) (n : Nat) : memb q (List.replicate n []) = q := by
  unfold memb
  rw [flat_nils, List.append_nil]
theorem st_nils {sz fw : List Nat} {g : Nat → PySem.Str} {q : List Nat} (hR : Row sz fw) (hg : Nms g q) (h1 : least sz (fw.length + 1) ≤ q.length) (h2 : q.length ≤ 40) : StOk sz fw g q (List.replicate sz.length []) := by
  refine ⟨val_nil fun s m => (hR.s1 s m).1, by rw [memb_nils]; exact hg, ?_, ?_⟩
  · rw [totM_nils]; exact h1
  · rw [totM_nils]; exact h2
theorem own_nils (g : Nat → PySem.Str) (n : Nat) : ownS g (List.replicate n []) = List.replicate n (.lst []) := by
  unfold ownS
  rw [List.map_replicate] <;> rfl
theorem len_le_sum : ∀ {l : List Nat}, (∀ x ∈ l, 1 ≤ x) → l.length ≤ l.sum
  | [], _ => Nat.le_refl _
  | x :: l, h => by
    have := len_le_sum fun y m => h y (List.mem_cons_of_mem _ m)
    have := h x List.mem_cons_self
    rw [List.length_cons, List.sum_cons]
    omega
theorem range_nils {α : Type} (n : Nat) (a : α) : (List.range n).map (fun _ => a) = List.replicate n a := by
  apply List.ext_getElem
  · rw [List.length_map, List.length_range, List.length_replicate]
  · intro i h1 h2
    rw [List.getElem_map, List.getElem_replicate]
theorem eqvAll_nI : ∀ {l m : List Nat}, PyData.eqvAll (l.map fun (k : Nat) => PyData.int (k : Int)) (m.map fun (k : Nat) => PyData.int (k : Int)) = decide (l = m)
  | [], [] => by rw [List.map_nil, PyData.eqvAll] <;> rfl
  | [], y :: m => by
    rw [List.map_nil, List.map_cons, PyData.eqvAll]
    · rfl
    all_goals simp
  | x :: l, [] => by
    rw [List.map_nil, List.map_cons, PyData.eqvAll]
    · rfl
    all_goals simp
  | x :: l, y :: m => by
    rw [List.map_cons, List.map_cons, PyData.eqvAll, PyData.eqv, eqvAll_nI]
    have hb : ((x : Int) == (y : Int)) = decide (x = y) := by
      show decide ((x : Int) = (y : Int)) = _
      exact decide_eq_decide.mpr ⟨fun h => by omega, fun h => by omega⟩
    rw [hb]
    by_cases z : x = y
    · subst z
      by_cases w : l = m
      · subst w
        simp
      · rw [decide_eq_false w, decide_eq_false (fun e => w (List.cons.inj e).2), Bool.and_false]
    · rw [decide_eq_false z, decide_eq_false (fun e => z (List.cons.inj e).1), Bool.false_and]
theorem oEq_nL {neg : Bool} {a b : List Nat} {Q : Rs → Prop} (q : Q (.fz (.bl (decide (a = b) != neg)))) : oEq neg (.fz (nL a)) (.fz (nL b)) Q := by
  have e : ∀ a : List Nat, (nL a).pd 8 = some (.list (a.map fun (k : Nat) => PyData.int (k : Int))) := fun a => by
    show (allOf (D.pd 7) (a.map nI)).map PyData.list = _
    rw [pd_ints] <;> rfl
  refine ⟨_, _, e a, e b, ?_⟩
  rw [PyData.eqv, eqvAll_nI]
  exact q
theorem Row.take {sz fw : List Nat} (h : Row sz fw) {c : Nat} (hc : 1 ≤ c) : Row (sz.take c) (fw.take ((sz.take c).length - 1)) := by
  have hl0 := h.l0
  have hl1 := h.l1
  have hsm := h.sm
  have hfl := h.fl
  have htl : (sz.take c).length = min c sz.length := List.length_take
  have a := len_le_sum (l := sz.drop c) fun x m => (h.s1 x (List.mem_of_mem_drop m)).1
  have b : (sz.take c).sum + (sz.drop c).sum = sz.sum := by rw [← List.sum_append, List.take_append_drop]
  have d : (sz.take c).length + (sz.drop c).length = sz.length := by rw [← List.length_append, List.take_append_drop]
  refine ⟨by omega, by omega, fun s m => h.s1 s (List.mem_of_mem_take m), by omega, by rw [List.length_take]; omega, fun i hi => ?_⟩
  rw [List.length_take] at hi
  have := h.fi i (by omega)
  rw [pk_lt (by rw [List.length_take]; omega), pk_lt (by omega), List.getElem_take, List.getElem_take, ← pk_lt, ← pk_lt]
  exact this
theorem e_add {x y : DE} {env : R.Env} {a b : List R.D} {P : Rs → Prop} (hl : a.length + b.length ≤ sizeL) (hx : ∀ P : Rs → Prop, P (.nw (.lst (a.map .leaf))) → x env P) (hy : ∀ P : Rs → Prop, P (.nw (.lst (b.map .leaf))) → y env P) (h : P (.nw (.lst ((a ++ b).map .leaf)))) : mOp oAdd x y env P := hx _ (hy _ (by
  show oAdd (Rs.nw (.lst (a.map .leaf))).ffz (Rs.nw (.lst (b.map .leaf))).ffz P
  rw [ffz_lst, ffz_lst]
  exact w_add_ff hl h))
theorem e_addY {x y : DE} {env : R.Env} {a b : List R.D} {ry : Rs} {P : Rs → Prop} (hl : a.length + b.length ≤ sizeL) (ey : ry.ffz = .fz (.lst b)) (hx : ∀ P : Rs → Prop, P (.nw (.lst (a.map .leaf))) → x env P) (hy : ∀ P : Rs → Prop, P ry → y env P) (h : P (.nw (.lst ((a ++ b).map .leaf)))) : mOp oAdd x y env P := hx _ (hy _ (by
  show oAdd (Rs.nw (.lst (a.map .leaf))).ffz ry.ffz P
  rw [ffz_lst, ey]
  exact w_add_ff hl h))
def cfN : List PySem.Str := ["queue", "known_sizes", "known_indices", "contents", "complete"]
def cfT (cs : Cs) (g : Nat → PySem.Str) (q ks ki : List Nat) (ct : List (List Nat)) (c : Bool) : OT := .ins cs.CupFinder cfN [.lst (q.map fun n => .leaf (nS g n)), .lst (ks.map fun n => .leaf (nI n)), .lst (ki.map fun n => .leaf (nI n)), .lst (ownS g ct), .leaf (.bl c)]
def F_require (_ : Cs) : Spec1 := fun ss Q => ss = [fz (.bl true)] ∧ Q (.fz .non)
def F_CupFinder_init (cs : Cs) : R.Spec := fun ss Q => ∃ g q, ss = [some (.nw (.ins cs.CupFinder [] [])), fz (sL g q)] ∧ Q (.fz .non) [some (.nw (cfT cs g q [] [] [[]] false)), none]
theorem oEq_rowB {g : Nat → PySem.Str} {l : List Nat} {neg : Bool} {Q : Rs → Prop} (ok : ∀ n ∈ l, NameOk (g n)) (q : Q (.fz (.bl (l.isEmpty != neg)))) : oEq neg (.br (.lst (l.map fun n => .leaf (nS g n)))) (.fz (.lst [])) Q := by
  refine ⟨_, .list [], pdT_row 7 ok, rfl, ?_⟩
  rw [eqv_nil, show (l.map fun x => PyData.str (g x)).isEmpty = l.isEmpty from by cases l <;> rfl]
  exact q
section
variable {cs : Cs} {g : Nat → PySem.Str} {q ks ki : List Nat} {ct : List (List Nat)} {c : Bool} {env : R.Env} {P : Rs → Prop}
theorem cf_ne {x : Nat} (e : env[0]? = some (some (.nw (cfT cs g (x :: q) ks ki ct c)))) (ok : ∀ n ∈ x :: q, NameOk (g n)) (h : P (.fz (.bl true))) : mOp (oEq true) (mFld cs.CupFinder "queue" (mVar 0)) (mLst mNil) env P := by
  refine ⟨_, e, cfN, _, _, rfl, rfl, [], rfl, Nat.zero_le _, ?_⟩
  show oEq true (.br (.lst ((x :: q).map fun n => .leaf (nS g n)))) (Rs.nw (.lst (([] : List R.D).map .leaf))).ffz P
  rw [ffz_lst]
  exact oEq_rowB ok h
theorem cf_len (e : env[0]? = some (some (.nw (cfT cs g q ks ki ct c)))) (h : P (.fz (.int (q.length : Nat)))) : mB oLen (mCons (mFld cs.CupFinder "queue" (mVar 0)) mNil) env P := by
  refine ⟨_, e, cfN, _, _, rfl, rfl, _, rfl, ?_⟩
  rw [List.length_map]
  exact h
theorem cf_ret {l r : List Nat} (e : env[0]? = some (some (.nw (cfT cs g q ks ki ct c)))) (e1 : env[1]? = some (fz (sL g l))) (hl : l.drop q.length = r) (h : P (.fz (sL g r))) : mFz (mSl (mVar 1) (mPart (mB oLen (mCons (mFld cs.CupFinder "queue" (mVar 0)) mNil))) mNoP) env P := by
  refine ⟨_, e1, cf_len e ?_⟩
  refine ⟨l.map (nS g), rfl, ?_⟩
  rw [cutB, ← List.map_drop, hl]
  exact ⟨sL g r, fz_lst _, h⟩
theorem cf_pre {l : List Nat} (e : env[0]? = some (some (.nw (cfT cs g q ks ki ct c)))) (e1 : env[1]? = some (fz (sL g l))) (hl : l.take q.length = q) (ok : ∀ n ∈ q, NameOk (g n)) (h : P (.fz (.bl true))) : mOp (oEq false) (mSl (mVar 1) mNoP (mPart (mB oLen (mCons (mFld cs.CupFinder "queue" (mVar 0)) mNil)))) (mFld cs.CupFinder "queue" (mVar 0)) env P := by
  refine ⟨_, e1, cf_len e ?_⟩
  refine ⟨l.map (nS g), rfl, ?_⟩
  rw [cutA, ← List.map_take, hl]
  refine ⟨_, e, cfN, _, _, rfl, rfl, ?_⟩
  show oEq false (Rs.nw (.lst ((q.map (nS g)).map .leaf))).ffz (.br (.lst (q.map fun n => .leaf (nS g n)))) P
  rw [ffz_lst]
  exact oEq_same (pd_row 7 ok) (pd_row 7 ok) (pdT_row 7 ok) h
end

-- uses cups blocks base rounds memcount rowL cycfz states per adv sim sim0 in names5 fdiff units nils lp0 lp cf
-- drop F_CupFinder_observe F_CupFinder_empty_known_cup F_CupFinder_learn_cup F_CupFinder_check_limits F_infer_cups
def ful : List Nat → List (List Nat) → Nat
  | s :: ss, c :: cs => if c.length + 1 = s then ful ss cs + 1 else 0
  | _, _ => 0
theorem ful_le : ∀ {sz : List Nat} {cs : List (List Nat)}, ful sz cs ≤ sz.length
  | [], _ => by unfold ful; exact Nat.le_refl _
  | s :: ss, [] => Nat.zero_le _
  | s :: ss, c :: cs => by
    rw [ful, List.length_cons]
    have := ful_le (sz := ss) (cs := cs)
    split <;> omega
def KT (sz fw : List Nat) (s : List Nat × List (List Nat)) : Nat → Nat
  | 0 => 0
  | t + 1 => max (KT sz fw s t) (ful sz (R.adv sz fw t s).2)
theorem KT_le {sz fw : List Nat} {s : List Nat × List (List Nat)} : ∀ t, KT sz fw s t ≤ sz.length
  | 0 => Nat.zero_le _
  | t + 1 => Nat.max_le.mpr ⟨KT_le t, ful_le⟩
structure Smp (sz fw : List Nat) : Prop where
  big : ∀ c, c + 1 < sz.length → 1 < pk sz c
  lst : 1 < sz.length → pk sz (sz.length - 1) = 1 → pk fw (sz.length - 2) + 1 < pk sz (sz.length - 2)
def Nih (cts : List (List Nat)) (K : Nat) : Prop := ∀ c, K < c → pc cts c = []
theorem csc_far : ∀ {sz fw : List Nat} {cs : List (List Nat)} {x : Nat} {q : List Nat} {c : Nat}, Val sz cs → ful sz cs < c → pc (csc sz fw cs x q).1 c = pc cs c
  | _, fw, _, x, q, c, .nil, h => by rw [csc] <;> simp
  | [s], fw, a :: cs, x, q, c, .cons ha hv, h => by
    cases hv
    rw [csc]
    obtain ⟨c, rfl⟩ : ∃ k, c = k + 1 := ⟨c - 1, by omega⟩
    split <;> rfl
  | s :: s2 :: ss, fw, a :: cs, x, q, c, .cons ha hv, h => by
    rw [csc]
    obtain ⟨c, rfl⟩ : ∃ k, c = k + 1 := ⟨c - 1, by omega⟩
    split
    · rfl
    · rename_i h1
      rw [ful, if_pos (by omega)] at h
      show pc (csc (s2 :: ss) (fw.drop 1) cs _ _).1 c = pc cs c
      exact csc_far hv (by omega)
theorem nih_step {sz fw : List Nat} {cs : List (List Nat)} {x K : Nat} {q : List Nat} (hv : Val sz cs) (h : Nih cs K) : Nih (csc sz fw cs x q).1 (max K (ful sz cs)) := fun c hc => by
  rw [csc_far hv (by omega)]
  exact h c (by omega)
theorem lc_fltX {it : DI} {gg : DG} {t : DT} {e : DE} {ws : List Nat} {env : R.Env} {Q : Rs → Prop} (st : Bool) (xs : List Rs) (out : Nat → R.D) (p : Nat → Bool) (hit : ∀ Q' : Bool → List Rs → Prop, Q' st xs → it env Q') (hs : xs.length ≤ sizeL)
    (step : ∀ k r, xs[k]? = some r → ∃ e1 : R.Env, (∀ P : R.Env → Prop, P e1 → gg (R.Env.wipe (R.Env.lent env) ws) r.arg P) ∧ e1.length = env.length ∧ (∀ P : Bool → Prop, P (p k) → t e1 P) ∧ (∀ P : Rs → Prop, P (.fz (out k)) → e e1 P))
    (q : Q (.nw (.lst ((((List.range xs.length).filter p).map out).map .leaf)))) : mLc it gg t e ws env Q := by
  refine hit _ ⟨fun i acc => acc = (((List.range i).filter p).map out).map .leaf, rfl, ?_, ?_⟩
  · rintro i r acc hr rfl
    have hi := (List.getElem?_eq_some_iff.mp hr).1
    obtain ⟨e1, a, b, c, z⟩ := step i r hr
    refine ⟨?_, a _ ⟨b, c _ ?_⟩⟩
    · have := List.length_filter_le p (List.range i)
      rw [List.length_map, List.length_map]
      rw [List.length_range] at this
      omega
    · have e2 := range_filter p i
      dsimp only
      rw [e2]
      cases hp : p i with
      | true =>
        rw [if_pos rfl]
        exact z _ ⟨_, rfl, by rw [if_pos rfl, List.map_append, List.map_append] <;> rfl⟩
      | false =>
        rw [if_neg Bool.false_ne_true, if_neg Bool.false_ne_true, List.append_nil]
  · rintro acc rfl
    exact q
theorem dropm_nd {l : List Nat} (h : l.Nodup) {i : Nat} (hi : i < l.length) : (l.eraseIdx i).Nodup ∧ (∀ x ∈ l.eraseIdx i, x ∈ l) ∧ pk l i ∉ l.eraseIdx i := by
  have p := perm_erase (l := l) (i := i) hi
  have nd := p.nodup_iff.mpr h
  obtain ⟨a, _, c⟩ := List.nodup_append.mp nd
  exact ⟨a, fun x m => p.mem_iff.mp (List.mem_append_left _ m), fun m => c _ m _ List.mem_cons_self rfl⟩
theorem erase_inj {l : List Nat} (h : l.Nodup) {a b : Nat} (ha : a < l.length) (hb : b < l.length) (e : l.eraseIdx a = l.eraseIdx b) : a = b := by
  refine Classical.byContradiction fun ne => ?_
  have h1 := (dropm_nd h ha).2.2
  rw [e] at h1
  refine h1 (List.mem_eraseIdx_iff_getElem.mpr ⟨a, ha, ne, ?_⟩)
  rw [pk_lt ha]
theorem oEq_any {neg : Bool} {g : Nat → PySem.Str} {a b M : List Nat} {x y : Rs} {Q : Rs → Prop} (hM : Nms g M) (ha : ∀ n ∈ a, n ∈ M) (hb : ∀ n ∈ b, n ∈ M) (hx : x.t = .leaf (sL g a) ∨ x.t = .lst (a.map fun n => .leaf (nS g n)))
    (hy : y.t = .leaf (sL g b) ∨ y.t = .lst (b.map fun n => .leaf (nS g n))) (q : Q (.fz (.bl (decide (a = b) != neg)))) : oEq neg x y Q := by
  refine ⟨.list (a.map fun x => PyData.str (g x)), .list (b.map fun x => PyData.str (g x)), ?_, ?_, ?_⟩
  · rcases hx with e | e <;> rw [e]
    · exact pd_row 7 fun n m => hM.ok n (ha n m)
    · exact pdT_row 7 fun n m => hM.ok n (ha n m)
  · rcases hy with e | e <;> rw [e]
    · exact pd_row 7 fun n m => hM.ok n (hb n m)
    · exact pdT_row 7 fun n m => hM.ok n (hb n m)
  · rw [eqv_names fun x hx y hy e => hM.inj (ha x hx) (hb y hy) e]
    exact q
theorem ixN_last (n : Nat) : ixN' (n + 1) (-1) = some n := by
  unfold ixN'
  rw [if_neg (by omega), if_pos (by omega)]
  congr 1
  omega
theorem at_last {α : Type} (l : List α) (x : α) : at' (l ++ [x]) (-1) = some x := by
  unfold at'
  rw [List.length_append, List.length_singleton, ixN_last, Option.bind_some, List.getElem?_append_right (Nat.le_refl _), Nat.sub_self] <;> rfl
theorem csc_next {sz fw : List Nat} {j x : Nat} {old nxt q : List Nat} {post : List (List Nat)} (hj : j + 1 < sz.length) (hfull : ¬ old.length + 1 < pk sz j) :
    csc (sz.drop j) (fw.drop j) (old :: nxt :: post) x q = ([] :: (csc (sz.drop (j + 1)) (fw.drop (j + 1)) (nxt :: post) (pk (old ++ [x]) (pk fw j)) (q ++ (old ++ [x]).eraseIdx (pk fw j))).1, (csc (sz.drop (j + 1)) (fw.drop (j + 1)) (nxt :: post) (pk (old ++ [x]) (pk fw j)) (q ++ (old ++ [x]).eraseIdx (pk fw j))).2) := by
  rw [drop_pk (show j < sz.length by omega), drop_pk hj, csc, if_neg hfull, drop_pk1, rw_drop]
theorem csc_end {sz fw : List Nat} {j x : Nat} {old q : List Nat} (hj : j + 1 = sz.length) (hfull : ¬ old.length + 1 < pk sz j) : csc (sz.drop j) fw [old] x q = ([[]], q ++ (old ++ [x])) := by
  rw [drop_pk (show j < sz.length by omega), List.drop_eq_nil_of_le (show sz.length ≤ j + 1 by omega), csc, if_neg hfull]
theorem csc_stop {sz fw : List Nat} {j x : Nat} {old q : List Nat} {post : List (List Nat)} (hj : j < sz.length) (hlt : old.length + 1 < pk sz j) : csc (sz.drop j) fw (old :: post) x q = ((old ++ [x]) :: post, q) := by
  rw [drop_pk hj]
  cases hd : sz.drop (j + 1) with
  | nil => rw [csc, if_pos hlt]
  | cons s2 ss => rw [csc, if_pos hlt]
theorem ful_drop {sz : List Nat} {j : Nat} {old : List Nat} {post : List (List Nat)} (hj : j < sz.length) : ful (sz.drop j) (old :: post) = if old.length + 1 = pk sz j then ful (sz.drop (j + 1)) post + 1 else 0 := by rw [drop_pk hj, ful]
theorem val_dropN : ∀ {sz : List Nat} {cs : List (List Nat)} (j : Nat), Val sz cs → Val (sz.drop j) (cs.drop j)
  | _, _, 0, h => h
  | _, _, j + 1, .nil => .nil
  | _, _, j + 1, .cons _ h => val_dropN j h
structure Lp (sz fw M : List Nat) (cts : List (List Nat)) (CS : List (List Nat) × List Nat) (j : Nat) (old : List Nat) (post : List (List Nat)) (x : Nat) (q : List Nat) : Prop where
  lt : j < sz.length
  dr : cts.drop j = old :: post
  cs : CS = (List.replicate j [] ++ (csc (sz.drop j) (fw.drop j) (old :: post) x q).1, (csc (sz.drop j) (fw.drop j) (old :: post) x q).2)
  fu : ful sz cts = j + ful (sz.drop j) (old :: post)
  pm : (q ++ ((old ++ [x]) ++ post.flatten)).Perm M
theorem Lp.next {sz fw M : List Nat} {cts : List (List Nat)} {CS : List (List Nat) × List Nat} {j : Nat} {old nxt : List Nat} {post : List (List Nat)} {x : Nat} {q : List Nat} (h : Lp sz fw M cts CS j old (nxt :: post) x q) (hf : old.length + 1 = pk sz j) (hj : j + 1 < sz.length) (hi : pk fw j < pk sz j) :
    Lp sz fw M cts CS (j + 1) nxt post (pk (old ++ [x]) (pk fw j)) (q ++ (old ++ [x]).eraseIdx (pk fw j)) := by
  have hrl : (old ++ [x]).length = old.length + 1 := by rw [List.length_append, List.length_singleton]
  refine ⟨hj, ?_, ?_, ?_, ?_⟩
  · have := congrArg (List.drop 1) h.dr
    rw [List.drop_drop] at this
    exact this
  · rw [h.cs, csc_next hj (by omega), List.replicate_succ', List.append_assoc]
    rfl
  · rw [h.fu, ful_drop h.lt, if_pos hf]
    omega
  · have p := perm_erase (l := old ++ [x]) (i := pk fw j) (by omega)
    refine List.Perm.trans ?_ h.pm
    rw [List.append_assoc, List.flatten_cons]
    refine List.Perm.append_left q ?_
    refine List.Perm.trans ?_ (p.append_right _)
    rw [List.append_assoc ((old ++ [x]).eraseIdx (pk fw j)) [pk (old ++ [x]) (pk fw j)]]
    refine List.Perm.append_left _ ?_
    rw [← List.append_assoc [pk (old ++ [x]) (pk fw j)] nxt]
    exact List.perm_append_comm.append_right _
theorem w_repD (x : R.D) (n : Nat) {Q : Rs → Prop} (hn : n < 1000000) (h : Q (.nw (.lst ((List.replicate n x).map .leaf)))) : oMul (Rs.nw (.lst [.leaf x])).ffz (.fz (.int (n : Nat))) Q := by
  show oMul (Rs.nw (.lst ([x].map .leaf))).ffz _ Q
  rw [ffz_lst]
  refine ⟨[x], rfl, by omega, by omega, by rw [Int.toNat_natCast]; show 1 * n ≤ sizeL; unfold sizeL; omega, ?_⟩
  rw [Int.toNat_natCast, List.flatten_replicate_singleton]
  exact h
def F_CupFinder_empty_known_cup (cs : Cs) : R.Spec := fun ss Q => ∃ g q ks ki pre row rest c, q.length ≤ 64 ∧ row.length ≤ 64 ∧ ss = [some (.nw (cfT cs g q ks ki (pre ++ row :: rest) c)), fz (nI pre.length)] ∧
  ((rest = [] ∧ Q (.fz .non) [some (.nw (cfT cs g (q ++ row) ks ki (pre ++ [[]]) c)), none]) ∨
   ∃ nxt rest2, rest = nxt :: rest2 ∧ nxt.length ≤ 64 ∧ pre.length < ki.length ∧ pk ki pre.length < row.length ∧ Q (.fz .non) [some (.nw (cfT cs g (q ++ row.eraseIdx (pk ki pre.length)) ks ki (pre ++ [] :: (nxt ++ [pk row (pk ki pre.length)]) :: rest2) c)), none])
def F_CupFinder_learn_cup (cs : Cs) : R.Spec := fun ss Q => ∃ g M q ks ki pre row ret, Nms g M ∧ (∀ x ∈ row, x ∈ M) ∧ row.Nodup ∧ 0 < row.length ∧ row.length ≤ 40 ∧ ks.length ≤ 40 ∧ ki.length ≤ 40 ∧ pre.length ≤ 40 ∧ ss = [some (.nw (cfT cs g q ks ki (pre ++ [row]) false)), fz (sL g ret)] ∧
  ((ret = row ∧ Q (.fz .non) [some (.nw (cfT cs g q (ks ++ [row.length]) ki (pre ++ [[]]) true)), none]) ∨
   ∃ f, f < row.length ∧ 1 < row.length ∧ ((ret = row.eraseIdx f ∧ Q (.fz .non) [some (.nw (cfT cs g q (ks ++ [row.length]) (ki ++ [f]) (pre ++ [[], [pk row f]]) false)), none]) ∨
     (ret = row.eraseIdx f ++ [pk row f] ∧ f + 1 < row.length ∧ Q (.fz .non) [some (.nw (cfT cs g q (ks ++ [row.length, 1]) (ki ++ [f]) (pre ++ [[], []]) true)), none])))
def fnd (cs : Cs) (g : Nat → PySem.Str) (sz fw : List Nat) (K : Nat) (q : List Nat) (cts : List (List Nat)) : OT := cfT cs g q (sz.take K) (fw.take K) (cts.take (K + 1)) (decide (K = sz.length))
def F_CupFinder_observe (cs : Cs) : R.Spec := fun ss Q => ∃ g sz fw x q cts K, Row sz fw ∧ Smp sz fw ∧ StOk sz fw g (x :: q) cts ∧ K ≤ sz.length ∧ Nih cts K ∧ ss = [some (.nw (fnd cs g sz fw K (x :: q) cts)), fz (sL g (csc sz fw cts x q).2)] ∧
  Q (.fz .non) [some (.nw (fnd cs g sz fw (max K (ful sz cts)) (csc sz fw cts x q).2 (csc sz fw cts x q).1)), none]
def F_CupFinder_check_limits (cs : Cs) : Spec1 := fun ss Q => ∃ g sz fw K q cts n, Row sz fw ∧ K ≤ sz.length ∧ Val sz cts ∧ least sz (fw.length + 1) ≤ n ∧ ss = [some (.ex (fnd cs g sz fw K q cts)), fz (nI n)] ∧ Q (.fz .non)
def tupT (a b : List Nat) (c : Bool) : OT := .tup [.lst (a.map fun n => .leaf (nI n)), .lst (b.map fun n => .leaf (nI n)), .leaf (.bl c)]
abbrev infT (sz fw : List Nat) (K : Nat) : OT := tupT (sz.take K) (fw.take K) (decide (K = sz.length))
def F_infer_cups (cs : Cs) : Spec1 := fun ss Q => ∃ g sz fw q T, Row sz fw ∧ Smp sz fw ∧ StOk sz fw g q (List.replicate sz.length []) ∧ T ≤ 399 ∧
  ss = [fz (.lst ((List.range (T + 1)).map fun t => sL g (R.adv sz fw t (q, List.replicate sz.length [])).1))] ∧ Q (.nw (infT sz fw (KT sz fw (q, List.replicate sz.length []) T)))
theorem adv_snoc (sz fw : List Nat) (t : Nat) (s : List Nat × List (List Nat)) : R.adv sz fw (t + 1) s = stp sz fw (R.adv sz fw t s) := by rw [adv_add t 1] <;> rfl
theorem nih_adv {sz fw : List Nat} {g : Nat → PySem.Str} {q : List Nat} (hR : Row sz fw) (hS : StOk sz fw g q (List.replicate sz.length [])) : ∀ t, Nih (R.adv sz fw t (q, List.replicate sz.length [])).2 (KT sz fw (q, List.replicate sz.length []) t)
  | 0 => fun c _ => by
    show pc (List.replicate sz.length []) c = []
    unfold pc
    rw [List.getD_eq_getElem?_getD, List.getElem?_replicate]
    split <;> rfl
  | t + 1 => by
    have h := nih_adv hR hS t
    have hA := hS.adv hR t
    rw [adv_snoc]
    generalize hs : R.adv sz fw t (q, List.replicate sz.length []) = s at *
    obtain ⟨a, cts⟩ := s
    obtain ⟨x, a, rfl⟩ := hA.cons hR
    show Nih (csc sz fw cts x a).1 (max _ (ful sz (R.adv sz fw t (q, List.replicate sz.length [])).2))
    rw [hs]
    exact nih_step hA.val h
theorem flt_len {l : List Nat} (h : ∀ s ∈ l, 1 ≤ s) : (l.filter (1 < ·)).sum + l.length = l.sum + (l.filter (1 < ·)).length ∧ (l.filter (1 < ·)).length ≤ l.length := by
  induction l with
  | nil => exact ⟨rfl, Nat.le_refl _⟩
  | cons a l ih =>
    have h1 := h a List.mem_cons_self
    obtain ⟨i1, i2⟩ := ih fun s m => h s (List.mem_cons_of_mem _ m)
    rw [List.filter_cons]
    split
    · rw [List.sum_cons, List.sum_cons, List.length_cons, List.length_cons]; omega
    · rename_i hn
      have : a = 1 := by simp at hn; omega
      rw [List.sum_cons, List.length_cons]; omega
theorem Smp.of {sz fw : List Nat} (h : (∀ s ∈ sz, 1 < s) ∨ sz.length = 1) : Smp sz fw := by
  refine ⟨fun c hc => ?_, fun h1 h2 => ?_⟩
  · rcases h with h | h
    · exact h _ (pk_mem (by omega))
    · omega
  · rcases h with h | h
    · have := h _ (pk_mem (l := sz) (i := sz.length - 1) (by omega)); omega
    · omega
theorem Smp.unit {sz fw : List Nat} {f : Nat} (h : ∀ s ∈ sz, 1 < s) (h0 : 0 < sz.length) (hf : fw.length + 1 = sz.length) (hlt : f + 1 < pk sz (sz.length - 1)) : Smp (sz ++ [1]) (fw ++ [f]) := by
  refine ⟨fun c hc => ?_, fun _ _ => ?_⟩
  · rw [List.length_append, List.length_singleton] at hc
    rw [pk_snoc, if_pos (by omega)]
    exact h _ (pk_mem (by omega))
  · rw [List.length_append, List.length_singleton, show sz.length + 1 - 2 = sz.length - 1 by omega, pk_snoc, if_neg (by omega), if_pos (by omega), pk_snoc, if_pos (by omega)]
    exact hlt
theorem step_call {cs : Cs} {sz fw : List Nat} {g : Nat → PySem.Str} {s : List Nat × List (List Nat)} {env : R.Env} {i j k : Nat} {P : Rs → Prop} (hR : Row sz fw) (hS : StOk sz fw g s.1 s.2) (e1 : env[i]? = some (fz (nL sz))) (e2 : env[j]? = some (fz (nL fw))) (e3 : env[k]? = some (fz (stD g s.1 s.2)))
    (q : P (.fz (stD g (stp sz fw s).1 (stp sz fw s).2))) : mFz (mOp oIx (mCall 3 (F_law_step cs) (mCons (mVar i) (mCons (mVar j) (mCons (mVar k) mNil))) []) (mC (.int 0))) env P := by
  obtain ⟨sq, sc⟩ := s
  obtain ⟨x, sq, rfl⟩ := StOk.cons hR hS
  have h40 : sq.length + 1 + totM sc ≤ 40 := hS.hi
  refine ⟨_, e1, _, e2, _, e3, rfl, sz, fw, g, x, sq, sc, hR, hS.val, by omega, rfl, fun t d ht => ⟨trivial, ?_⟩⟩
  dsimp only [mC]
  rw [ffz_nw ht]
  exact ⟨_, rfl, q⟩
theorem ful_at : ∀ {sz : List Nat} {cs : List (List Nat)} {f : Nat}, Val sz cs → f ≤ ful sz cs → (f < ful sz cs ↔ f < sz.length ∧ (pc cs f).length + 1 = pk sz f)
  | _, _, f, .nil, h => by
    have h0 : ful [] [] = 0 := rfl
    rw [h0] at h ⊢
    exact ⟨fun z => absurd z (by omega), fun z => absurd z.1 (by simp)⟩
  | s :: ss, c :: cs, 0, .cons _ hv, _ => by
    rw [ful]
    by_cases e : c.length + 1 = s
    · rw [if_pos e]
      exact ⟨fun _ => ⟨by rw [List.length_cons]; omega, e⟩, fun _ => by omega⟩
    · rw [if_neg e]
      exact ⟨fun z => absurd z (by omega), fun z => absurd z.2 e⟩
  | s :: ss, c :: cs, f + 1, .cons _ hv, h => by
    rw [ful] at h ⊢
    by_cases e : c.length + 1 = s
    · rw [if_pos e] at h ⊢
      have ih := ful_at (f := f) hv (by omega)
      rw [List.length_cons]
      refine ⟨fun z => ?_, fun z => ?_⟩
      · obtain ⟨a, b⟩ := ih.mp (by omega)
        exact ⟨by omega, b⟩
      · have := ih.mpr ⟨by omega, z.2⟩
        omega
    · rw [if_neg e] at h
      omega
def queL (sz fw : List Nat) (g : Nat → PySem.Str) (s : List Nat × List (List Nat)) (T : Nat) : R.D := .lst ((List.range (T + 1)).map fun t => sL g (R.adv sz fw t s).1)
def Emp (sz : List Nat) (e : List Nat) (K : Nat) : Prop := e.length = sz.length ∧ ∀ c, c < sz.length → (0 < pk e c ↔ c < K)
def F_law_simple_row (_ : Cs) : Spec1 := fun ss Q => ∃ ps, ss = [fz (.vol 0 ps)] ∧ ∀ sz fw, Row sz fw → Smp sz fw → Q (.nw (.tup [.leaf (nL sz), .leaf (nL fw)]))
def F_law_queues (_ : Cs) : Spec1 := fun ss Q => ∃ sz fw g q T, Row sz fw ∧ StOk sz fw g q (List.replicate sz.length []) ∧ T ≤ 400 ∧ ss = [fz (nL sz), fz (nL fw), fz (sL g q), fz (nI T)] ∧
  ∀ e, Emp sz e (KT sz fw (q, List.replicate sz.length []) T) → Q (.nw (.tup [.leaf (queL sz fw g (q, List.replicate sz.length []) T), .leaf (nL e)]))
def F_law_expected (_ : Cs) : Spec1 := fun ss Q => ∃ sz fw e K, sz.length ≤ 30 ∧ fw.length ≤ 30 ∧ K ≤ sz.length ∧ Emp sz e K ∧ ss = [fz (nL sz), fz (nL fw), fz (nL e)] ∧ Q (.nw (infT sz fw K))
def mskU (n : Nat) : List Bool := if 1 < n then true :: false :: true :: List.replicate (n - 1) false else [true, false]
def F_law_with_unit_cups (_ : Cs) : Spec1 := fun ss Q => ∃ sz fw, Row sz fw ∧ ss = [fz (nL sz), fz (nL fw)] ∧ Q (.nw (.tup [.lst ((uS (mskU sz.length) sz).map fun n => .leaf (nI n)), .lst ((uF (mskU sz.length) fw).map fun n => .leaf (nI n))]))
def F_law_lists_are_new (_ : Cs) : R.Spec := fun ss Q => ∃ a b c, a.length ≤ 100 ∧ b.length ≤ 100 ∧ ss = [some (.nw (tupT a b c))] ∧ ∀ x, Q (.fz (.bl true)) [some (.nw x)]
theorem uS_false : ∀ (l : List Nat), uS (List.replicate l.length false) l = l
  | [] => rfl
  | a :: l => by rw [List.length_cons, List.replicate_succ, uS, uS_false l]
theorem uF_false : ∀ (m : Nat) (l : List Nat), l.length ≤ m → uF (List.replicate m false) l = l
  | 0, [], _ => rfl
  | m + 1, [], _ => rfl
  | m + 1, a :: l, h => by rw [List.replicate_succ, uF, uF_false m l (by simpa using h)]
theorem mks_false : ∀ n, 1 ≤ n → Mks (List.replicate n false) n
  | 1, _ => .one
  | n + 2, _ => .cup (mks_false (n + 1) (by omega))
theorem mskU_ok {n : Nat} (h : 1 ≤ n) : Mks (mskU n) n := by
  unfold mskU
  split
  · have e := mks_false (n - 1) (by omega)
    have := Mks.unit (.cup (.unit e))
    rwa [show n - 1 + 1 = n by omega] at this
  · obtain rfl : n = 1 := by omega
    exact .unit .one
theorem mskU_many {sz fw : List Nat} (h : 1 < sz.length) (hf : fw.length + 1 = sz.length) : uS (mskU sz.length) sz = [1] ++ sz.take 1 ++ [1] ++ sz.drop 1 ∧ uF (mskU sz.length) fw = [0] ++ fw.take 1 ++ [0] ++ fw.drop 1 := by
  unfold mskU
  rw [if_pos h]
  match sz, fw, h, hf with
  | s :: sz, f :: fw, h, hf =>
    refine ⟨?_, ?_⟩
    · show 1 :: s :: 1 :: uS (List.replicate sz.length false) sz = _
      rw [uS_false] <;> rfl
    · show 0 :: f :: 0 :: uF (List.replicate sz.length false) fw = _
      rw [uF_false _ _ (by rw [List.length_cons, List.length_cons] at hf; omega)] <;> rfl
  | s :: sz, [], h, hf =>
    rw [List.length_cons] at h hf
    rw [List.length_nil] at hf
    omega
theorem mskU_one {sz fw : List Nat} (h : ¬ 1 < sz.length) (h0 : 0 < sz.length) (hf : fw.length + 1 = sz.length) : uS (mskU sz.length) sz = [1] ++ sz ∧ uF (mskU sz.length) fw = [0] := by
  unfold mskU
  rw [if_neg h]
  match sz, fw, h, h0, hf with
  | [s], [], _, _, _ => exact ⟨rfl, rfl⟩
  | [s], f :: fw, _, _, hf => simp at hf
  | s :: t :: sz, _, h, _, _ => exact absurd (by simp) h
theorem filter_pre {n K : Nat} (h : K ≤ n) : (List.range n).filter (fun c => decide (c < K)) = List.range K := by
  obtain ⟨m, rfl⟩ : ∃ m, n = K + m := ⟨n - K, by omega⟩
  rw [List.range_add, List.filter_append, List.filter_eq_self.mpr (fun c m => decide_eq_true (List.mem_range.mp m)), List.filter_eq_nil_iff.mpr, List.append_nil]
  intro c hc
  obtain ⟨d, _, rfl⟩ := List.mem_map.mp hc
  simp
theorem Emp.cnt {sz e : List Nat} {K : Nat} (h : Emp sz e K) (hK : K ≤ sz.length) : ((List.range e.length).filter (fun c => decide (0 < pk e c))).length = K := by
  have e1 : (List.range e.length).filter (fun c => decide (0 < pk e c)) = (List.range e.length).filter (fun c => decide (c < K)) := List.filter_congr fun c hc => by
    rw [h.1] at hc
    exact decide_eq_decide.mpr (h.2 c (List.mem_range.mp hc))
  rw [e1, h.1, filter_pre hK, List.length_range]
theorem Row.m {sz fw : List Nat} (h : Row sz fw) : RowM sz fw := ⟨h.l0, h.fl, fun s m => (h.s1 s m).1, h.fi⟩
theorem Row.ins {sz fw : List Nat} {m : List Bool} (h : Row sz fw) (k : Mks m sz.length) (hm : m.length ≤ 30) : Row (uS m sz) (uF m fw) := by
  have M := h.m.ins k
  have a := uS_len k rfl
  have b := sum_ins k rfl
  have c := h.sm
  exact ⟨M.l0, by omega, fun s hs => (s_ins k rfl s hs).elim (fun e => by omega) (h.s1 s), by omega, M.fl, M.fi⟩
theorem StOk.ins {sz fw : List Nat} {g : Nat → PySem.Str} {q : List Nat} {cts : List (List Nat)} {m : List Bool} (hR : Row sz fw) (h : StOk sz fw g q cts) (k : Mks m sz.length) : StOk (uS m sz) (uF m fw) g q (uK m cts) := by
  have e := val_len h.val
  have M := hR.m.ins k
  refine ⟨h.val.ins k rfl, by rw [memb_ins k e]; exact h.nms, ?_, by rw [tot_ins k e]; exact h.hi⟩
  rw [tot_ins k e, M.fl, least_ins k rfl, hR.lst]
  exact h.lo
theorem tup_same {a b : List Nat} {c neg : Bool} {x y : Rs} {Q : Rs → Prop} (hx : x.t = tupT a b c ∨ x.t = .leaf (.tup [nL a, nL b, .bl c])) (hy : y.t = tupT a b c ∨ y.t = .leaf (.tup [nL a, nL b, .bl c])) (q : Q (.fz (.bl (true != neg)))) : oEq neg x y Q := by
  have f : ∀ l : List Nat, (R.D.lst (l.map nI)).pd 7 = some (.list (l.map fun (k : Nat) => PyData.int (k : Int))) := fun l => by
    show (allOf (R.D.pd 6) (l.map nI)).map PyData.list = _
    rw [pd_ints] <;> rfl
  have t : ∀ l : List Nat, (OT.lst (l.map fun n => .leaf (nI n))).pd 7 = some (.list (l.map fun (k : Nat) => PyData.int (k : Int))) := fun l => by
    show (allOfT (OT.pd 6) (l.map fun n => OT.leaf (nI n))).map PyData.list = _
    rw [pdT_ints] <;> rfl
  have k1 : (R.D.tup [nL a, nL b, .bl c]).pd 8 = some (.tuple [.list (a.map fun (k : Nat) => PyData.int (k : Int)), .list (b.map fun (k : Nat) => PyData.int (k : Int)), .bool c]) := by
    show (allOf (R.D.pd 7) [.lst (a.map nI), .lst (b.map nI), .bl c]).map PyData.tuple = _
    rw [allOf, allOf, allOf, allOf, f, f] <;> rfl
  have k2 : (tupT a b c).pd 8 = some (.tuple [.list (a.map fun (k : Nat) => PyData.int (k : Int)), .list (b.map fun (k : Nat) => PyData.int (k : Int)), .bool c]) := by
    show (allOfT (OT.pd 7) [.lst (a.map fun n => .leaf (nI n)), .lst (b.map fun n => .leaf (nI n)), .leaf (.bl c)]).map PyData.tuple = _
    rw [allOfT, allOfT, allOfT, allOfT, t, t] <;> rfl
  refine oEq_same (d := .tup [nL a, nL b, .bl c]) k1 ?_ ?_ q
  · rcases hx with e | e <;> rw [e] <;> assumption
  · rcases hy with e | e <;> rw [e] <;> assumption
theorem tupT_fz (a b : List Nat) (c : Bool) : Fz (tupT a b c) (.tup [nL a, nL b, .bl c]) := .tup (.cons (by rw [leafs_nI]; exact fz_lst _) (.cons (by rw [leafs_nI]; exact fz_lst _) (.cons (.leaf _) .nil)))
theorem queL_sC (sz fw : List Nat) (g : Nat → PySem.Str) (s : List Nat × List (List Nat)) (T : Nat) : queL sz fw g s T = sC g ((List.range (T + 1)).map fun t => (R.adv sz fw t s).1) := by
  unfold queL sC
  rw [List.map_map] <;> rfl
theorem queL_take (sz fw : List Nat) (g : Nat → PySem.Str) (s : List Nat × List (List Nat)) {T k : Nat} (h : k ≤ T) : ((List.range (T + 1)).map fun t => sL g (R.adv sz fw t s).1).take (k + 1) = (List.range (k + 1)).map fun t => sL g (R.adv sz fw t s).1 := by
  rw [← List.map_take, List.take_range, Nat.min_eq_left (by omega)]
theorem tupT_fzd (a b : List Nat) (c : Bool) : (tupT a b c).fzd = some (.tup [nL a, nL b, .bl c]) := by
  unfold tupT
  rw [leafs_nI, leafs_nI, OT.fzd, fzdAll, fzdAll, fzdAll, fzdAll, fzd_lst, fzd_lst] <;> rfl
theorem tupT_ffz (a b : List Nat) (c : Bool) : (Rs.nw (tupT a b c)).ffz.t = .leaf (.tup [nL a, nL b, .bl c]) := by rw [ffz_nw (tupT_fzd a b c)] <;> rfl
theorem queL_ins {sz fw : List Nat} {m : List Bool} (hR : Row sz fw) (k : Mks m sz.length) (hv : Val sz (List.replicate sz.length [])) (g : Nat → PySem.Str) (q : List Nat) (T : Nat) : queL (uS m sz) (uF m fw) g (q, List.replicate (uS m sz).length []) T = queL sz fw g (q, List.replicate sz.length []) T := by
  unfold queL
  congr 1
  refine List.map_congr_left fun t _ => ?_
  rw [uS_len k rfl, ← nils_ins k, adv_ins hR.m k t hv]
theorem StOk.insN {sz fw : List Nat} {m : List Bool} {g : Nat → PySem.Str} {q : List Nat} (hR : Row sz fw) (k : Mks m sz.length) (h : StOk sz fw g q (List.replicate sz.length [])) : StOk (uS m sz) (uF m fw) g q (List.replicate (uS m sz).length []) := by
  have := StOk.ins hR h k
  rwa [nils_ins k, ← uS_len k rfl] at this
theorem mskU_len {n : Nat} (h : n < 29) : (mskU n).length ≤ 30 := by
  unfold mskU
  split
  · simp; omega
  · simp

theorem pk1 {f g : PySem.Str} {x t : OT} (h : f ≠ g) : R.putK g t [f] [x] = ([f, g], [x, t]) := by
  show (if f = g then _ else _) = _
  rw [if_neg h] <;> rfl
theorem pk2 {f g k : PySem.Str} {x y t : OT} (h : f ≠ k) (h2 : g ≠ k) : R.putK k t [f, g] [x, y] = ([f, g, k], [x, y, t]) := by
  show (if f = k then _ else (f :: (R.putK k t [g] [y]).1, x :: (R.putK k t [g] [y]).2)) = _
  rw [if_neg h, pk1 h2] <;> rfl
theorem pkc1 {x t : OT} : R.putK "forward_tuple" t (["size_tuple"] : List PySem.Str) [x] = ((["size_tuple", "forward_tuple"] : List PySem.Str), [x, t]) := pk1 (by decide)
theorem pkc2 {x y t : OT} : R.putK "weights" t (["size_tuple", "forward_tuple"] : List PySem.Str) [x, y] = ((["size_tuple", "forward_tuple", "weights"] : List PySem.Str), [x, y, t]) := pk2 (by decide) (by decide)
theorem pkb1 {x t : OT} : R.putK "orders" t (["cups"] : List PySem.Str) [x] = ((["cups", "orders"] : List PySem.Str), [x, t]) := pk1 (by decide)
theorem pkb2 {x y t : OT} : R.putK "visits" t (["cups", "orders"] : List PySem.Str) [x, y] = ((["cups", "orders", "visits"] : List PySem.Str), [x, y, t]) := pk2 (by decide) (by decide)
def m_is_name (cs : Cs) : DS := (mSeq (mIfS (mOr (mNot (mT (mUn (oIs "str") (mVar 0)))) (mNot (mT (mCh bLe bLe (mC (.int 1)) (mB oLen (mCons (mVar 0) mNil)) (mC (.int 8)))))) (mRet (mC (.bl false))) mNext) (mRet (mB oAll (mCons (mLc (mItS (mVar 0)) (gN 1) mYes (mOp (oInS false) (mVar 1) (mC (.str "abcdefghijklmnopqrstuvwxyz"))) [1]) mNil))))
def m_is_name_list (cs : Cs) : DS := (mRet (mAndV (mUn (oIs "list") (mVar 0)) (mB oAll (mCons (mLc (mItL (mVar 0)) (gN 1) mYes (mCall 1 (F_is_name cs) (mCons (mVar 1) mNil) []) [1]) mNil))))
def m_require (cs : Cs) : DS := (mIfS (mNot (mT (mVar 0))) mNever mNext)
def m_CupFinder_init (cs : Cs) : DS := (mSeq (mSetP cs.CupFinder "queue" (plN 0) (mB oList (mCons (mVar 1) mNil))) (mSeq (mSetP cs.CupFinder "known_sizes" (plN 0) (mLst mNil)) (mSeq (mSetP cs.CupFinder "known_indices" (plN 0) (mLst mNil)) (mSeq (mSetP cs.CupFinder "contents" (plN 0) (mLst (mCons (mLst mNil) mNil))) (mSetP cs.CupFinder "complete" (plN 0) (mC (.bl false)))))))
def m_CupFinder_observe (cs : Cs) : DS := (mSeq (mDrop (mCall 1 (F_require cs) (mCons (mOp (oEq true) (mFld cs.CupFinder "queue" (mVar 0)) (mLst mNil)) mNil) [])) (mSeq (mAppend (plI (plF cs.CupFinder "contents" (plN 0)) (mC (.int 0))) (mOp oIx (mFld cs.CupFinder "queue" (mVar 0)) (mC (.int 0)))) (mSeq (mSetP cs.CupFinder "queue" (plN 0) (mSl (mFld cs.CupFinder "queue" (mVar 0)) (mPart (mC (.int 1))) mNoP)) (mSeq (mAsgG (gN 2) (mFz (mC (.int 0)))) (mSeq (mWhile (mAnd (mT (mOp oLt (mVar 2) (mB oLen (mCons (mFld cs.CupFinder "known_sizes" (mVar 0)) mNil)))) (mT (mOp (oEq false) (mB oLen (mCons (mOp oIx (mFld cs.CupFinder "contents" (mVar 0)) (mVar 2)) mNil)) (mOp oIx (mFld cs.CupFinder "known_sizes" (mVar 0)) (mVar 2))))) (mSeq (mDropX (mMethV 2 cs.CupFinder "empty_known_cup" (F_CupFinder_empty_known_cup cs) 0 (mCons (mVar 2) mNil) [])) (mAug 2 oAddI (mC (.int 1))))) (mSeq (mAsgG (gN 3) (mFz (mSl (mVar 1) (mPart (mB oLen (mCons (mFld cs.CupFinder "queue" (mVar 0)) mNil))) mNoP))) (mSeq (mDrop (mCall 1 (F_require cs) (mCons (mOp (oEq false) (mSl (mVar 1) mNoP (mPart (mB oLen (mCons (mFld cs.CupFinder "queue" (mVar 0)) mNil)))) (mFld cs.CupFinder "queue" (mVar 0))) mNil) [])) (mSeq (mIfS (mT (mOp (oEq true) (mVar 3) (mLst mNil))) (mSeq (mDrop (mCall 1 (F_require cs) (mCons (mAndV (mNotV (mFld cs.CupFinder "complete" (mVar 0))) (mOp (oEq false) (mVar 2) (mB oLen (mCons (mFld cs.CupFinder "known_sizes" (mVar 0)) mNil)))) mNil) [])) (mDropX (mMethV 2 cs.CupFinder "learn_cup" (F_CupFinder_learn_cup cs) 0 (mCons (mVar 3) mNil) []))) mNext) (mSetP cs.CupFinder "queue" (plN 0) (mB oList (mCons (mVar 1) mNil)))))))))))
def m_CupFinder_empty_known_cup (cs : Cs) : DS := (mSeq (mTake 2 (plI (plF cs.CupFinder "contents" (plN 0)) (mVar 1))) (mSeq (mSetI (plF cs.CupFinder "contents" (plN 0)) (mVar 1) (mLst mNil)) (mSeq (mIfS (mT (mOp oLt (mOp oAdd (mVar 1) (mC (.int 1))) (mB oLen (mCons (mFld cs.CupFinder "contents" (mVar 0)) mNil)))) (mAppPop (plI (plF cs.CupFinder "contents" (plN 0)) (mOp oAdd (mVar 1) (mC (.int 1)))) 2 (mOp oIx (mFld cs.CupFinder "known_indices" (mVar 0)) (mVar 1))) mNext) (mSetP cs.CupFinder "queue" (plN 0) (mOp oAdd (mFld cs.CupFinder "queue" (mVar 0)) (mVar 2))))))
def m_CupFinder_learn_cup (cs : Cs) : DS := (mSeq (mTake 2 (plI (plF cs.CupFinder "contents" (plN 0)) (mUn oNeg (mC (.int 1))))) (mSeq (mAppend (plF cs.CupFinder "known_sizes" (plN 0)) (mB oLen (mCons (mVar 2) mNil))) (mSeq (mSetI (plF cs.CupFinder "contents" (plN 0)) (mUn oNeg (mC (.int 1))) (mLst mNil)) (mSeq (mIfS (mT (mOp (oEq false) (mVar 1) (mVar 2))) (mSeq (mSetP cs.CupFinder "complete" (plN 0) (mC (.bl true))) mRetN) mNext) (mSeq (mAsgG (gN 3) (mFz (mLc (mItR1 (mB oLen (mCons (mVar 2) mNil))) (gN 5) (mT (mOp (oEq false) (mSl (mVar 1) mNoP (mPart (mOp oSub (mB oLen (mCons (mVar 2) mNil)) (mC (.int 1))))) (mOp oAdd (mSl (mVar 2) mNoP (mPart (mVar 5))) (mSl (mVar 2) (mPart (mOp oAdd (mVar 5) (mC (.int 1)))) mNoP)))) (mVar 5) [5]))) (mSeq (mDrop (mCall 1 (F_require cs) (mCons (mAndV (mOp (oEq true) (mVar 3) (mLst mNil)) (mOp oLe (mB oLen (mCons (mVar 1) mNil)) (mB oLen (mCons (mVar 2) mNil)))) mNil) [])) (mSeq (mAppend (plF cs.CupFinder "known_indices" (plN 0)) (mOp oIx (mVar 3) (mC (.int 0)))) (mSeq (mAsgG (gN 4) (mFz (mOp oIx (mVar 2) (mOp oIx (mVar 3) (mC (.int 0)))))) (mIfS (mT (mOp (oEq false) (mB oLen (mCons (mVar 1) mNil)) (mB oLen (mCons (mVar 2) mNil)))) (mSeq (mDrop (mCall 1 (F_require cs) (mCons (mOp (oEq false) (mOp oIx (mVar 1) (mUn oNeg (mC (.int 1)))) (mVar 4)) mNil) [])) (mSeq (mAppend (plF cs.CupFinder "known_sizes" (plN 0)) (mC (.int 1))) (mSeq (mAppend (plF cs.CupFinder "contents" (plN 0)) (mLst mNil)) (mSetP cs.CupFinder "complete" (plN 0) (mC (.bl true)))))) (mAppend (plF cs.CupFinder "contents" (plN 0)) (mLst (mCons (mVar 4) mNil))))))))))))
def m_CupFinder_check_limits (cs : Cs) : DS := (mSeq (mAsgG (gN 2) (mFz (mOp oAdd (mFld cs.CupFinder "known_sizes" (mVar 0)) (mOp oMul (mLst (mCons (mOp oAdd (mB oLen (mCons (mOp oIx (mFld cs.CupFinder "contents" (mVar 0)) (mUn oNeg (mC (.int 1)))) mNil)) (mC (.int 1))) mNil)) (mB oInt1 (mCons (mNotV (mFld cs.CupFinder "complete" (mVar 0))) mNil)))))) (mSeq (mDrop (mCall 1 (F_require cs) (mCons (mAndV (mOp oLe (mB oLen (mCons (mVar 2) mNil)) (mC (.int 30))) (mOp oLe (mB oMaxL (mCons (mVar 2) mNil)) (mC (.int 9)))) mNil) [])) (mDrop (mCall 1 (F_require cs) (mCons (mOp oLe (mOp oSub (mB oSum (mCons (mVar 2) mNil)) (mB oLen (mCons (mVar 2) mNil))) (mB oMin2 (mCons (mC (.int 30)) (mCons (mOp oSub (mVar 1) (mC (.int 1))) mNil)))) mNil) []))))
def m_infer_cups (cs : Cs) : DS := (mSeq (mDrop (mCall 1 (F_require cs) (mCons (mAndV (mUn (oIs "list") (mVar 0)) (mCh bLe bLe (mC (.int 1)) (mB oLen (mCons (mVar 0) mNil)) (mC (.int 400)))) mNil) [])) (mSeq (mDrop (mCall 1 (F_require cs) (mCons (mB oAll (mCons (mLc (mItL (mVar 0)) (gN 3) mYes (mCall 1 (F_is_name_list cs) (mCons (mVar 3) mNil) []) [3]) mNil)) mNil) [])) (mSeq (mAsgG (gN 1) (mFz (mOp oIx (mVar 0) (mC (.int 0))))) (mSeq (mDrop (mCall 1 (F_require cs) (mCons (mAndV (mCh bLe bLe (mC (.int 1)) (mB oLen (mCons (mVar 1) mNil)) (mC (.int 40))) (mOp (oEq false) (mLenSet (mVar 1)) (mB oLen (mCons (mVar 1) mNil)))) mNil) [])) (mSeq (mAsgG (gN 2) (mMake 2 cs.CupFinder (F_CupFinder_init cs) (mCons (mVar 1) mNil) [])) (mSeq (mFor (mItL (mSl (mVar 0) (mPart (mC (.int 1))) mNoP)) (gN 3) (mSeq (mDropX (mMethV 2 cs.CupFinder "observe" (F_CupFinder_observe cs) 2 (mCons (mVar 3) mNil) [])) (mDrop (mMeth 2 cs.CupFinder "check_limits" (F_CupFinder_check_limits cs) (mVar 2) (mCons (mB oLen (mCons (mVar 1) mNil)) mNil) [])))) (mRetFl 2 cs.CupFinder ["known_sizes", "known_indices", "complete"])))))))
def m_law_cell_at (cs : Cs) : DS := (mSeq (mIfS (mT (mOp oLt (mVar 1) (mB oLen (mCons (mVar 0) mNil)))) (mRet (mOp oIx (mVar 0) (mVar 1))) mNext) (mRet (mC (.int 0))))
def m_law_mixed (cs : Cs) : DS := (mSeq (mAsgG (gN 2) (mFz (mOp oAdd (mOp oMod (mB oInt1 (mCons (mVar 0) mNil)) (mC (.int 2147483629))) (mOp oMul (mOp oDiv (mVar 0) (mC (.int 2147483629))) (mC (.int 30011)))))) (mSeq (mAsgG (gN 2) (mFz (mOp oMod (mB oInt1 (mCons (mOp oMul (mOp oAdd (mOp oAdd (mVar 2) (mOp oMul (mC (.int 69621)) (mVar 1))) (mC (.int 1))) (mC (.int 48271))) mNil)) (mC (.int 2147483629))))) (mSeq (mAsgG (gN 2) (mFz (mOp oMod (mB oInt1 (mCons (mOp oMul (mVar 2) (mOp oAdd (mOp oAdd (mOp oDiv (mVar 2) (mC (.int 907))) (mC (.int 16831))) (mVar 1))) mNil)) (mC (.int 2147483587))))) (mRet (mOp oMod (mB oInt1 (mCons (mOp oMul (mVar 2) (mOp oAdd (mOp oDiv (mVar 2) (mC (.int 1201))) (mC (.int 30011)))) mNil)) (mC (.int 2147483563)))))))
def m_law_source (cs : Cs) : DS := (mSeq (mIfS (mT (mOp oLt (mVar 1) (mB oLen (mCons (mVar 0) mNil)))) (mRet (mSrc (mLst (mCons (mOp oIx (mVar 0) (mVar 1)) (mCons (mOp oIx (mVar 0) (mVar 1)) (mCons (mC (.int 0)) mNil)))))) mNext) (mSeq (mAsgG (gN 2) (mFz (mCall 2 (F_law_mixed cs) (mCons (mCall 2 (F_law_cell_at cs) (mCons (mVar 0) (mCons (mC (.int 0)) mNil)) []) (mCons (mOp oAdd (mC (.int 1000)) (mVar 1)) mNil)) []))) (mRet (mSrc (mLst (mCons (mVar 2) (mCons (mVar 2) (mCons (mC (.int 0)) mNil))))))))
def m_law_draw (cs : Cs) : DS := (mSeq (mIfS (mT (mOp oGe (mOp oIx (mVar 0) (mC (.int 0))) (mOp oPow (mC (.int 10)) (mC (.int 18))))) (mSeq (mAsgG (gN 2) (mFz (mOp oMod (mB oInt1 (mCons (mOp oIx (mVar 0) (mC (.int 0))) mNil)) (mVar 1)))) (mSeq (mSetVol (mVar 0) (mC (.int 0)) (mOp oDiv (mOp oIx (mVar 0) (mC (.int 0))) (mVar 1))) (mRet (mVar 2)))) mNext) (mSeq (mSetVol (mVar 0) (mC (.int 2)) (mOp oAdd (mOp oIx (mVar 0) (mC (.int 2))) (mC (.int 1)))) (mRet (mOp oMod (mB oInt1 (mCons (mCall 2 (F_law_mixed cs) (mCons (mOp oIx (mVar 0) (mC (.int 1))) (mCons (mOp oIx (mVar 0) (mC (.int 2))) mNil)) []) mNil)) (mVar 1)))))
def m_law_pick (cs : Cs) : DS := (mRet (mOp oIx (mVar 1) (mCall 2 (F_law_draw cs) (mCons (mVar 0) (mCons (mB oLen (mCons (mVar 1) mNil)) mNil)) [])))
def m_law_name (cs : Cs) : DS := (mSeq (mAsgG (gN 1) (mFz (mC (.str "")))) (mSeq (mWhile (mT (mOp oGe (mVar 0) (mC (.int 0)))) (mSeq (mAsgG (gN 1) (mFz (mOp oAdd (mOp oIx (mC (.str "abcdefghijklmnopqrstuvwxyz")) (mOp oMod (mB oInt1 (mCons (mVar 0) mNil)) (mC (.int 26)))) (mVar 1)))) (mAsgG (gN 0) (mFz (mOp oSub (mOp oDiv (mVar 0) (mC (.int 26))) (mC (.int 1))))))) (mRet (mVar 1))))
def m_law_names (cs : Cs) : DS := (mSeq (mAsgG (gN 2) (mFz (mOp oIx (mLst (mCons (mC (.int 0)) (mCons (mC (.int 20)) (mCons (mC (.int 700)) (mCons (mC (.int 18000)) mNil))))) (mCall 2 (F_law_draw cs) (mCons (mVar 0) (mCons (mC (.int 4)) mNil)) [])))) (mSeq (mAsgG (gN 3) (mFz (mOp oIx (mLst (mCons (mC (.int 1)) (mCons (mC (.int 3)) (mCons (mC (.int 7)) (mCons (mC (.int 11)) mNil))))) (mCall 2 (F_law_draw cs) (mCons (mVar 0) (mCons (mC (.int 4)) mNil)) [])))) (mSeq (mIfS (mT (mOp (oEq false) (mOp oMod (mB oInt1 (mCons (mVar 1) mNil)) (mVar 3)) (mC (.int 0)))) (mAsgG (gN 3) (mFz (mC (.int 1)))) mNext) (mRet (mLc (mItR1 (mVar 1)) (gN 4) mYes (mCall 1 (F_law_name cs) (mCons (mOp oAdd (mVar 2) (mOp oMod (mB oInt1 (mCons (mOp oMul (mVar 4) (mVar 3)) mNil)) (mVar 1))) mNil) []) [4])))))
def m_law_row (cs : Cs) : DS := (mSeq (mAsgG (gN 2) (mFz (mCall 2 (F_law_pick cs) (mCons (mVar 0) (mCons (mLst (mCons (mC (.int 1)) (mCons (mC (.int 2)) (mCons (mC (.int 3)) (mCons (mC (.int 9)) (mCons (mC (.int 9)) mNil)))))) mNil)) []))) (mSeq (mAsgG (gN 3) (mLst mNil)) (mSeq (mAsgG (gN 4) (mFz (mVar 1))) (mSeq (mFor (mItR1 (mOp oAdd (mC (.int 1)) (mCall 2 (F_law_draw cs) (mCons (mVar 0) (mCons (mOp oIx (mLst (mCons (mC (.int 3)) (mCons (mC (.int 6)) (mCons (mC (.int 30)) mNil)))) (mCall 2 (F_law_draw cs) (mCons (mVar 0) (mCons (mC (.int 3)) mNil)) [])) mNil)) []))) (gN 5) (mSeq (mAsgG (gN 6) (mFz (mOp oAdd (mC (.int 1)) (mCall 2 (F_law_draw cs) (mCons (mVar 0) (mCons (mB oMin3 (mCons (mVar 2) (mCons (mOp oAdd (mVar 4) (mC (.int 1))) (mCons (mC (.int 9)) mNil)))) mNil)) [])))) (mSeq (mAppend (plN 3) (mVar 6)) (mAsgG (gN 4) (mFz (mOp oAdd (mOp oSub (mVar 4) (mVar 6)) (mC (.int 1)))))))) (mFzS 3 (mRet (mTup (mCons (mVar 3) (mCons (mLc (mItL (mSl (mVar 3) mNoP (mPart (mUn oNeg (mC (.int 1)))))) (gN 6) mYes (mCall 2 (F_law_draw cs) (mCons (mVar 0) (mCons (mVar 6) mNil)) []) [6]) mNil)))))))))
def m_law_member_count (cs : Cs) : DS := (mSeq (mAsgG (gN 2) (mFz (mOp oAdd (mOp oSub (mB oSum (mCons (mVar 1) mNil)) (mB oLen (mCons (mVar 1) mNil))) (mC (.int 1))))) (mRet (mOp oAdd (mVar 2) (mCall 2 (F_law_draw cs) (mCons (mVar 0) (mCons (mOp oIx (mLst (mCons (mC (.int 1)) (mCons (mB oMin2 (mCons (mC (.int 4)) (mCons (mOp oSub (mC (.int 41)) (mVar 2)) mNil))) (mCons (mOp oSub (mC (.int 41)) (mVar 2)) mNil)))) (mCall 2 (F_law_draw cs) (mCons (mVar 0) (mCons (mC (.int 3)) mNil)) [])) mNil)) []))))
def m_law_step (cs : Cs) : DS := (mSeq (mAsgG (gN 3) (mB oList (mCons (mOp oIx (mVar 2) (mC (.int 0))) mNil))) (mSeq (mAsgG (gN 4) (mLc (mItL (mOp oIx (mVar 2) (mC (.int 1)))) (gN 7) mYes (mB oList (mCons (mVar 7) mNil)) [7])) (mSeq (mAppPop (plI (plN 4) (mC (.int 0))) 3 (mC (.int 0))) (mSeq (mFor (mItE (mVar 0)) (gT [(gN 5), (gN 6)]) (mSeq (mIfS (mT (mOp oLt (mB oLen (mCons (mOp oIx (mVar 4) (mVar 5)) mNil)) (mVar 6))) (mFzS 4 (mFzS 3 (mRet (mTup (mCons (mTup (mCons (mVar 3) (mCons (mVar 4) mNil))) (mCons (mC .non) mNil)))))) mNext) (mSeq (mTake 7 (plI (plN 4) (mVar 5))) (mSeq (mSetI (plN 4) (mVar 5) (mLst mNil)) (mSeq (mIfS (mT (mOp (oEq false) (mVar 5) (mOp oSub (mB oLen (mCons (mVar 0) mNil)) (mC (.int 1))))) (mFzS 7 (mFzS 4 (mRet (mTup (mCons (mTup (mCons (mOp oAdd (mVar 3) (mVar 7)) (mCons (mVar 4) mNil))) (mCons (mVar 7) mNil)))))) mNext) (mSeq (mAppend (plI (plN 4) (mOp oAdd (mVar 5) (mC (.int 1)))) (mOp oIx (mVar 7) (mOp oIx (mVar 1) (mVar 5)))) (mAsgG (gN 3) (mOp oAdd (mOp oAdd (mVar 3) (mSl (mVar 7) mNoP (mPart (mOp oIx (mVar 1) (mVar 5))))) (mSl (mVar 7) (mPart (mOp oAdd (mOp oIx (mVar 1) (mVar 5)) (mC (.int 1)))) mNoP))))))))) (mRet (mC .non))))))
def m_law_queues (cs : Cs) : DS := (mSeq (mAsgG (gN 4) (mFz (mTup (mCons (mVar 2) (mCons (mLc (mItL (mVar 0)) (gN 9) mYes (mLst mNil) [9]) mNil))))) (mSeq (mAsgG (gN 5) (mLst (mCons (mVar 2) mNil))) (mSeq (mAsgG (gN 6) (mOp oMul (mLst (mCons (mC (.int 0)) mNil)) (mB oLen (mCons (mVar 0) mNil)))) (mSeq (mFor (mItR1 (mVar 3)) (gN 7) (mSeq (mAsgG (gN 8) (mFz (mC (.int 0)))) (mSeq (mWhile (mAnd (mT (mOp oLt (mVar 8) (mB oLen (mCons (mVar 0) mNil)))) (mT (mOp (oEq false) (mOp oAdd (mB oLen (mCons (mOp oIx (mOp oIx (mVar 4) (mC (.int 1))) (mVar 8)) mNil)) (mC (.int 1))) (mOp oIx (mVar 0) (mVar 8))))) (mSeq (mSetI (plN 6) (mVar 8) (mOp oAdd (mOp oIx (mVar 6) (mVar 8)) (mC (.int 1)))) (mAsgG (gN 8) (mFz (mOp oAdd (mVar 8) (mC (.int 1))))))) (mSeq (mAsgG (gN 4) (mFz (mOp oIx (mCall 3 (F_law_step cs) (mCons (mVar 0) (mCons (mVar 1) (mCons (mVar 4) mNil))) []) (mC (.int 0))))) (mAppend (plN 5) (mOp oIx (mVar 4) (mC (.int 0)))))))) (mFzS 6 (mFzS 5 (mRet (mTup (mCons (mVar 5) (mCons (mVar 6) mNil))))))))))
def m_law_simple_row (cs : Cs) : DS := (mSeq (mAsgG (gT [(gN 1), (gN 2)]) (mCall 2 (F_law_row cs) (mCons (mVar 0) (mCons (mC (.int 30)) mNil)) [])) (mSeq (mAsgG (gN 1) (mFz (mLc (mItL (mVar 1)) (gN 3) (mT (mOp oGt (mVar 3) (mC (.int 1)))) (mVar 3) [3]))) (mSeq (mIfS (mT (mOp (oEq false) (mVar 1) (mLst mNil))) (mAsgG (gN 1) (mFz (mLst (mCons (mCall 2 (F_law_pick cs) (mCons (mVar 0) (mCons (mLst (mCons (mC (.int 1)) (mCons (mC (.int 2)) (mCons (mC (.int 2)) (mCons (mC (.int 3)) mNil))))) mNil)) []) mNil)))) mNext) (mSeq (mAsgG (gN 2) (mLc (mItL (mSl (mVar 1) mNoP (mPart (mUn oNeg (mC (.int 1)))))) (gN 3) mYes (mCall 2 (F_law_draw cs) (mCons (mVar 0) (mCons (mVar 3) mNil)) []) [3])) (mSeq (mIfS (mAnd (mT (mOp oGt (mOp oIx (mVar 1) (mUn oNeg (mC (.int 1)))) (mC (.int 1)))) (mAnd (mT (mOp oLt (mB oLen (mCons (mVar 1) mNil)) (mC (.int 30)))) (mT (mOp (oEq false) (mCall 2 (F_law_draw cs) (mCons (mVar 0) (mCons (mC (.int 3)) mNil)) []) (mC (.int 0)))))) (mSeq (mAppend (plN 2) (mCall 2 (F_law_draw cs) (mCons (mVar 0) (mCons (mOp oSub (mOp oIx (mVar 1) (mUn oNeg (mC (.int 1)))) (mC (.int 1))) mNil)) [])) (mAsgG (gN 1) (mFz (mOp oAdd (mVar 1) (mLst (mCons (mC (.int 1)) mNil)))))) mNext) (mFzS 2 (mRet (mTup (mCons (mVar 1) (mCons (mVar 2) mNil))))))))))
def m_law_expected (cs : Cs) : DS := (mSeq (mAsgG (gN 3) (mFz (mB oLen (mCons (mLc (mItL (mVar 2)) (gN 4) (mT (mOp oGt (mVar 4) (mC (.int 0)))) (mVar 4) [4]) mNil)))) (mRet (mTup (mCons (mSl (mVar 0) mNoP (mPart (mVar 3))) (mCons (mSl (mVar 1) mNoP (mPart (mVar 3))) (mCons (mOp (oEq false) (mVar 3) (mB oLen (mCons (mVar 0) mNil))) mNil))))))
def m_law_with_unit_cups (cs : Cs) : DS := (mSeq (mIfS (mT (mOp oGt (mB oLen (mCons (mVar 0) mNil)) (mC (.int 1)))) (mRet (mTup (mCons (mOp oAdd (mOp oAdd (mOp oAdd (mLst (mCons (mC (.int 1)) mNil)) (mSl (mVar 0) mNoP (mPart (mC (.int 1))))) (mLst (mCons (mC (.int 1)) mNil))) (mSl (mVar 0) (mPart (mC (.int 1))) mNoP)) (mCons (mOp oAdd (mOp oAdd (mOp oAdd (mLst (mCons (mC (.int 0)) mNil)) (mSl (mVar 1) mNoP (mPart (mC (.int 1))))) (mLst (mCons (mC (.int 0)) mNil))) (mSl (mVar 1) (mPart (mC (.int 1))) mNoP)) mNil)))) mNext) (mRet (mTup (mCons (mOp oAdd (mLst (mCons (mC (.int 1)) mNil)) (mVar 0)) (mCons (mLst (mCons (mC (.int 0)) mNil)) mNil)))))
def m_law_lists_are_new (cs : Cs) : DS := (mSeq (mAsgG (gN 1) (mFz (mB oList (mCons (mOp oIx (mVar 0) (mC (.int 1))) mNil)))) (mSeq (mAppend (plT (plN 0) (mC (.int 0))) (mC (.int 0))) (mSeq (mIfS (mOr (mT (mOp (oEq true) (mOp oIx (mVar 0) (mC (.int 1))) (mVar 1))) (mNot (mT (mUn (oIs "bool") (mOp oIx (mVar 0) (mC (.int 2))))))) (mRet (mC (.bl false))) mNext) (mSeq (mAppend (plT (plN 0) (mC (.int 1))) (mC (.int 0))) (mRet (mC (.bl true)))))))
def m_law (cs : Cs) : DS := (mSeq (mFor (mItR1 (mB oMax2 (mCons (mC (.int 1)) (mCons (mB oMin2 (mCons (mC (.int 4)) (mCons (mB oLen (mCons (mVar 0) mNil)) mNil))) mNil)))) (gN 1) (mSeq (mAsgG (gN 2) (mFz (mCall 2 (F_law_source cs) (mCons (mVar 0) (mCons (mVar 1) mNil)) []))) (mSeq (mAsgG (gT [(gN 3), (gN 4)]) (mFz (mCall 1 (F_law_simple_row cs) (mCons (mVar 2) mNil) []))) (mSeq (mAsgG (gN 5) (mFz (mCall 2 (F_law_names cs) (mCons (mVar 2) (mCons (mCall 2 (F_law_member_count cs) (mCons (mVar 2) (mCons (mVar 3) mNil)) []) mNil)) []))) (mSeq (mAsgG (gN 6) (mFz (mCall 2 (F_law_draw cs) (mCons (mVar 2) (mCons (mOp oIx (mLst (mCons (mC (.int 10)) (mCons (mC (.int 40)) (mCons (mC (.int 121)) mNil)))) (mCall 2 (F_law_draw cs) (mCons (mVar 2) (mCons (mC (.int 3)) mNil)) [])) mNil)) []))) (mSeq (mIfS (mAnd (mT (mOp (oEq false) (mVar 1) (mC (.int 0)))) (mT (mOp (oEq false) (mCall 2 (F_law_draw cs) (mCons (mVar 2) (mCons (mC (.int 2)) mNil)) []) (mC (.int 0))))) (mAsgG (gN 6) (mFz (mC (.int 399)))) mNext) (mSeq (mAsgG (gT [(gN 7), (gN 8)]) (mFz (mCall 4 (F_law_queues cs) (mCons (mVar 3) (mCons (mVar 4) (mCons (mVar 5) (mCons (mVar 6) mNil)))) []))) (mSeq (mAsgG (gN 9) (mFz (mLc (mItL (mVar 7)) (gN 16) mYes (mB oList (mCons (mVar 16) mNil)) [16]))) (mSeq (mAsgG (gN 10) (mCall 1 (F_infer_cups cs) (mCons (mVar 9) mNil) [])) (mSeq (mIfS (mOr (mT (mOp (oEq true) (mVar 10) (mCall 3 (F_law_expected cs) (mCons (mVar 3) (mCons (mVar 4) (mCons (mVar 8) mNil))) []))) (mT (mOp (oEq true) (mVar 9) (mVar 7)))) (mRet (mC (.bl false))) mNext) (mSeq (mIfOrN (mCallV 1 (F_law_lists_are_new cs) [10] mNil []) (mCall1N (F_law_lists_are_new cs) (mCall 1 (F_infer_cups cs) (mCons (mSl (mVar 7) mNoP (mPart (mC (.int 1)))) mNil) [])) (mRet (mC (.bl false))) mNext) (mSeq (mIfS (mT (mOp (oEq true) (mCall 1 (F_infer_cups cs) (mCons (mVar 7) mNil) []) (mCall 3 (F_law_expected cs) (mCons (mVar 3) (mCons (mVar 4) (mCons (mVar 8) mNil))) []))) (mRet (mC (.bl false))) mNext) (mSeq (mIfS (mT (mOp oLt (mB oLen (mCons (mVar 3) mNil)) (mC (.int 29)))) (mSeq (mAsgG (gT [(gN 11), (gN 12)]) (mFz (mCall 2 (F_law_with_unit_cups cs) (mCons (mVar 3) (mCons (mVar 4) mNil)) []))) (mIfS (mT (mOp (oEq true) (mOp oIx (mCall 4 (F_law_queues cs) (mCons (mVar 11) (mCons (mVar 12) (mCons (mVar 5) (mCons (mVar 6) mNil)))) []) (mC (.int 0))) (mVar 7))) (mRet (mC (.bl false))) mNext)) mNext) (mSeq (mAsgG (gN 13) (mFz (mCall 2 (F_law_draw cs) (mCons (mVar 2) (mCons (mOp oAdd (mVar 6) (mC (.int 1))) mNil)) []))) (mSeq (mAsgG (gN 14) (mFz (mCall 1 (F_infer_cups cs) (mCons (mSl (mVar 7) mNoP (mPart (mOp oAdd (mVar 13) (mC (.int 1))))) mNil) []))) (mSeq (mAsgG (gN 15) (mFz (mCall 3 (F_law_expected cs) (mCons (mVar 3) (mCons (mVar 4) (mCons (mOp oIx (mCall 4 (F_law_queues cs) (mCons (mVar 3) (mCons (mVar 4) (mCons (mVar 5) (mCons (mVar 13) mNil)))) []) (mC (.int 1))) mNil))) []))) (mIfS (mOr (mT (mOp (oEq true) (mVar 14) (mVar 15))) (mT (mOp (oEq true) (mSl (mVar 3) mNoP (mPart (mB oLen (mCons (mOp oIx (mVar 14) (mC (.int 0))) mNil)))) (mOp oIx (mVar 14) (mC (.int 0)))))) (mRet (mC (.bl false))) mNext))))))))))))))))) (mRet (mC (.bl true))))
theorem wp_is_name (cs : Cs) (ss : R.Env) (Q : Rs → R.Env → Prop) (h : (F_is_name cs).io ss Q) : m_is_name cs (ss ++ List.replicate 1 none) { nx := fun e => Q (.fz .non) (outs [] 1 e), rt := fun r e => Q r (outs [] 1 e) } := by
  obtain ⟨z, ok, rfl, h⟩ := h
  have l1 := ok.l1
  have l8 := ok.l8
  have hl := len_cps z
  unfold m_is_name
  refine s_seq fun K hK => ?_
  refine mIfS_ff (fun P hP => mOr_ff (fun P hP => ⟨_, rfl, _, rfl, hP⟩) (fun P hP => mNot_tt (fun P hP => mT_tt (fun Q hQ => mCh_tt (i := 1) (j := (z.length : Nat)) (k := 8) (fun P hP => hP) (fun P hP => ⟨_, rfl, by rw [hl]; unfold sizeL; omega, hP⟩) (fun P hP => hP) (decide_eq_true (by omega)) (decide_eq_true (by omega)) hQ) hP) hP) hP) (hK _ ?_)
  clear hK
  refine all_lc (z.cps.toList.map fun c => Rs.fz (.str ⟨#[c]⟩)) (fun Q' q => ⟨_, rfl, z, rfl, q⟩) (by rw [List.length_map]; unfold sizeL; omega) (fun k r hr P hP => ?_) ⟨trivial, h⟩
  rw [List.getElem?_map] at hr
  cases e : z.cps.toList[k]? with
  | none => rw [e] at hr; cases hr
  | some c =>
    rw [e] at hr
    cases hr
    have hc := ok.lt c (List.mem_of_getElem? e)
    refine ⟨trivial, rfl, _, rfl, c, abc, rfl, rfl, ?_⟩
    rw [abc_eq, decide_eq_true (List.mem_range'_1.mpr (by omega))]
    exact hP

theorem wp_is_name_list (cs : Cs) (ss : R.Env) (Q : Rs → R.Env → Prop) (h : (F_is_name_list cs).io ss Q) : m_is_name_list cs (ss ++ List.replicate 1 none) { nx := fun e => Q (.fz .non) (outs [] 1 e), rt := fun r e => Q r (outs [] 1 e) } := by
  obtain ⟨g, l, r, hr, ok, hl, rfl, h⟩ := h
  unfold m_is_name_list
  refine mAndV_tt (fun P hP => ⟨_, rfl, ?_⟩) ?_
  · rcases hr with rfl | rfl
    · exact ⟨_, rfl, hP⟩
    · exact ⟨_, rfl, hP⟩
  refine all_lc ((l.map (nS g)).map Rs.fz) (fun Q' q => it_S rfl hr q) (by rw [List.length_map, List.length_map]; unfold sizeL; omega) (fun k r hr P hP => ?_) ⟨trivial, h⟩
  obtain ⟨hk, rfl⟩ := get_nS hr
  exact ⟨trivial, rfl, _, rfl, rfl, g (pk l k), ok _ (pk_mem hk), rfl, trivial, hP⟩

theorem wp_require (cs : Cs) (ss : R.Env) (Q : Rs → R.Env → Prop) (h : (F_require cs).io ss Q) : m_require cs (ss ++ List.replicate 0 none) { nx := fun e => Q (.fz .non) (outs [] 1 e), rt := fun r e => Q r (outs [] 1 e) } := by
  obtain ⟨rfl, h⟩ := h
  exact mIfS_ff (fun P hP => mNot_tt (fun P hP => ⟨_, rfl, hP⟩) hP) h

theorem wp_CupFinder_init (cs : Cs) (ss : R.Env) (Q : Rs → R.Env → Prop) (h : F_CupFinder_init cs ss Q) : m_CupFinder_init cs (ss ++ List.replicate 0 none) { nx := fun e => Q (.fz .non) (outs [0] 2 e), rt := fun r e => Q r (outs [0] 2 e) } := by
  obtain ⟨g, q, rfl, h⟩ := h
  unfold m_CupFinder_init
  have e : (OT.lst ((q.map (nS g)).map .leaf)) = .lst (q.map fun n => .leaf (nS g n)) := by rw [List.map_map] <;> rfl
  refine s_seq fun K hK => ?_
  refine ⟨_, rfl, ⟨_, rfl⟩, _, _, _, rfl, rfl, by show 0 < 1000; omega, rfl, hK _ ?_⟩
  clear hK
  rw [e]
  refine s_seq fun K hK => ?_
  refine ⟨[], rfl, Nat.zero_le _, ⟨_, rfl⟩, _, _, _, rfl, rfl, by show 1 < 1000; omega, rfl, hK _ ?_⟩
  clear hK
  refine s_seq fun K hK => ?_
  refine ⟨[], rfl, Nat.zero_le _, ⟨_, rfl⟩, _, _, _, rfl, rfl, by show 2 < 1000; omega, rfl, hK _ ?_⟩
  clear hK
  refine s_seq fun K hK => ?_
  refine ⟨[], rfl, Nat.zero_le _, [.lst []], rfl, by show 1 ≤ sizeL; unfold sizeL; omega, ⟨_, rfl⟩, _, _, _, rfl, rfl, by show 3 < 1000; omega, rfl, hK _ ?_⟩
  clear hK
  exact ⟨⟨_, rfl⟩, _, _, _, rfl, rfl, by show 4 < 1000; omega, rfl, h⟩

theorem wp_CupFinder_observe (cs : Cs) (ss : R.Env) (Q : Rs → R.Env → Prop) (h : F_CupFinder_observe cs ss Q) : m_CupFinder_observe cs (ss ++ List.replicate 2 none) { nx := fun e => Q (.fz .non) (outs [0] 2 e), rt := fun r e => Q r (outs [0] 2 e) } := by
  obtain ⟨g, sz, fw, x0, q0, cts, k, hR, hSm, hS, hk, hN, rfl, h⟩ := h
  have hfl := hR.fl
  have hl0 := hR.l0
  have h30 := hR.l1
  have hvl := val_len hS.val
  have hnm := hS.nms
  have hnd := hS.mnd
  have hcnt := hS.hi
  have hS' := hS.step hR
  generalize hM : memb (x0 :: q0) cts = M at *
  generalize hCS : csc sz fw cts x0 q0 = CS at *
  have hlenM : ∀ (q : List Nat) (old : List Nat) (x : Nat) (post : List (List Nat)), (q ++ ((old ++ [x]) ++ post.flatten)).Perm M → q.length + old.length + 1 ≤ 40 := fun q old x post p => by
    have e1 := p.length_eq
    have e2 : M.length = (x0 :: q0).length + totM cts := by rw [← hM, memb, List.length_append, totM_flat]
    rw [List.length_append, List.length_append, List.length_append, List.length_singleton] at e1
    omega
  obtain ⟨c0, cs0, rfl⟩ : ∃ c cs, cts = c :: cs := by
    cases cts with
    | nil => simp at hvl; omega
    | cons c cs => exact ⟨c, cs, rfl⟩
  have hL0 : Lp sz fw M (c0 :: cs0) CS 0 c0 cs0 x0 q0 := ⟨hl0, rfl, by rw [← hCS]; rfl, by rw [Nat.zero_add]; rfl, by
    rw [← hM]
    show (q0 ++ ((c0 ++ [x0]) ++ cs0.flatten)).Perm ((x0 :: q0) ++ (c0 ++ cs0.flatten))
    refine (List.Perm.append_left q0 ((List.perm_append_comm (l₁ := c0) (l₂ := [x0])).append_right cs0.flatten)).trans ?_
    show (q0 ++ (x0 :: (c0 ++ cs0.flatten))).Perm (x0 :: (q0 ++ (c0 ++ cs0.flatten)))
    exact List.perm_middle⟩
  have hb0 := hlenM _ _ _ _ hL0.pm
  unfold m_CupFinder_observe
  refine s_seq fun K hK => ?_
  refine cf_ne (q := q0) rfl (fun n m => hnm.ok n (by rw [← hM]; exact List.mem_append_left _ m)) ⟨rfl, rfl, trivial, hK _ ?_⟩
  clear hK
  show mSeq _ _ [some (.nw (cfT cs g (x0 :: q0) (sz.take k) (fw.take k) (c0 :: cs0.take k) (decide (k = sz.length)))), fz (sL g CS.2), none, none] _
  refine s_seq fun K hK => ?_
  refine ⟨⟨_, rfl⟩, cfN, _, 3, rfl, rfl, _, 0, rfl, ixN_nat (j := 0) (by rw [ownS_len, List.length_cons]; omega), c0.map (fun n => .leaf (nS g n)), rfl, by rw [List.length_map]; unfold sizeL; omega, _, rfl, cfN, _, _, rfl, rfl, _, .leaf (nS g x0), rfl, at_nat (j := 0) rfl, _, rfl, hK _ ?_⟩
  clear hK
  show mSeq _ _ [some (.nw (.ins cs.CupFinder cfN [.lst ((x0 :: q0).map fun n => .leaf (nS g n)), .lst ((sz.take k).map fun n => .leaf (nI n)), .lst ((fw.take k).map fun n => .leaf (nI n)), .lst (.lst ((c0.map fun n => OT.leaf (nS g n)) ++ [.leaf (nS g x0)]) :: ownS g (cs0.take k)), .leaf (.bl (decide (k = sz.length)))])), fz (sL g CS.2), none, none] _
  rw [snoc_nS]
  refine s_seq fun K hK => ?_
  show mSetP _ _ _ _ [some (.nw (cfT cs g (x0 :: q0) (sz.take k) (fw.take k) ((c0 ++ [x0]) :: cs0.take k) (decide (k = sz.length)))), fz (sL g CS.2), none, none] _
  have ecut : cut' ((x0 :: q0).map (nS g)) (some (1 : Int)) none = q0.map (nS g) := by rw [show (some (1 : Int)) = some ((1 : Nat) : Int) from rfl, cutB] <;> rfl
  refine ⟨_, rfl, cfN, _, _, rfl, rfl, (x0 :: q0).map (nS g), leaves_nS g (x0 :: q0), ⟨_, rfl⟩, _, cfN, _, rfl, rfl, by show 5 < 1000; omega, rfl, ?_⟩
  rw [ecut, ← leafs_nS]
  refine hK _ ?_
  clear hK
  show mSeq _ _ [some (.nw (cfT cs g q0 (sz.take k) (fw.take k) ((c0 ++ [x0]) :: cs0.take k) (decide (k = sz.length)))), fz (sL g CS.2), none, none] _
  refine s_seq fun K hK => ?_
  refine ⟨trivial, hK _ ?_⟩
  clear hK
  refine s_seq fun K hK => ?_
  have okM : ∀ n ∈ M, NameOk (g n) := hnm.ok
  have hfin0 : ∀ (q ks ki : List Nat) (ct : List (List Nat)) (c : Bool) (j : Nat), CS.2 = q → (∀ n ∈ q, n ∈ M) → Q (.fz .non) [some (.nw (cfT cs g q ks ki ct c)), none] → K [some (.nw (cfT cs g q ks ki ct c)), fz (sL g CS.2), fz (nI j), none] := fun q ks ki ct c j e hq hz => by
    refine hK _ ?_
    clear hK
    rw [e]
    refine s_seq fun K hK => ?_
    refine cf_ret (q := q) (l := q) (r := []) rfl rfl (by simp) ⟨trivial, hK _ ?_⟩
    clear hK
    refine s_seq fun K hK => ?_
    refine cf_pre (q := q) (l := q) rfl rfl List.take_length (fun n m => okM n (hq n m)) ⟨rfl, rfl, trivial, hK _ ?_⟩
    clear hK
    refine s_seq fun K hK => ?_
    refine mIfS_ff (fun P hP => ⟨_, rfl, [], rfl, Nat.zero_le _, ?_⟩) (hK _ ?_)
    · show oEq true (.fz (sL g [])) (Rs.nw (.lst (([] : List R.D).map .leaf))).ffz _
      rw [ffz_lst]
      exact oEq_row (g := g) (l := []) (.inl rfl) (fun n m => by cases m) hP
    clear hK
    refine ⟨_, rfl, ⟨_, rfl⟩, _, cfN, _, rfl, rfl, by show 5 < 1000; omega, rfl, ?_⟩
    rw [← leafs_nS]
    exact hz
  refine ⟨fun m e => (∃ j old post x q, m + j = k + 1 ∧ j ≤ k ∧ Lp sz fw M (c0 :: cs0) CS j old post x q ∧ e = [some (.nw (cfT cs g q (sz.take k) (fw.take k) (List.replicate j [] ++ (old ++ [x]) :: post.take (k - j)) (decide (k = sz.length)))), fz (sL g CS.2), fz (nI j), none]) ∨
    (m = 0 ∧ k = sz.length ∧ ∃ q, CS = (List.replicate k [], q) ∧ q.Perm M ∧ e = [some (.nw (cfT cs g q (sz.take k) (fw.take k) (List.replicate k []) (decide (k = sz.length)))), fz (sL g CS.2), fz (nI k), none]),
    ⟨k + 1, .inl ⟨0, c0, cs0, x0, q0, rfl, Nat.zero_le _, hL0, rfl⟩⟩, fun m e he => ?_⟩
  rcases he with ⟨j, old, post, x, q, hm, hjk, hL, rfl⟩ | ⟨rfl, hkl, q, hCq, hqM, rfl⟩
  · have hb := hlenM _ _ _ _ hL.pm
    have hjl := hL.lt
    have hrl : (old ++ [x]).length = old.length + 1 := by rw [List.length_append, List.length_singleton]
    have hpl : (List.replicate j ([] : List Nat)).length = j := List.length_replicate
    have hat : (ownS g (List.replicate j [] ++ (old ++ [x]) :: post.take (k - j)))[j]? = some (.lst ((old ++ [x]).map fun n => .leaf (nS g n))) := by
      have e := ownS_at (g := g) (p := List.replicate j []) (c := old ++ [x]) (r := post.take (k - j))
      rwa [hpl] at e
    have hpost : post.length + (j + 1) = sz.length := by
      have e := congrArg List.length hL.dr
      simp only [List.length_drop, List.length_cons] at e hvl
      omega
    have hv : old.length < pk sz j := by
      have v := val_dropN j hS.val
      rw [hL.dr, drop_pk hjl] at v
      cases v with | cons a _ => exact a
    refine mAnd_of (decide (j < k)) (decide (old.length + 1 = pk sz j)) (fun P hP => ⟨_, rfl, _, rfl, cfN, _, _, rfl, rfl, _, rfl, trivial, ?_⟩) (fun hlt P hP => ?_) ?_
    · show P (decide ((j : Int) < ((((sz.take k).map fun n => OT.leaf (nI n)).length : Nat) : Int)))
      rw [List.length_map, List.length_take, Nat.min_eq_left hk, show decide ((j : Int) < (k : Int)) = decide (j < k) from decide_eq_decide.mpr (by omega)]
      exact hP
    · have hlt := of_decide_eq_true hlt
      have hsat : ((sz.take k).map fun n => OT.leaf (nI n))[j]? = some (.leaf (nI (pk sz j))) := by
        rw [List.getElem?_map, List.getElem?_take_of_lt hlt, List.getElem?_eq_getElem hjl, pk_lt hjl] <;> rfl
      refine ⟨_, rfl, cfN, _, _, rfl, rfl, _, rfl, _, _, rfl, at_nat hat, _, rfl, _, rfl, cfN, _, _, rfl, rfl, _, rfl, _, _, rfl, at_nat hsat, ?_⟩
      show oEq false (.fz (.int (((old ++ [x]).map fun n => OT.leaf (nS g n)).length : Nat))) (.fz (.int (pk sz j : Nat))) _
      rw [w_eq_int, List.length_map, hrl, Bool.bne_false, show decide (((old.length + 1 : Nat) : Int) = (pk sz j : Nat)) = decide (old.length + 1 = pk sz j) from decide_eq_decide.mpr (by omega)]
      exact hP
    by_cases hgo : j < k ∧ old.length + 1 = pk sz j
    · rw [decide_eq_true hgo.1, decide_eq_true hgo.2]
      show if true = true then _ else _
      rw [if_pos rfl]
      refine s_seq fun K2 hK2 => ?_
      refine ⟨cfN, _, rfl, by decide, _, _, rfl, _, rfl, [nI j], rfl, rfl, g, q, sz.take k, fw.take k, List.replicate j [], old ++ [x], post.take (k - j), decide (k = sz.length), by omega, by omega, by rw [hpl] <;> rfl, ?_⟩
      cases post with
      | nil =>
        have hjz : j + 1 = sz.length := by simpa using hpost
        obtain rfl : k = j + 1 := by omega
        refine .inl ⟨by simp, ?_⟩
        refine hK2 _ ?_
        clear hK2
        refine ⟨_, rfl, trivial, trivial, 0, by omega, .inr ⟨rfl, by omega, q ++ (old ++ [x]), ?_, ?_, ?_⟩⟩
        · rw [hL.cs, csc_end hjz (by omega), List.replicate_succ']
        · have := hL.pm
          simpa using this
        · rw [List.replicate_succ'] <;> rfl
      | cons nxt post2 =>
        have hj2 : j + 1 < sz.length := by rw [List.length_cons] at hpost; omega
        have hfi := hR.fi j (by omega)
        have hkj : k - j = (k - (j + 1)) + 1 := by omega
        refine .inr ⟨nxt, post2.take (k - (j + 1)), by rw [hkj] <;> rfl, ?_, ?_, ?_, ?_⟩
        · have := hlenM _ _ _ _ (hL.next hgo.2 hj2 hfi).pm
          omega
        · rw [hpl, List.length_take]; omega
        · rw [hpl, pk_take hgo.1 (by omega)]; omega
        · rw [hpl, pk_take hgo.1 (by omega)]
          refine hK2 _ ?_
          clear hK2
          refine ⟨_, rfl, trivial, trivial, k - j, by omega, .inl ⟨j + 1, nxt, post2, _, _, by omega, by omega, hL.next hgo.2 hj2 hfi, ?_⟩⟩
          rw [List.replicate_succ', List.append_assoc] <;> rfl
    · rw [show (decide (j < k) && decide (old.length + 1 = pk sz j)) = false by
        by_cases z : j < k
        · rw [decide_eq_false (fun w => hgo ⟨z, w⟩), Bool.and_false]
        · rw [decide_eq_false z, Bool.false_and]]
      show if false = true then _ else _
      rw [if_neg Bool.false_ne_true]
      have hqM : ∀ n ∈ q, n ∈ M := fun n m => hL.pm.mem_iff.mp (List.mem_append_left _ m)
      have hrM : ∀ n ∈ old ++ [x], n ∈ M := fun n m => hL.pm.mem_iff.mp (List.mem_append_right _ (List.mem_append_left _ m))
      by_cases hfull : old.length + 1 = pk sz j
      · -- the next cup is full
        obtain rfl : j = k := by omega
        have hrow : (old ++ [x]).length = pk sz j := by rw [hrl]; exact hfull
        have h9 := (hR.s1 _ (pk_mem hjl)).2
        have hdec : decide (j = sz.length) = false := decide_eq_false (by omega)
        have hks : (sz.take j).length = j := by rw [List.length_take]; omega
        have hndr : (old ++ [x]).Nodup := by
          have e := (hL.pm.nodup_iff.mpr hnd)
          exact (List.nodup_append.mp (List.nodup_append.mp e).2.1).1
        rw [Nat.sub_self, List.take_zero, hdec]
        have hfin1 : ∀ (ret ks' ki' : List Nat) (ct' : List (List Nat)) (c' : Bool), ret ≠ [] → CS.2 = q ++ ret → (∀ n ∈ ret, n ∈ M) →
            (∀ Q2 : Rs → R.Env → Prop, Q2 (.fz .non) [some (.nw (cfT cs g q ks' ki' ct' c')), none] → F_CupFinder_learn_cup cs [some (.nw (cfT cs g q (sz.take j) (fw.take j) (List.replicate j [] ++ [old ++ [x]]) false)), fz (sL g ret)] Q2) →
            Q (.fz .non) [some (.nw (cfT cs g CS.2 ks' ki' ct' c')), none] → K [some (.nw (cfT cs g q (sz.take j) (fw.take j) (List.replicate j [] ++ [old ++ [x]]) false)), fz (sL g CS.2), fz (nI j), none] := fun ret ks' ki' ct' c' hne e hretM hlearn hz => by
          refine hK _ ?_
          clear hK
          rw [e]
          refine s_seq fun K hK => ?_
          refine cf_ret (q := q) (l := q ++ ret) (r := ret) rfl rfl (by simp) ⟨trivial, hK _ ?_⟩
          clear hK
          refine s_seq fun K hK => ?_
          refine cf_pre (q := q) (l := q ++ ret) rfl rfl (by simp) (fun n m => okM n (hqM n m)) ⟨rfl, rfl, trivial, hK _ ?_⟩
          clear hK
          refine s_seq fun K hK => ?_
          have hie : ret.isEmpty = false := by cases ret with | nil => exact absurd rfl hne | cons => rfl
          refine if_of true (fun P hP => ⟨_, rfl, [], rfl, Nat.zero_le _, ?_⟩) (fun _ => ?_) (fun z => by cases z)
          · show oEq true (.fz (sL g ret)) (Rs.nw (.lst (([] : List R.D).map .leaf))).ffz _
            rw [ffz_lst]
            refine oEq_row (g := g) (l := ret) (.inl rfl) (fun n m => okM n (hretM n m)) ?_
            rw [hie]
            exact hP
          · refine s_seq fun K2 hK2 => ?_
            refine ⟨_, rfl, cfN, _, _, rfl, rfl, ?_⟩
            show if true = true then _ else _
            rw [if_pos rfl]
            refine ⟨_, rfl, _, rfl, cfN, _, _, rfl, rfl, _, rfl, ?_⟩
            show oEq false (.fz (.int (j : Nat))) (.fz (.int ((((sz.take j).map fun n => OT.leaf (nI n)).length : Nat) : Int))) _
            rw [w_eq_int, List.length_map, hks]
            refine ⟨rfl, by rw [decide_eq_true rfl] <;> rfl, trivial, hK2 _ ?_⟩
            clear hK2
            refine ⟨cfN, _, rfl, by decide, _, _, rfl, _, rfl, [sL g ret], rfl, rfl, hlearn _ (hK _ ?_)⟩
            clear hK
            show mSetP _ _ _ _ [some (.nw (cfT cs g q ks' ki' ct' c')), fz (sL g (q ++ ret)), fz (nI j), fz (sL g ret)] _
            refine ⟨_, rfl, ⟨_, rfl⟩, _, cfN, _, rfl, rfl, by show 5 < 1000; omega, rfl, ?_⟩
            rw [← leafs_nS, ← e]
            exact hz
        have hpre : (List.replicate j ([] : List Nat)).length ≤ 40 := by rw [hpl]; omega
        have hks40 : (sz.take j).length ≤ 40 := by omega
        have hki40 : (fw.take j).length ≤ 40 := by rw [List.length_take]; omega
        have htk : sz.take (j + 1) = sz.take j ++ [(old ++ [x]).length] := by rw [take_snoc hjl, hrow]
        have hcs := hL.cs
        have hfu := hL.fu
        rw [ful_drop hjl, if_pos hfull] at hfu
        cases post with
        | nil =>
          have hjz : j + 1 = sz.length := by simpa using hpost
          rw [csc_end hjz (by omega)] at hcs
          have hfu2 : ful sz (c0 :: cs0) = j + 1 := by
            rw [hfu, List.drop_eq_nil_of_le (by omega)] <;> rfl
          refine hfin1 (old ++ [x]) (sz.take j ++ [(old ++ [x]).length]) (fw.take j) (List.replicate j [] ++ [[]]) true (by simp) (by rw [hcs]) hrM (fun Q2 q2 => ⟨g, M, q, _, _, _, old ++ [x], old ++ [x], hnm, hrM, hndr, by omega, by omega, hks40, hki40, hpre, rfl, .inl ⟨rfl, q2⟩⟩) ?_
          rw [hfu2, show max j (j + 1) = j + 1 by omega] at h
          have e1 : CS.1.take (j + 1 + 1) = List.replicate j [] ++ [[]] := by rw [hcs]; exact List.take_of_length_le (by simp)
          have e2 : fw.take (j + 1) = fw.take j := by rw [List.take_of_length_le (by omega), List.take_of_length_le (by omega)]
          unfold fnd at h
          rw [e1, e2, htk, decide_eq_true hjz] at h
          exact h
        | cons nxt post2 =>
          have hj2 : j + 1 < sz.length := by rw [List.length_cons] at hpost; omega
          have hfi := hR.fi j (by omega)
          have hbig := hSm.big j hj2
          obtain rfl : nxt = [] := by
            have e := hN (j + 1) (by omega)
            have e2 := congrArg (fun l => pc l 1) hL.dr
            have e3 : pc ((c0 :: cs0).drop j) 1 = pc (c0 :: cs0) (j + 1) := by
              unfold pc
              rw [List.getD_eq_getElem?_getD, List.getD_eq_getElem?_getD, List.getElem?_drop]
            have e4 : pc (old :: nxt :: post2) 1 = nxt := rfl
            rw [← e4, ← e2, e3, e]
          have hpl2 : post2.length + (j + 2) = sz.length := by rw [List.length_cons] at hpost; omega
          have hfw : fw.take (j + 1) = fw.take j ++ [pk fw j] := take_snoc (by omega)
          have hel : ((old ++ [x]).eraseIdx (pk fw j)).length = old.length := by rw [List.length_eraseIdx, if_pos (by omega)]; omega
          have hye : ∀ n ∈ (old ++ [x]).eraseIdx (pk fw j), n ∈ M := fun n m => hrM n ((dropm_nd hndr (by omega)).2.1 n m)
          rw [csc_next hj2 (by omega)] at hcs
          by_cases h2 : 1 < pk sz (j + 1)
          · rw [csc_stop hj2 (by simpa using h2)] at hcs
            have hfu2 : ful sz (c0 :: cs0) = j + 1 := by
              rw [hfu, ful_drop hj2, if_neg (by simp; omega)]
            refine hfin1 ((old ++ [x]).eraseIdx (pk fw j)) (sz.take j ++ [(old ++ [x]).length]) (fw.take j ++ [pk fw j]) (List.replicate j [] ++ [[], [pk (old ++ [x]) (pk fw j)]]) false (fun z => by rw [z] at hel; simp at hel; omega) (by rw [hcs]) hye (fun Q2 q2 => ⟨g, M, q, _, _, _, old ++ [x], _, hnm, hrM, hndr, by omega, by omega, hks40, hki40, hpre, rfl, .inr ⟨pk fw j, by omega, by omega, .inl ⟨rfl, q2⟩⟩⟩) ?_
            rw [hfu2, show max j (j + 1) = j + 1 by omega] at h
            have e1 : CS.1.take (j + 1 + 1) = List.replicate j [] ++ [[], [pk (old ++ [x]) (pk fw j)]] := by
              rw [hcs]
              show (List.replicate j [] ++ [] :: [pk (old ++ [x]) (pk fw j)] :: post2).take (j + 1 + 1) = _
              rw [List.take_append, hpl, List.take_of_length_le (by rw [hpl]; omega), show j + 1 + 1 - j = 2 by omega] <;> rfl
            unfold fnd at h
            rw [e1, hfw, htk, decide_eq_false (show j + 1 ≠ sz.length by omega)] at h
            exact h
          · have hs1 : pk sz (j + 1) = 1 := by
              have := (hR.s1 _ (pk_mem hj2)).1
              omega
            have hj3 : j + 2 = sz.length := by
              refine Classical.byContradiction fun z => ?_
              have := hSm.big (j + 1) (by omega)
              omega
            obtain rfl : post2 = [] := List.eq_nil_of_length_eq_zero (by omega)
            have hlst := hSm.lst (by omega) (by rw [show sz.length - 1 = j + 1 by omega]; exact hs1)
            rw [show sz.length - 2 = j by omega] at hlst
            rw [csc_end hj3 (by simp; omega)] at hcs
            have hfu2 : ful sz (c0 :: cs0) = j + 2 := by
              rw [hfu, ful_drop hj2, if_pos (by simp; omega), List.drop_eq_nil_of_le (by omega)] <;> rfl
            have hym := hrM _ (pk_mem (l := old ++ [x]) (i := pk fw j) (by omega))
            refine hfin1 ((old ++ [x]).eraseIdx (pk fw j) ++ [pk (old ++ [x]) (pk fw j)]) (sz.take j ++ [(old ++ [x]).length, 1]) (fw.take j ++ [pk fw j]) (List.replicate j [] ++ [[], []]) true (by simp) (by rw [hcs, List.append_assoc] <;> rfl) (fun n m => (List.mem_append.mp m).elim (hye n) fun m => by rw [List.mem_singleton.mp m]; exact hym) (fun Q2 q2 => ⟨g, M, q, _, _, _, old ++ [x], _, hnm, hrM, hndr, by omega, by omega, hks40, hki40, hpre, rfl, .inr ⟨pk fw j, by omega, by omega, .inr ⟨rfl, by omega, q2⟩⟩⟩) ?_
            rw [hfu2, show max j (j + 2) = j + 2 by omega] at h
            have e1 : CS.1.take (j + 2 + 1) = List.replicate j [] ++ [[], []] := by rw [hcs]; exact List.take_of_length_le (by simp)
            have e2 : fw.take (j + 2) = fw.take j ++ [pk fw j] := by rw [← hfw, List.take_of_length_le (by omega), List.take_of_length_le (by omega)]
            have e3 : sz.take (j + 2) = sz.take j ++ [(old ++ [x]).length, 1] := by
              rw [show j + 2 = (j + 1) + 1 by omega, take_snoc hj2, htk, hs1, List.append_assoc] <;> rfl
            unfold fnd at h
            rw [e1, e2, e3, decide_eq_true hj3] at h
            exact h
      · have hst := csc_stop (fw := fw.drop j) (x := x) (q := q) (post := post) hjl (show old.length + 1 < pk sz j by omega)
        have hcs := hL.cs
        rw [hst] at hcs
        have hfu := hL.fu
        rw [ful_drop hjl, if_neg hfull, Nat.add_zero] at hfu
        have e2 : CS.2 = q := by rw [hcs]
        refine hfin0 q _ _ _ _ j e2 hqM ?_
        rw [hfu, Nat.max_eq_left hjk, e2] at h
        have e1 : CS.1.take (k + 1) = List.replicate j [] ++ (old ++ [x]) :: post.take (k - j) := by
          rw [hcs]
          show (List.replicate j [] ++ (old ++ [x]) :: post).take (k + 1) = _
          rw [List.take_append, hpl, List.take_of_length_le (by rw [hpl]; omega), show k + 1 - j = (k - j) + 1 by omega] <;> rfl
        unfold fnd at h
        rw [e1] at h
        exact h
  · refine mAnd_of false false (fun P hP => ⟨_, rfl, _, rfl, cfN, _, _, rfl, rfl, _, rfl, trivial, ?_⟩) (fun z => by cases z) ?_
    · show P (decide ((k : Int) < ((((sz.take k).map fun n => OT.leaf (nI n)).length : Nat) : Int)))
      rw [List.length_map, List.length_take, Nat.min_eq_left hk, decide_eq_false (by omega)]
      exact hP
    show if false = true then _ else _
    rw [if_neg Bool.false_ne_true]
    have e2 : CS.2 = q := by rw [hCq]
    refine hfin0 q _ _ _ _ k e2 (fun n m => hqM.mem_iff.mp m) ?_
    have hmax : max k (ful sz (c0 :: cs0)) = k := Nat.max_eq_left (by rw [hkl]; exact ful_le)
    rw [hmax, e2] at h
    have e1 : CS.1.take (k + 1) = List.replicate k [] := by rw [hCq]; exact List.take_of_length_le (by rw [List.length_replicate]; omega)
    unfold fnd at h
    rw [e1] at h
    exact h

theorem wp_CupFinder_empty_known_cup (cs : Cs) (ss : R.Env) (Q : Rs → R.Env → Prop) (h : F_CupFinder_empty_known_cup cs ss Q) : m_CupFinder_empty_known_cup cs (ss ++ List.replicate 1 none) { nx := fun e => Q (.fz .non) (outs [0] 2 e), rt := fun r e => Q r (outs [0] 2 e) } := by
  obtain ⟨g, q, ks, ki, pre, row, rest, c, hq, hr, rfl, h⟩ := h
  unfold m_CupFinder_empty_known_cup
  have hln : pre.length < (ownS g (pre ++ row :: rest)).length := by rw [ownS_len, List.length_append, List.length_cons]; omega
  have hset : ((ownS g (pre ++ row :: rest)).set pre.length (.leaf .any)).set pre.length (.lst []) = ownS g (pre ++ [] :: rest) := by
    rw [List.set_set]
    exact ownS_set (d := [])
  have hp1 : (cfT cs g q ks ki (pre ++ row :: rest) c).put [3, pre.length] (.leaf .any) = .ins cs.CupFinder cfN [.lst (q.map fun n => .leaf (nS g n)), .lst (ks.map fun n => .leaf (nI n)), .lst (ki.map fun n => .leaf (nI n)), .lst ((ownS g (pre ++ row :: rest)).set pre.length (.leaf .any)), .leaf (.bl c)] := by
    unfold cfT
    rw [put_kid (t := .ins cs.CupFinder cfN _) (c := .lst (ownS g (pre ++ row :: rest))) rfl, put_kid (t := .lst (ownS g (pre ++ row :: rest))) ownS_at]
    rfl
  refine s_seq fun K hK => ?_
  refine ⟨⟨_, rfl⟩, cfN, _, 3, rfl, rfl, _, rfl, _, pre.length, rfl, ixN_nat hln, by decide, .lst (row.map fun n => .leaf (nS g n)), tree_at rfl ?_, rfl, hK _ ?_⟩
  · show ((ownS g (pre ++ row :: rest))[pre.length]?).bind _ = _
    rw [ownS_at]
    rfl
  clear hK
  show mSeq _ _ [some (.nw ((cfT cs g q ks ki (pre ++ row :: rest) c).put [3, pre.length] (.leaf .any))), fz (nI pre.length), some (.nw (.lst (row.map fun n => .leaf (nS g n))))] _
  rw [hp1]
  refine s_seq fun K hK => ?_
  refine ⟨[], rfl, Nat.zero_le _, ⟨_, rfl⟩, cfN, _, 3, rfl, rfl, _, rfl, _, pre.length, _, rfl, rfl, ixN_nat (by rw [List.length_set]; exact hln), hK _ ?_⟩
  clear hK
  show mSeq _ _ [some (.nw (.ins cs.CupFinder cfN [.lst (q.map fun n => .leaf (nS g n)), .lst (ks.map fun n => .leaf (nI n)), .lst (ki.map fun n => .leaf (nI n)), .lst (((ownS g (pre ++ row :: rest)).set pre.length (.leaf .any)).set pre.length (.lst [])), .leaf (.bl c)])), fz (nI pre.length), some (.nw (.lst (row.map fun n => .leaf (nS g n))))] _
  rw [hset]
  show mSeq _ _ [some (.nw (cfT cs g q ks ki (pre ++ [] :: rest) c)), fz (nI pre.length), some (.nw (.lst (row.map fun n => .leaf (nS g n))))] _
  have happ : ∀ (row2 : List Nat) (ct : List (List Nat)) (Z : DK), row2.length ≤ 64 → Z.nx [some (.nw (cfT cs g (q ++ row2) ks ki ct c)), fz (nI pre.length), some (.nw (.lst (row2.map fun n => .leaf (nS g n))))] →
      mSetP cs.CupFinder "queue" (plN 0) (mOp oAdd (mFld cs.CupFinder "queue" (mVar 0)) (mVar 2)) [some (.nw (cfT cs g q ks ki ct c)), fz (nI pre.length), some (.nw (.lst (row2.map fun n => .leaf (nS g n))))] Z := fun row2 ct Z h2 hz => by
    have e : (q.map fun n => OT.leaf (nS g n)) = (q.map (nS g)).map .leaf := leafs_nS g q
    refine ⟨_, rfl, cfN, _, _, rfl, rfl, _, rfl, ?_⟩
    refine .inl ⟨q.map (nS g), row2.map (nS g), leaves_nS g q, ?_, by rw [List.length_map, List.length_map]; unfold sizeL; omega, ⟨_, rfl⟩, _, cfN, _, rfl, rfl, by show 5 < 1000; omega, rfl, ?_⟩
    · exact leaves_nS g row2
    have e2 : ((q.map (nS g) ++ row2.map (nS g)).map .leaf) = ((q ++ row2).map fun n => OT.leaf (nS g n)) := by rw [leafs_nS g (q ++ row2), List.map_append (f := nS g)] <;> rfl
    rw [e2]
    exact hz
  refine s_seq fun K hK => ?_
  rcases h with ⟨rfl, h⟩ | ⟨nxt, rest2, rfl, hn, hki, hf, h⟩
  · refine mIfS_ff (fun P hP => ⟨_, rfl, _, rfl, cfN, _, _, rfl, rfl, _, rfl, trivial, ?_⟩) (hK _ ?_)
    · rw [ownS_len, List.length_append, List.length_singleton]
      show P (decide (((pre.length : Int) + 1) < ((pre.length + 1 : Nat) : Int)))
      rw [decide_eq_false (by omega)]
      exact hP
    clear hK
    exact happ row _ _ hr h
  · refine if_of true (fun P hP => ⟨_, rfl, _, rfl, cfN, _, _, rfl, rfl, _, rfl, trivial, ?_⟩) (fun _ => ?_) (fun z => by cases z)
    · rw [ownS_len, List.length_append, List.length_cons, List.length_cons]
      show P (decide (((pre.length : Int) + 1) < ((pre.length + (rest2.length + 1 + 1) : Nat) : Int)))
      rw [decide_eq_true (by omega)]
      exact hP
    have hpp : pre ++ [] :: nxt :: rest2 = (pre ++ [[]]) ++ nxt :: rest2 := by rw [List.append_assoc] <;> rfl
    have hpl1 : (pre ++ [[]]).length = pre.length + 1 := by rw [List.length_append, List.length_singleton]
    have hat2 : (ownS g (pre ++ [] :: nxt :: rest2))[pre.length + 1]? = some (.lst (nxt.map fun n => .leaf (nS g n))) := by
      have e := ownS_at (g := g) (p := pre ++ [[]]) (c := nxt) (r := rest2)
      rw [hpl1, ← hpp] at e
      exact e
    have e9 : (OT.leaf (nS g (pk row (pk ki pre.length)))) = .leaf (nS g (pk row (pk ki pre.length))) := rfl
    refine ⟨⟨_, rfl⟩, cfN, _, 3, rfl, rfl, _, rfl, _, pre.length + 1, rfl, ixN_nat (j := pre.length + 1) (by rw [ownS_len, List.length_append, List.length_cons, List.length_cons]; omega), by decide, nxt.map (fun n => .leaf (nS g n)), row.map (fun n => .leaf (nS g n)), tree_at rfl ?_, rfl, by rw [List.length_map]; unfold sizeL; omega, ?_⟩
    · show ((ownS g (pre ++ [] :: nxt :: rest2))[pre.length + 1]?).bind _ = _
      rw [hat2]
      rfl
    have hkat : (ki.map fun n => OT.leaf (nI n))[pre.length]? = some (.leaf (nI (pk ki pre.length))) := by rw [List.getElem?_map, List.getElem?_eq_getElem hki, pk_lt hki] <;> rfl
    have hrat : (row.map fun n => OT.leaf (nS g n))[pk ki pre.length]? = some (.leaf (nS g (pk row (pk ki pre.length)))) := by rw [List.getElem?_map, List.getElem?_eq_getElem hf, pk_lt hf] <;> rfl
    refine ⟨_, rfl, cfN, _, _, rfl, rfl, _, rfl, _, _, rfl, at_nat hkat, _, _, _, rfl, by omega, by omega, ixN_nat (by rw [List.length_map]; exact hf), hrat, hK _ ?_⟩
    clear hK
    have hp2 : (cfT cs g q ks ki (pre ++ [] :: nxt :: rest2) c).put [3, pre.length + 1] (.lst (nxt.map (fun n => OT.leaf (nS g n)) ++ [.leaf (nS g (pk row (pk ki pre.length)))])) = cfT cs g q ks ki (pre ++ [] :: (nxt ++ [pk row (pk ki pre.length)]) :: rest2) c := by
      unfold cfT
      rw [put_kid (t := .ins cs.CupFinder cfN _) (c := .lst (ownS g (pre ++ [] :: nxt :: rest2))) rfl, put_kid (t := .lst (ownS g (pre ++ [] :: nxt :: rest2))) hat2, snoc_nS]
      have e2 := ownS_set (g := g) (p := pre ++ [[]]) (c := nxt) (d := nxt ++ [pk row (pk ki pre.length)]) (r := rest2)
      rw [hpl1, ← hpp] at e2
      show OT.ins cs.CupFinder cfN [_, _, _, .lst ((ownS g (pre ++ [] :: nxt :: rest2)).set (pre.length + 1) (.lst ((nxt ++ [pk row (pk ki pre.length)]).map fun n => .leaf (nS g n)))), _] = _
      rw [e2, List.append_assoc]
      rfl
    have he : (row.map fun n => OT.leaf (nS g n)).eraseIdx (pk ki pre.length) = (row.eraseIdx (pk ki pre.length)).map fun n => .leaf (nS g n) := by
      rw [List.eraseIdx_eq_take_drop_succ, List.eraseIdx_eq_take_drop_succ, List.map_append, List.map_take, List.map_drop]
    show mSetP _ _ _ _ [some (.nw ((cfT cs g q ks ki (pre ++ [] :: nxt :: rest2) c).put [3, pre.length + 1] (.lst (nxt.map (fun n => OT.leaf (nS g n)) ++ [.leaf (nS g (pk row (pk ki pre.length)))])))), fz (nI pre.length), some (.nw (.lst ((row.map fun n => OT.leaf (nS g n)).eraseIdx (pk ki pre.length))))] _
    rw [hp2, he]
    exact happ _ _ _ (by rw [List.length_eraseIdx, if_pos hf]; omega) h

theorem wp_CupFinder_learn_cup (cs : Cs) (ss : R.Env) (Q : Rs → R.Env → Prop) (h : F_CupFinder_learn_cup cs ss Q) : m_CupFinder_learn_cup cs (ss ++ List.replicate 4 none) { nx := fun e => Q (.fz .non) (outs [0] 2 e), rt := fun r e => Q r (outs [0] 2 e) } := by
  obtain ⟨g, M, q, ks, ki, pre, row, ret, hM, hrM, hnd, h0, h40, hks, hki, hpre, rfl, h⟩ := h
  unfold m_CupFinder_learn_cup
  have hln : (ownS g (pre ++ [row])).length = pre.length + 1 := by rw [ownS_len, List.length_append, List.length_singleton]
  have hset : ((ownS g (pre ++ [row])).set pre.length (.leaf .any)).set pre.length (.lst []) = ownS g (pre ++ [[]]) := by
    rw [List.set_set]
    exact ownS_set (d := [])
  have hp1 : (cfT cs g q ks ki (pre ++ [row]) false).put [3, pre.length] (.leaf .any) = .ins cs.CupFinder cfN [.lst (q.map fun n => .leaf (nS g n)), .lst (ks.map fun n => .leaf (nI n)), .lst (ki.map fun n => .leaf (nI n)), .lst ((ownS g (pre ++ [row])).set pre.length (.leaf .any)), .leaf (.bl false)] := by
    unfold cfT
    rw [put_kid (t := .ins cs.CupFinder cfN _) (c := .lst (ownS g (pre ++ [row]))) rfl, put_kid (t := .lst (ownS g (pre ++ [row]))) ownS_at]
    rfl
  refine s_seq fun K hK => ?_
  refine ⟨⟨_, rfl⟩, cfN, _, 3, rfl, rfl, _, pre.length, rfl, by rw [hln]; exact ixN_last _, by decide, .lst (row.map fun n => .leaf (nS g n)), tree_at rfl ?_, rfl, hK _ ?_⟩
  · show ((ownS g (pre ++ [row]))[pre.length]?).bind _ = _
    rw [ownS_at]
    rfl
  clear hK
  show mSeq _ _ [some (.nw ((cfT cs g q ks ki (pre ++ [row]) false).put [3, pre.length] (.leaf .any))), fz (sL g ret), some (.nw (.lst (row.map fun n => .leaf (nS g n)))), none, none, none] _
  rw [hp1]
  refine s_seq fun K hK => ?_
  refine ⟨⟨_, rfl⟩, cfN, _, 1, rfl, rfl, _, rfl, by rw [List.length_map]; unfold sizeL; omega, _, rfl, _, rfl, _, rfl, hK _ ?_⟩
  clear hK
  have hsn : ∀ (l : List Nat) (n : Nat), (l.map fun n => OT.leaf (nI n)) ++ [.leaf (nI n)] = (l ++ [n]).map fun n => .leaf (nI n) := fun l n => by rw [List.map_append] <;> rfl
  show mSeq _ _ [some (.nw (.ins cs.CupFinder cfN [.lst (q.map fun n => .leaf (nS g n)), .lst ((ks.map fun n => OT.leaf (nI n)) ++ [.leaf (.int (((row.map fun n => OT.leaf (nS g n)).length : Nat) : Int))]), .lst (ki.map fun n => .leaf (nI n)), .lst ((ownS g (pre ++ [row])).set pre.length (.leaf .any)), .leaf (.bl false)])), fz (sL g ret), some (.nw (.lst (row.map fun n => .leaf (nS g n)))), none, none, none] _
  rw [List.length_map, show (R.D.int ((row.length : Nat) : Int)) = nI row.length from rfl, hsn]
  refine s_seq fun K hK => ?_
  refine ⟨[], rfl, Nat.zero_le _, ⟨_, rfl⟩, cfN, _, 3, rfl, rfl, _, pre.length, _, rfl, rfl, by rw [List.length_set, hln]; exact ixN_last _, hK _ ?_⟩
  clear hK
  show mSeq _ _ [some (.nw (.ins cs.CupFinder cfN [.lst (q.map fun n => .leaf (nS g n)), .lst ((ks ++ [row.length]).map fun n => OT.leaf (nI n)), .lst (ki.map fun n => .leaf (nI n)), .lst (((ownS g (pre ++ [row])).set pre.length (.leaf .any)).set pre.length (.lst [])), .leaf (.bl false)])), fz (sL g ret), some (.nw (.lst (row.map fun n => .leaf (nS g n)))), none, none, none] _
  rw [hset]
  show mSeq _ _ [some (.nw (cfT cs g q (ks ++ [row.length]) ki (pre ++ [[]]) false)), fz (sL g ret), some (.nw (.lst (row.map fun n => .leaf (nS g n)))), none, none, none] _
  have hretM : ∀ n ∈ ret, n ∈ M := by
    rcases h with ⟨rfl, _⟩ | ⟨f, hf, _, ⟨rfl, _⟩ | ⟨rfl, _⟩⟩
    · exact hrM
    · exact fun n m => hrM n ((dropm_nd hnd hf).2.1 n m)
    · refine fun n m => hrM n ?_
      rcases List.mem_append.mp m with m | m
      · exact (dropm_nd hnd hf).2.1 n m
      · rw [List.mem_singleton.mp m]; exact pk_mem hf
  refine s_seq fun K hK => ?_
  refine if_of (decide (ret = row)) (fun P hP => ⟨_, rfl, _, rfl, oEq_any hM hretM hrM (.inl rfl) (.inr rfl) ?_⟩) (fun hz => ?_) (fun hz => hK _ ?_)
  · show P (decide (ret = row) != false)
    rw [Bool.bne_false]
    exact hP
  · have hz := of_decide_eq_true hz
    refine s_seq fun K2 hK2 => ?_
    refine ⟨⟨_, rfl⟩, _, _, _, rfl, rfl, by decide, rfl, hK2 _ ?_⟩
    rcases h with ⟨_, h⟩ | ⟨f, hf, h1, ⟨e, _⟩ | ⟨e, hf1, _⟩⟩
    · exact h
    · have := congrArg List.length (hz.symm.trans e)
      rw [List.length_eraseIdx, if_pos hf] at this
      omega
    · exfalso
      have e2 := hz.symm.trans e
      have hl : pk row (row.length - 1) = pk row f := by
        rw [pk_lt (show row.length - 1 < row.length by omega)]
        have e3 : row[row.length - 1]? = some (pk row f) := by
          conv => lhs; rw [e2]
          rw [List.getElem?_append_right (by rw [List.length_eraseIdx, if_pos hf]; simp [List.length_eraseIdx, hf]), List.length_append, List.length_singleton, Nat.add_sub_cancel, Nat.sub_self] <;> rfl
        rw [List.getElem?_eq_getElem (by omega)] at e3
        exact Option.some.inj e3
      have := (List.getElem_inj (h₀ := by omega) (h₁ := hf) hnd (i := row.length - 1) (j := f)).mp (by rw [← pk_lt, ← pk_lt]; exact hl)
      omega
  clear hK
  have hz := of_decide_eq_false hz
  rcases h with ⟨e, h⟩ | ⟨f, hf, h1, h⟩
  · exact absurd e hz
  have htake : ret.take (row.length - 1) = row.eraseIdx f ∧ row.length ≤ ret.length + 1 ∧ ret.length ≤ row.length := by
    have el : (row.eraseIdx f).length = row.length - 1 := by rw [List.length_eraseIdx, if_pos hf]
    rcases h with ⟨rfl, _⟩ | ⟨rfl, _⟩
    · exact ⟨List.take_of_length_le (by omega), by omega, by omega⟩
    · exact ⟨by rw [← el, List.take_left], by rw [List.length_append, List.length_singleton]; omega, by rw [List.length_append, List.length_singleton]; omega⟩
  refine s_seq fun K hK => ?_
  dsimp only [mAsgG, mFz]
  refine lc_fltX true (rng 0 row.length) nI (fun i => decide (i = f)) (fun Q' q => ⟨_, rfl, _, rfl, ?_⟩) (by rw [rng_len]; unfold sizeL; omega) (fun i r hr => ?_) ?_
  · show -(2 ^ 62) ≤ (((row.map fun n => OT.leaf (nS g n)).length : Nat) : Int) ∧ _
    rw [List.length_map]
    exact ⟨by omega, by omega, q⟩
  · have hi := (List.getElem?_eq_some_iff.mp hr).1
    rw [rng_len] at hi
    rw [rng_get hr, show (R.D.int (0 + (i : Int))) = nI i by rw [Int.zero_add] <;> rfl]
    refine ⟨[some (.ex (cfT cs g q (ks ++ [row.length]) ki (pre ++ [[]]) false)), fz (sL g ret), some (.ex (.lst (row.map fun n => .leaf (nS g n)))), none, none, fz (nI i)], fun P hP => ⟨trivial, hP⟩, rfl, fun P hP => ?_, fun P hP => ⟨_, rfl, hP⟩⟩
    refine ⟨_, rfl, _, rfl, _, rfl, trivial, ret.map (nS g), rfl, ?_⟩
    rw [show (some ((((row.map fun n => OT.leaf (nS g n)).length : Nat) : Int) - 1)) = some ((row.length - 1 : Nat) : Int) from by rw [List.length_map]; congr 1; omega, cutA, ← List.map_take, htake.1]
    refine ⟨_, rfl, _, rfl, row.map (nS g), leaves_nS g row, ?_⟩
    refine ⟨_, rfl, _, rfl, row.map (nS g), leaves_nS g row, ?_⟩
    dsimp only
    rw [cutA, show ((i : Int) + 1) = ((i + 1 : Nat) : Int) by omega, cutB, ffz_lst, ffz_lst, ← List.map_take, ← List.map_drop]
    refine .inl ⟨(row.take i).map (nS g), (row.drop (i + 1)).map (nS g), rfl, rfl, by rw [List.length_map, List.length_map, List.length_take, List.length_drop]; unfold sizeL; omega, ?_⟩
    rw [← List.map_append, ← List.eraseIdx_eq_take_drop_succ]
    refine oEq_any hM (fun n m => hrM n ((dropm_nd hnd hf).2.1 n m)) (fun n m => hrM n ((dropm_nd hnd hi).2.1 n m)) (.inl (by rw [ffz_lst] <;> rfl)) (.inl (by rw [ffz_lst] <;> rfl)) ?_
    rw [Bool.bne_false, show decide (row.eraseIdx f = row.eraseIdx i) = decide (i = f) from decide_eq_decide.mpr ⟨fun e => (erase_inj hnd hf hi e).symm, fun e => by rw [e]⟩]
    exact hP
  rw [rng_len, filter_one hf (fun i hi => by simp)]
  refine ⟨_, fz_lst _, trivial, hK _ ?_⟩
  clear hK
  refine s_seq fun K hK => ?_
  refine mAndV_tt (fun P hP => ⟨_, rfl, [], rfl, Nat.zero_le _, ?_⟩) ⟨_, rfl, _, rfl, _, rfl, _, rfl, trivial, ?_⟩
  · show oEq true (.fz (nL [f])) (Rs.nw (.lst (([] : List R.D).map .leaf))).ffz P
    rw [ffz_lst]
    exact oEq_nL (b := []) hP
  refine ⟨rfl, congrArg (fun b => [fz (.bl b)]) (decide_eq_true (by rw [List.length_map, List.length_map, List.length_map]; omega)), trivial, hK _ ?_⟩
  clear hK
  refine s_seq fun K hK => ?_
  refine ⟨⟨_, rfl⟩, cfN, _, 2, rfl, rfl, _, rfl, by rw [List.length_map]; unfold sizeL; omega, _, rfl, nI f, rfl, _, rfl, hK _ ?_⟩
  clear hK
  show mSeq _ _ [some (.nw (.ins cs.CupFinder cfN [.lst (q.map fun n => .leaf (nS g n)), .lst ((ks ++ [row.length]).map fun n => OT.leaf (nI n)), .lst ((ki.map fun n => OT.leaf (nI n)) ++ [.leaf (nI f)]), .lst (ownS g (pre ++ [[]])), .leaf (.bl false)])), fz (sL g ret), some (.nw (.lst (row.map fun n => .leaf (nS g n)))), fz (nL [f]), none, none] _
  rw [hsn]
  show mSeq _ _ [some (.nw (cfT cs g q (ks ++ [row.length]) (ki ++ [f]) (pre ++ [[]]) false)), fz (sL g ret), some (.nw (.lst (row.map fun n => .leaf (nS g n)))), fz (nL [f]), none, none] _
  refine s_seq fun K hK => ?_
  refine ⟨_, rfl, _, rfl, nI f, rfl, ?_⟩
  refine ixS (r := .br (.lst (row.map fun n => .leaf (nS g n)))) (.inl rfl) hf ⟨trivial, hK _ ?_⟩
  clear hK
  show mIfS _ _ _ [some (.nw (cfT cs g q (ks ++ [row.length]) (ki ++ [f]) (pre ++ [[]]) false)), fz (sL g ret), some (.nw (.lst (row.map fun n => .leaf (nS g n)))), fz (nL [f]), fz (nS g (pk row f)), none] _
  have el : (row.eraseIdx f).length = row.length - 1 := by rw [List.length_eraseIdx, if_pos hf]
  refine if_of (decide (ret.length = row.length)) (fun P hP => ⟨_, rfl, _, rfl, _, rfl, _, rfl, ?_⟩) (fun hz => ?_) (fun hz => ?_)
  · show oEq false (.fz (.int (((ret.map (nS g)).map OT.leaf).length : Nat))) (.fz (.int ((row.map fun n => OT.leaf (nS g n)).length : Nat))) _
    rw [w_eq_int, List.length_map, List.length_map, List.length_map, Bool.bne_false, show decide ((ret.length : Int) = (row.length : Int)) = decide (ret.length = row.length) from decide_eq_decide.mpr (by omega)]
    exact hP
  · have hz := of_decide_eq_true hz
    rcases h with ⟨e, _⟩ | ⟨e, hf1, h⟩
    · rw [e, el] at hz; omega
    refine s_seq fun K hK => ?_
    refine ⟨_, rfl, nS g (pk row f), ?_, _, rfl, ?_⟩
    · rw [e, List.map_append]
      exact at_last _ _
    rw [show (Rs.fz (nS g (pk row f))).rd = .fz (nS g (pk row f)) from rfl]
    have okf := hM.ok _ (hrM _ (pk_mem hf))
    have eb : (g (pk row f) == g (pk row f)) = true := by simp
    refine oEq_nS okf okf ?_
    rw [eb]
    refine ⟨rfl, rfl, trivial, hK _ ?_⟩
    clear hK
    refine s_seq fun K hK => ?_
    refine ⟨⟨_, rfl⟩, cfN, _, 1, rfl, rfl, _, rfl, by rw [List.length_map, List.length_append, List.length_singleton]; unfold sizeL; omega, _, rfl, hK _ ?_⟩
    clear hK
    show mSeq _ _ [some (.nw (.ins cs.CupFinder cfN [.lst (q.map fun n => .leaf (nS g n)), .lst (((ks ++ [row.length]).map fun n => OT.leaf (nI n)) ++ [.leaf (nI 1)]), .lst ((ki ++ [f]).map fun n => OT.leaf (nI n)), .lst (ownS g (pre ++ [[]])), .leaf (.bl false)])), fz (sL g ret), some (.nw (.lst (row.map fun n => .leaf (nS g n)))), fz (nL [f]), fz (nS g (pk row f)), none] _
    rw [hsn, List.append_assoc]
    refine s_seq fun K hK => ?_
    refine ⟨⟨_, rfl⟩, cfN, _, 3, rfl, rfl, _, rfl, by rw [ownS_len, List.length_append, List.length_singleton]; unfold sizeL; omega, [], rfl, Nat.zero_le _, _, rfl, hK _ ?_⟩
    clear hK
    show mSetP _ _ _ _ [some (.nw (.ins cs.CupFinder cfN [.lst (q.map fun n => .leaf (nS g n)), .lst ((ks ++ ([row.length] ++ [1])).map fun n => OT.leaf (nI n)), .lst ((ki ++ [f]).map fun n => OT.leaf (nI n)), .lst (ownS g (pre ++ [[]]) ++ [.lst (([] : List Nat).map fun n => OT.leaf (nS g n))]), .leaf (.bl false)])), fz (sL g ret), some (.nw (.lst (row.map fun n => .leaf (nS g n)))), fz (nL [f]), fz (nS g (pk row f)), none] _
    rw [ownS_snoc, List.append_assoc]
    exact ⟨⟨_, rfl⟩, _, _, _, rfl, rfl, by decide, rfl, h⟩
  · have hz := of_decide_eq_false hz
    rcases h with ⟨e, h⟩ | ⟨e, hf1, _⟩
    · refine ⟨⟨_, rfl⟩, cfN, _, 3, rfl, rfl, _, rfl, by rw [ownS_len, List.length_append, List.length_singleton]; unfold sizeL; omega, _, rfl, _, rfl, by show 1 ≤ sizeL; unfold sizeL; omega, _, rfl, ?_⟩
      show Q (.fz .non) [some (.nw (.ins cs.CupFinder cfN [.lst (q.map fun n => .leaf (nS g n)), .lst ((ks ++ [row.length]).map fun n => OT.leaf (nI n)), .lst ((ki ++ [f]).map fun n => OT.leaf (nI n)), .lst (ownS g (pre ++ [[]]) ++ [.lst (([pk row f] : List Nat).map fun n => OT.leaf (nS g n))]), .leaf (.bl false)])), none]
      rw [ownS_snoc, List.append_assoc]
      exact h
    · exact absurd (by rw [e, List.length_append, List.length_singleton, el]; omega) hz

theorem wp_CupFinder_check_limits (cs : Cs) (ss : R.Env) (Q : Rs → R.Env → Prop) (h : (F_CupFinder_check_limits cs).io ss Q) : m_CupFinder_check_limits cs (ss ++ List.replicate 1 none) { nx := fun e => Q (.fz .non) (outs [] 2 e), rt := fun r e => Q r (outs [] 2 e) } := by
  obtain ⟨g, sz, fw, k, q, cts, n, hR, hk, hv, hn, rfl, h⟩ := h
  have hfl := hR.fl
  have hl0 := hR.l0
  have h30 := hR.l1
  have hvl := val_len hv
  unfold m_CupFinder_check_limits
  have hct : (cts.take (k + 1)).length = min (k + 1) sz.length := by rw [List.length_take]; omega
  obtain ⟨pre, lst, hpl⟩ : ∃ pre lst, cts.take (k + 1) = pre ++ [lst] := by
    have : cts.take (k + 1) ≠ [] := fun z => by rw [z] at hct; simp at hct; omega
    exact ⟨_, _, (List.dropLast_concat_getLast this).symm⟩
  have hlst : k < sz.length → lst.length + 1 ≤ pk sz k := fun z => by
    have e1 : cts[k]? = some lst := by
      have e2 : (cts.take (k + 1))[k]? = some lst := by
        have e3 : pre.length = k := by
          have := congrArg List.length hpl
          rw [hct, List.length_append, List.length_singleton] at this
          omega
        rw [hpl, ← e3, List.getElem?_append_right (Nat.le_refl _), Nat.sub_self] <;> rfl
      rwa [List.getElem?_take_of_lt (by omega)] at e2
    have v := val_dropN k hv
    rw [List.drop_eq_getElem_cons (l := cts) (by omega), drop_pk z] at v
    have e4 : cts[k] = lst := by
      rw [List.getElem?_eq_getElem (by omega)] at e1
      exact Option.some.inj e1
    rw [e4] at v
    cases v with | cons a _ => exact a
  -- the sizes that are known, and the next cup's
  obtain ⟨L, hL, hLn, hL30, hL9, hLs⟩ : ∃ L : List Nat, L = sz.take k ++ List.replicate (if k = sz.length then 0 else 1) (lst.length + 1) ∧ L ≠ [] ∧ L.length ≤ 30 ∧ (∀ m ∈ L, m ≤ 9) ∧ L.sum + sz.length ≤ sz.sum + L.length := by
    refine ⟨_, rfl, ?_⟩
    by_cases hz : k = sz.length
    · rw [if_pos hz, List.replicate_zero, List.append_nil, List.take_of_length_le (by omega)]
      exact ⟨fun z => by rw [z] at hl0; simp at hl0, h30, fun m hm => (hR.s1 m hm).2, Nat.le_refl _⟩
    · have hlt : k < sz.length := by omega
      have hq := hlst hlt
      have h9 := (hR.s1 _ (pk_mem hlt)).2
      rw [if_neg hz, List.replicate_one]
      have hs : sz.sum = (sz.take k).sum + (pk sz k + (sz.drop (k + 1)).sum) := by
        conv => lhs; rw [← List.take_append_drop k sz, drop_pk hlt, List.sum_append, List.sum_cons]
      have hd := len_le_sum (l := sz.drop (k + 1)) fun s m => (hR.s1 s (List.mem_of_mem_drop m)).1
      rw [List.length_drop] at hd
      refine ⟨by simp, by rw [List.length_append, List.length_take, List.length_singleton]; omega, fun m hm => ?_, ?_⟩
      · rcases List.mem_append.mp hm with hm | hm
        · exact (hR.s1 m (List.mem_of_mem_take hm)).2
        · rw [List.mem_singleton.mp hm]; omega
      · rw [List.sum_append, List.length_append, List.length_take, List.length_singleton, List.sum_singleton]; omega
  refine s_seq fun K hK => ?_
  have e0 : ∀ P : Rs → Prop, P (.ex (.lst ((sz.take k).map fun n => .leaf (nI n)))) → mFld cs.CupFinder "known_sizes" (mVar 0) [some (.ex (fnd cs g sz fw k q cts)), fz (nI n), none] P := fun P hP => ⟨_, rfl, cfN, _, _, rfl, rfl, hP⟩
  have e1 : ∀ P : Rs → Prop, P (.nw (.lst [.leaf (nI (lst.length + 1))])) → mLst (mCons (mOp oAdd (mB oLen (mCons (mOp oIx (mFld cs.CupFinder "contents" (mVar 0)) (mUn oNeg (mC (.int 1)))) mNil)) (mC (.int 1))) mNil) [some (.ex (fnd cs g sz fw k q cts)), fz (nI n), none] P := fun P hP => by
    refine ⟨_, rfl, cfN, _, _, rfl, rfl, _, .lst (lst.map fun n => .leaf (nS g n)), rfl, ?_, _, rfl, _, rfl, by show 1 ≤ sizeL; unfold sizeL; omega, ?_⟩
    · show at' (ownS g (cts.take (k + 1))) (-1) = _
      rw [hpl, ← ownS_snoc]
      exact at_last _ _
    · show P (.nw (.lst [.leaf (.int ((((lst.map fun n => OT.leaf (nS g n)).length : Nat) : Int) + 1))]))
      rw [List.length_map]
      exact hP
  have e2 : ∀ P : Rs → Prop, P (.fz (.int (((if k = sz.length then 0 else 1 : Nat)) : Int))) → mB oInt1 (mCons (mNotV (mFld cs.CupFinder "complete" (mVar 0))) mNil) [some (.ex (fnd cs g sz fw k q cts)), fz (nI n), none] P := fun P hP => ⟨_, rfl, cfN, _, _, rfl, rfl, by
    by_cases hz : k = sz.length
    · rw [if_pos hz] at hP
      rw [decide_eq_true hz]
      exact hP
    · rw [if_neg hz] at hP
      rw [decide_eq_false hz]
      exact hP⟩
  show mAsgG _ _ [some (.ex (fnd cs g sz fw k q cts)), fz (nI n), none] _
  dsimp only [mAsgG, mFz, mOp]
  refine e0 _ (e1 _ (e2 _ ?_))
  refine w_repD (nI (lst.length + 1)) (if k = sz.length then 0 else 1) (by split <;> omega) ?_
  have eL : L.map nI = (sz.take k).map nI ++ List.replicate (if k = sz.length then 0 else 1) (nI (lst.length + 1)) := by rw [hL, List.map_append, List.map_replicate]
  rw [ffz_lst]
  refine .inl ⟨(sz.take k).map nI, _, ?_, rfl, ?_, ?_⟩
  · exact leaves_nI _
  · rw [← List.length_append, ← eL, List.length_map]; unfold sizeL; omega
  rw [← eL]
  refine ⟨nL L, fz_lst (L.map nI), trivial, hK _ ?_⟩
  clear hK
  show mSeq _ _ [some (.ex (fnd cs g sz fw k q cts)), fz (nI n), fz (nL L)] _
  refine s_seq fun K hK => ?_
  refine mAndV_tt (fun P hP => ⟨_, rfl, _, rfl, trivial, ?_⟩) ?_
  · show P (.fz (.bl (decide ((((L.map nI).map OT.leaf).length : Nat) ≤ (30 : Int)))))
    rw [List.length_map, List.length_map, decide_eq_true (by omega)]
    exact hP
  refine ⟨_, rfl, L.map nI, _, rfl, ints_nI L, fun z => hLn (List.map_eq_nil_iff.mp z), fun m hm _ => ?_⟩
  obtain ⟨m', hm', rfl⟩ := List.mem_map.mp hm
  have h9 := hL9 m' hm'
  refine ⟨trivial, rfl, congrArg (fun b => [fz (.bl b)]) (decide_eq_true (by omega)), trivial, hK _ ?_⟩
  clear hK
  have hls := hR.leastN.1
  have hl1 := hR.leastN.2.1
  refine ⟨_, rfl, L.map nI, _, rfl, ints_nI L, _, rfl, _, rfl, trivial, _, rfl, trivial, trivial, rfl, congrArg (fun b => [fz (.bl b)]) (decide_eq_true ?_), trivial, h⟩
  have hsm := hR.sm
  rw [sum_cast, List.length_map, List.length_map]
  omega

theorem wp_infer_cups (cs : Cs) (ss : R.Env) (Q : Rs → R.Env → Prop) (h : (F_infer_cups cs).io ss Q) : m_infer_cups cs (ss ++ List.replicate 3 none) { nx := fun e => Q (.fz .non) (outs [] 1 e), rt := fun r e => Q r (outs [] 1 e) } := by
  obtain ⟨g, sz, fw, q, j, hR, hSm, hS, hj, rfl, h⟩ := h
  have hl0 := hR.l0
  generalize hs0 : (q, List.replicate sz.length ([] : List Nat)) = s0 at *
  have hA : ∀ t, StOk sz fw g (R.adv sz fw t s0).1 (R.adv sz fw t s0).2 := fun t => by rw [← hs0]; exact hS.adv hR t
  have hN : ∀ t, Nih (R.adv sz fw t s0).2 (KT sz fw s0 t) := fun t => by rw [← hs0]; exact nih_adv hR hS t
  have ok : ∀ t, ∀ n ∈ (R.adv sz fw t s0).1, NameOk (g n) := fun t n m => (hA t).nms.ok n (List.mem_append_left _ m)
  have hq40 : q.length ≤ 40 := by have := hS.hi; omega
  have hq1 : 1 ≤ q.length := by obtain ⟨x, a, rfl⟩ := hS.cons hR; simp
  have hqn : Nms g q := ⟨((hS.nms.nd).sublist ((List.sublist_append_left q _).map g)), fun n m => hS.nms.ok n (List.mem_append_left _ m)⟩
  have hget : ∀ (k : Nat) (r : Rs), (((List.range (j + 1)).map fun i => sL g (R.adv sz fw i s0).1).map Rs.fz)[k]? = some r → k < j + 1 ∧ r = .fz (sL g (R.adv sz fw k s0).1) := fun k r hr => by
    obtain ⟨d, e, rfl⟩ := get_fz hr
    have hk := (List.getElem?_eq_some_iff.mp e).1
    rw [List.length_map, List.length_range] at hk
    exact ⟨hk, by rw [range_map_get e]⟩
  have hlq : ((List.range (j + 1)).map fun i => sL g (R.adv sz fw i s0).1).length = j + 1 := by rw [List.length_map, List.length_range]
  unfold m_infer_cups
  refine s_seq fun K hK => ?_
  refine mAndV_tt (fun P hP => ⟨_, rfl, _, rfl, hP⟩) ?_
  refine ⟨_, rfl, _, rfl, 1, ((j + 1 : Nat) : Int), rfl, ?_, ?_⟩
  · show Rs.fz (.int ((((List.range (j + 1)).map fun i => sL g (R.adv sz fw i s0).1).map OT.leaf).length : Nat)) = _
    rw [List.length_map, hlq]
  have e1 : bLe 1 ((j + 1 : Nat) : Int) = true := decide_eq_true (by omega)
  have e2 : bLe ((j + 1 : Nat) : Int) 400 = true := decide_eq_true (by omega)
  rw [e1, if_pos rfl]
  refine ⟨400, rfl, ?_⟩
  rw [e2]
  refine ⟨rfl, rfl, trivial, hK _ ?_⟩
  clear hK
  refine s_seq fun K hK => ?_
  refine all_lc (((List.range (j + 1)).map fun i => sL g (R.adv sz fw i s0).1).map Rs.fz) (fun Q' q => it_var_lst rfl q) (by rw [List.length_map, hlq]; unfold sizeL; omega) (fun k r hr P hP => ?_) ⟨rfl, rfl, trivial, hK _ ?_⟩
  · obtain ⟨hk, rfl⟩ := hget k r hr
    exact ⟨trivial, rfl, _, rfl, rfl, g, (R.adv sz fw k s0).1, _, .inl rfl, ok k, by have := (hA k).hi; omega, rfl, trivial, hP⟩
  clear hK
  refine s_seq fun K hK => ?_
  refine ⟨_, rfl, sL g q, at_nat (j := 0) (by rw [List.getElem?_map, List.getElem?_range (by omega), ← hs0] <;> rfl), trivial, hK _ ?_⟩
  clear hK
  refine s_seq fun K hK => ?_
  refine mAndV_tt (fun P hP => ?_) ?_
  · refine ⟨_, rfl, _, rfl, 1, ((q.length : Nat) : Int), rfl, ?_, ?_⟩
    · show Rs.fz (.int ((((q).map (nS g)).map OT.leaf).length : Nat)) = _
      rw [List.length_map, List.length_map] <;> rfl
    have e1 : bLe 1 ((q.length : Nat) : Int) = true := decide_eq_true (by omega)
    have e2 : bLe ((q.length : Nat) : Int) 40 = true := decide_eq_true (by omega)
    rw [e1, if_pos rfl]
    refine ⟨40, rfl, ?_⟩
    rw [e2]
    exact hP
  refine ⟨_, rfl, (q).map (nS g), (q).map g, rfl, strs_nS g _, hqn.nd, by rw [List.length_map]; show q.length ≤ 1000; omega, _, rfl, _, rfl, ?_⟩
  show oEq false (.fz (.int (((q).map g).length : Nat))) (.fz (.int ((((q).map (nS g)).map OT.leaf).length : Nat))) _
  rw [List.length_map, List.length_map, List.length_map, w_eq_int, decide_eq_true rfl]
  refine ⟨rfl, rfl, trivial, hK _ ?_⟩
  clear hK
  refine s_seq fun K hK => ?_
  refine ⟨_, rfl, rfl, g, q, rfl, rfl, _, rfl, trivial, hK _ ?_⟩
  clear hK
  refine s_seq fun K hK => ?_
  refine it_slc (ds := (List.range (j + 1)).map fun i => sL g (R.adv sz fw i s0).1) (l := some 1) (h := none) (fun P hP => ⟨_, rfl, hP⟩) (fun P hP => hP) (fun P hP => hP) ?_
  have ecut : cut' ((List.range (j + 1)).map fun i => sL g (R.adv sz fw i s0).1) (some 1) none = (List.range j).map fun i => sL g (R.adv sz fw (i + 1) s0).1 := by
    rw [show (some (1 : Int)) = some ((1 : Nat) : Int) from rfl, cutB, List.range_succ_eq_map, List.map_cons, List.drop_succ_cons, List.drop_zero, List.map_map] <;> rfl
  rw [ecut]
  have hinit : cfT cs g q [] [] [[]] false = fnd cs g sz fw (KT sz fw s0 0) (R.adv sz fw 0 s0).1 (R.adv sz fw 0 s0).2 := by
    rw [← hs0]
    show _ = cfT cs g q (sz.take 0) (fw.take 0) ((List.replicate sz.length []).take 1) (decide (0 = sz.length))
    rw [List.take_replicate, Nat.min_eq_left hl0, decide_eq_false (by omega)] <;> rfl
  refine ⟨rfl, fun i e => ∃ y3 : Option Rs, e = [fz (.lst ((List.range (j + 1)).map fun i => sL g (R.adv sz fw i s0).1)), fz (sL g q), some (.nw (fnd cs g sz fw (KT sz fw s0 i) (R.adv sz fw i s0).1 (R.adv sz fw i s0).2)), y3], ⟨none, by rw [← hinit] <;> rfl⟩, ?_, ?_⟩
  · clear hK
    rintro i r e hr ⟨y3, rfl⟩
    obtain ⟨d, e, rfl⟩ := get_fz hr
    have hi := (List.getElem?_eq_some_iff.mp e).1
    rw [List.length_map, List.length_range] at hi
    rw [range_map_get e]
    refine ⟨trivial, ?_⟩
    have hAi := hA i
    have hNi := hN i
    have hKi := KT_le (sz := sz) (fw := fw) (s := s0) i
    have e1 : KT sz fw s0 (i + 1) = max (KT sz fw s0 i) (ful sz (R.adv sz fw i s0).2) := rfl
    have e2 := adv_snoc sz fw i s0
    have hn1 := (hA (i + 1)).val
    have htot : (R.adv sz fw i s0).1.length + totM (R.adv sz fw i s0).2 = q.length := by
      rw [← hs0, adv_tot hR i hS]
      simp [totM]
    obtain ⟨x, a, hx⟩ := hAi.cons hR
    obtain ⟨cts, hc⟩ : ∃ cts, cts = (R.adv sz fw i s0).2 := ⟨_, rfl⟩
    have hsi : R.adv sz fw i s0 = (x :: a, cts) := by rw [hc, ← hx]
    have e3 : R.adv sz fw (i + 1) s0 = ((csc sz fw cts x a).2, (csc sz fw cts x a).1) := by rw [e2, hsi] <;> rfl
    rw [hsi] at hAi hNi htot e1
    rw [e3] at hn1
    have eE : ([fz (.lst ((List.range (j + 1)).map fun i => sL g (R.adv sz fw i s0).1)), fz (sL g q), some (.nw (fnd cs g sz fw (KT sz fw s0 i) (R.adv sz fw i s0).1 (R.adv sz fw i s0).2)), fz (sL g (R.adv sz fw (i + 1) s0).1)] : R.Env) = [fz (.lst ((List.range (j + 1)).map fun i => sL g (R.adv sz fw i s0).1)), fz (sL g q), some (.nw (fnd cs g sz fw (KT sz fw s0 i) (x :: a) cts)), fz (sL g (csc sz fw cts x a).2)] := by rw [hsi, e3]
    show mSeq _ _ [fz (.lst ((List.range (j + 1)).map fun i => sL g (R.adv sz fw i s0).1)), fz (sL g q), some (.nw (fnd cs g sz fw (KT sz fw s0 i) (R.adv sz fw i s0).1 (R.adv sz fw i s0).2)), fz (sL g (R.adv sz fw (i + 1) s0).1)] _
    rw [eE]
    clear eE
    refine s_seq fun K hK => ?_
    refine ⟨cfN, _, rfl, by decide, _, _, rfl, _, rfl, [sL g (csc sz fw cts x a).2], rfl, rfl, g, sz, fw, x, a, cts, KT sz fw s0 i, hR, hSm, hAi, hKi, hNi, rfl, hK _ ?_⟩
    clear hK
    refine ⟨_, rfl, cfN, _, rfl, by decide, _, rfl, _, rfl, rfl, ?_⟩
    refine ⟨g, sz, fw, max (KT sz fw s0 i) (ful sz cts), (csc sz fw cts x a).2, (csc sz fw cts x a).1, q.length, hR, Nat.max_le.mpr ⟨hKi, ful_le⟩, hn1, ?_, ?_, trivial, fz (sL g (csc sz fw cts x a).2), ?_⟩
    · rw [← htot]
      exact hAi.lo
    · show [some (Rs.ex _), fz (.int (((q.map (nS g)).map OT.leaf).length : Nat))] = _
      rw [List.length_map, List.length_map]
      rfl
    · rw [e1, e3]
      rfl
  · rintro e ⟨y3, rfl⟩
    rw [List.length_map, List.length_map, List.length_range]
    refine hK _ ?_
    clear hK
    exact ⟨cfN, _, _, rfl, by decide, rfl, h⟩

theorem wp_law_cell_at (cs : Cs) (ss : R.Env) (Q : Rs → R.Env → Prop) (h : (F_law_cell_at cs).io ss Q) : m_law_cell_at cs (ss ++ List.replicate 0 none) { nx := fun e => Q (.fz .non) (outs [] 2 e), rt := fun r e => Q r (outs [] 2 e) } := by
  obtain ⟨ns, k, rfl, h⟩ := h
  simp only [m_law_cell_at, mSeq, scrD, nI, mVar, mC, mOp, mUn, i2, oSub, oMod, oDiv, oPow, oLt, oLe, oGt, oGe, oNeg, mT, mAnd, mOr, mNot, mAndV, mOrV, mNotV, mIf, mCh, bLt, bLe, bGt, bGe, mNil, mCons, mFz, mNoP, mPart, mB, oInt1, oMin2, oMin3, oMax2, mNext, mAsgG, gN, mIfS, mRet, mRetN, mDrop, mBreak, mCont, mFzS, mYes, mSetVol, mSrc, mCall, Spec1.io, args, Rs.lend, Rs.arg, Rs.rd, Rs.ffz, Rs.own, Rs.slot, Rs.item, items, Rs.t, Rs.stays, mD0, oIs, OT.ty, mFld, Env.wipe, Env.lent, Option.map_none, nI, nL, nT, mLst, mTup, List.getElem?_cons_zero, List.getElem?_cons_succ, List.set_cons_zero, List.set_cons_succ, Option.some.injEq, exists_eq_left', exists_eq_left, true_and, and_true, List.map_cons, List.map_nil, List.cons_append, List.nil_append, List.append_nil, Option.bind_some, Option.map_some, List.length_cons, List.length_nil, ite_true, ite_false, Bool.false_eq_true, if_true, if_false, eq_self_iff_true, reduceCtorEq, false_and, and_false, w_add, w_mul, w_ix_vol, w_ix_lst, w_ix_tup, w_ix_rol, w_ix_br, w_ix_brT, w_len_lst, w_len_tup, w_len_rol, w_len_br, w_len_nw, outs_nil, ffz_lst, ffz_tup, List.replicate_succ, List.replicate_zero, List.length_map, decide_eq_true_eq, Bool.not_eq_true', decide_eq_false_iff_not, Bool.not_true, Bool.not_false, Bool.true_eq_false, w_eq_int, w_setP, pk0, pkc1, pkc2, pkb1, pkb2, Bool.bne_false, Bool.bne_true] at h ⊢
  split
  · rename_i hk
    have hk : (k : Int) < (ns.length : Int) := by simpa using hk
    exact ⟨.int ns[k], at_nat (by rw [List.getElem?_map, List.getElem?_eq_getElem (by omega)] <;> rfl), h _⟩
  · exact h _

theorem wp_law_mixed (cs : Cs) (ss : R.Env) (Q : Rs → R.Env → Prop) (h : (F_law_mixed cs).io ss Q) : m_law_mixed cs (ss ++ List.replicate 1 none) { nx := fun e => Q (.fz .non) (outs [] 2 e), rt := fun r e => Q r (outs [] 2 e) } := by
  obtain ⟨a, b, rfl, h⟩ := h
  simp only [m_law_mixed, mSeq, mVar, mC, mOp, mUn, i2, oSub, oMod, oDiv, oPow, oLt, oLe, oGt, oGe, oNeg, mT, mAnd, mOr, mNot, mAndV, mOrV, mNotV, mIf, mCh, bLt, bLe, bGt, bGe, mNil, mCons, mFz, mNoP, mPart, mB, oInt1, oMin2, oMin3, oMax2, mNext, mAsgG, gN, mIfS, mRet, mRetN, mDrop, mBreak, mCont, mFzS, mYes, mSetVol, mSrc, mCall, Spec1.io, args, Rs.lend, Rs.arg, Rs.rd, Rs.ffz, Rs.own, Rs.slot, Rs.item, items, Rs.t, Rs.stays, mD0, oIs, OT.ty, mFld, Env.wipe, Env.lent, Option.map_none, nI, nL, nT, mLst, mTup, List.getElem?_cons_zero, List.getElem?_cons_succ, List.set_cons_zero, List.set_cons_succ, Option.some.injEq, exists_eq_left', exists_eq_left, true_and, and_true, List.map_cons, List.map_nil, List.cons_append, List.nil_append, List.append_nil, Option.bind_some, Option.map_some, List.length_cons, List.length_nil, ite_true, ite_false, Bool.false_eq_true, if_true, if_false, eq_self_iff_true, reduceCtorEq, false_and, and_false, w_add, w_mul, w_ix_vol, w_ix_lst, w_ix_tup, w_ix_rol, w_ix_br, w_ix_brT, w_len_lst, w_len_tup, w_len_rol, w_len_br, w_len_nw, outs_nil, ffz_lst, ffz_tup, List.replicate_succ, List.replicate_zero, List.length_map, decide_eq_true_eq, Bool.not_eq_true', decide_eq_false_iff_not, Bool.not_true, Bool.not_false, Bool.true_eq_false, w_eq_int, w_setP, pk0, pkc1, pkc2, pkb1, pkb2, Bool.bne_false, Bool.bne_true] at h ⊢
  refine ⟨by omega, ⟨by omega, by decide⟩, .inr (by omega), .inl (by omega), .inr (by omega), by omega, ⟨by omega, by decide⟩, .inl ?_, by omega, ⟨by omega, by decide⟩, .inl ?_, by omega, h _⟩
  · omega
  · have e : ∀ z : Int, -2 ^ 64 < z % 2147483587 ∧ z % 2147483587 < 2 ^ 64 := fun z => by omega
    exact e _

theorem wp_law_source (cs : Cs) (ss : R.Env) (Q : Rs → R.Env → Prop) (h : (F_law_source cs).io ss Q) : m_law_source cs (ss ++ List.replicate 1 none) { nx := fun e => Q (.fz .non) (outs [] 2 e), rt := fun r e => Q r (outs [] 2 e) } := by
  obtain ⟨ns, k, rfl, h⟩ := h
  simp only [m_law_source, mSeq, scrD, nI, mVar, mC, mOp, mUn, i2, oSub, oMod, oDiv, oPow, oLt, oLe, oGt, oGe, oNeg, mT, mAnd, mOr, mNot, mAndV, mOrV, mNotV, mIf, mCh, bLt, bLe, bGt, bGe, mNil, mCons, mFz, mNoP, mPart, mB, oInt1, oMin2, oMin3, oMax2, mNext, mAsgG, gN, mIfS, mRet, mRetN, mDrop, mBreak, mCont, mFzS, mYes, mSetVol, mSrc, mCall, Spec1.io, args, Rs.lend, Rs.arg, Rs.rd, Rs.ffz, Rs.own, Rs.slot, Rs.item, items, Rs.t, Rs.stays, mD0, oIs, OT.ty, mFld, Env.wipe, Env.lent, Option.map_none, nI, nL, nT, mLst, mTup, List.getElem?_cons_zero, List.getElem?_cons_succ, List.set_cons_zero, List.set_cons_succ, Option.some.injEq, exists_eq_left', exists_eq_left, true_and, and_true, List.map_cons, List.map_nil, List.cons_append, List.nil_append, List.append_nil, Option.bind_some, Option.map_some, List.length_cons, List.length_nil, ite_true, ite_false, Bool.false_eq_true, if_true, if_false, eq_self_iff_true, reduceCtorEq, false_and, and_false, w_add, w_mul, w_ix_vol, w_ix_lst, w_ix_tup, w_ix_rol, w_ix_br, w_ix_brT, w_len_lst, w_len_tup, w_len_rol, w_len_br, w_len_nw, outs_nil, ffz_lst, ffz_tup, List.replicate_succ, List.replicate_zero, List.length_map, decide_eq_true_eq, Bool.not_eq_true', decide_eq_false_iff_not, Bool.not_true, Bool.not_false, Bool.true_eq_false, w_eq_int, w_setP, pk0, pkc1, pkc2, pkb1, pkb2, Bool.bne_false, Bool.bne_true] at h ⊢
  split
  · rename_i hk
    have hk : (k : Int) < (ns.length : Int) := by simpa using hk
    have e : at' (ns.map D.int) (k : Int) = some (.int ns[k]) := at_nat (by rw [List.getElem?_map, List.getElem?_eq_getElem (by omega)] <;> rfl)
    exact ⟨_, e, _, e, by unfold sizeL; omega, h⟩
  · exact ⟨ns, 0, rfl, fun x => ⟨trivial, x, _, rfl, fun y => ⟨trivial, by unfold sizeL; omega, h⟩⟩⟩

theorem wp_law_draw (cs : Cs) (ss : R.Env) (Q : Rs → R.Env → Prop) (h : (F_law_draw cs).io ss Q) : m_law_draw cs (ss ++ List.replicate 1 none) { nx := fun e => Q (.fz .non) (outs [] 2 e), rt := fun r e => Q r (outs [] 2 e) } := by
  obtain ⟨ps, b, rfl, h0, h1, h⟩ := h
  simp only [m_law_draw, mSeq, F_law_mixed, mVar, mC, mOp, mUn, i2, oSub, oMod, oDiv, oPow, oLt, oLe, oGt, oGe, oNeg, mT, mAnd, mOr, mNot, mAndV, mOrV, mNotV, mIf, mCh, bLt, bLe, bGt, bGe, mNil, mCons, mFz, mNoP, mPart, mB, oInt1, oMin2, oMin3, oMax2, mNext, mAsgG, gN, mIfS, mRet, mRetN, mDrop, mBreak, mCont, mFzS, mYes, mSetVol, mSrc, mCall, Spec1.io, args, Rs.lend, Rs.arg, Rs.rd, Rs.ffz, Rs.own, Rs.slot, Rs.item, items, Rs.t, Rs.stays, mD0, oIs, OT.ty, mFld, Env.wipe, Env.lent, Option.map_none, nI, nL, nT, mLst, mTup, List.getElem?_cons_zero, List.getElem?_cons_succ, List.set_cons_zero, List.set_cons_succ, Option.some.injEq, exists_eq_left', exists_eq_left, true_and, and_true, List.map_cons, List.map_nil, List.cons_append, List.nil_append, List.append_nil, Option.bind_some, Option.map_some, List.length_cons, List.length_nil, ite_true, ite_false, Bool.false_eq_true, if_true, if_false, eq_self_iff_true, reduceCtorEq, false_and, and_false, w_add, w_mul, w_ix_vol, w_ix_lst, w_ix_tup, w_ix_rol, w_ix_br, w_ix_brT, w_len_lst, w_len_tup, w_len_rol, w_len_br, w_len_nw, outs_nil, ffz_lst, ffz_tup, List.replicate_succ, List.replicate_zero, List.length_map, decide_eq_true_eq, Bool.not_eq_true', decide_eq_false_iff_not, Bool.not_true, Bool.not_false, Bool.true_eq_false, w_eq_int, w_setP, pk0, pkc1, pkc2, pkb1, pkb2, Bool.bne_false, Bool.bne_true] at h ⊢
  refine ⟨by omega, by omega, fun x => ⟨by decide, ?_⟩⟩
  have hm : ∀ y : Int, 0 ≤ y % b ∧ y % b < b := fun y => ⟨Int.emod_nonneg _ (by omega), Int.emod_lt_of_pos _ h0⟩
  split
  · refine ⟨by omega, by omega, fun y => ⟨h0, by omega, by omega, fun z => ⟨⟨h0, log2_lt h0 h1⟩, by omega, by omega, h _ (hm y).1 (hm y).2⟩⟩⟩
  · refine ⟨by omega, by omega, fun y => ⟨by omega, by omega, by omega, by omega, fun z => ⟨by omega, by omega, fun u => ⟨_, _, rfl, fun v => ⟨h0, h _ (hm v).1 (hm v).2⟩⟩⟩⟩⟩

theorem wp_law_pick (cs : Cs) (ss : R.Env) (Q : Rs → R.Env → Prop) (h : (F_law_pick cs).io ss Q) : m_law_pick cs (ss ++ List.replicate 0 none) { nx := fun e => Q (.fz .non) (outs [] 2 e), rt := fun r e => Q r (outs [] 2 e) } := by
  obtain ⟨ps, ds, rfl, h0, h1, h⟩ := h
  simp only [m_law_pick, mVar, mC, mOp, mUn, i2, oSub, oMod, oDiv, oPow, oLt, oLe, oGt, oGe, oNeg, mT, mAnd, mOr, mNot, mAndV, mOrV, mNotV, mIf, mCh, bLt, bLe, bGt, bGe, mNil, mCons, mFz, mNoP, mPart, mB, oInt1, oMin2, oMin3, oMax2, mNext, mAsgG, gN, mIfS, mRet, mRetN, mDrop, mBreak, mCont, mFzS, mYes, mSetVol, mSrc, mCall, Spec1.io, args, Rs.lend, Rs.arg, Rs.rd, Rs.ffz, Rs.own, Rs.slot, Rs.item, items, Rs.t, Rs.stays, mD0, oIs, OT.ty, mFld, Env.wipe, Env.lent, Option.map_none, nI, nL, nT, mLst, mTup, List.getElem?_cons_zero, List.getElem?_cons_succ, List.set_cons_zero, List.set_cons_succ, Option.some.injEq, exists_eq_left', exists_eq_left, true_and, and_true, List.map_cons, List.map_nil, List.cons_append, List.nil_append, List.append_nil, Option.bind_some, Option.map_some, List.length_cons, List.length_nil, ite_true, ite_false, Bool.false_eq_true, if_true, if_false, eq_self_iff_true, reduceCtorEq, false_and, and_false, w_add, w_mul, w_ix_vol, w_ix_lst, w_ix_tup, w_ix_rol, w_ix_br, w_ix_brT, w_len_lst, w_len_tup, w_len_rol, w_len_br, w_len_nw, outs_nil, ffz_lst, ffz_tup, List.replicate_succ, List.replicate_zero, List.length_map, decide_eq_true_eq, Bool.not_eq_true', decide_eq_false_iff_not, Bool.not_true, Bool.not_false, Bool.true_eq_false, w_eq_int, w_setP, pk0, pkc1, pkc2, pkb1, pkb2, Bool.bne_false, Bool.bne_true] at h ⊢
  have hl : 0 < ds.length := List.length_pos_iff.mpr h0
  refine ⟨ps, _, rfl, by omega, by omega, fun x hx hb => ⟨trivial, ?_⟩⟩
  obtain ⟨k, rfl⟩ : ∃ k : Nat, x = (k : Int) := ⟨x.toNat, by omega⟩
  have hk : k < ds.length := by omega
  exact ⟨ds[k], at_nat (List.getElem?_eq_getElem hk), trivial, h _ (List.getElem_mem hk)⟩

theorem wp_law_name (cs : Cs) (ss : R.Env) (Q : Rs → R.Env → Prop) (h : (F_law_name cs).io ss Q) : m_law_name cs (ss ++ List.replicate 1 none) { nx := fun e => Q (.fz .non) (outs [] 1 e), rt := fun r e => Q r (outs [] 1 e) } := by
  obtain ⟨n, rfl, hn, h⟩ := h
  unfold m_law_name
  refine s_seq fun K hK => ?_
  refine ⟨trivial, hK _ ?_⟩
  clear hK
  refine s_seq fun K hK => ?_
  refine while_of (fun m e => ∃ z : PySem.Str, e = [fz (.int ((m : Int) - 1)), fz (.str z)] ∧ (∀ c ∈ z.cps.toList, 97 ≤ c ∧ c ≤ 122) ∧ m * 26 ^ z.cps.toList.length + lval z.cps.toList = n + 1) (n + 1) ⟨"", ?_, ?_, ?_⟩ ?_
  · show [fz (.int (n : Int)), fz (.str "")] = _
    rw [show ((n + 1 : Nat) : Int) - 1 = (n : Int) by omega]
  · intro c hc
    have e : (("" : PySem.Str)).cps.toList = [] := by decide +kernel
    rw [e] at hc
    cases hc
  · have e : (("" : PySem.Str)).cps.toList = [] := by decide +kernel
    rw [e]
    simp [lval]
  rintro m e ⟨z, rfl, hz, hv⟩
  have hge := lval_ge (l := z.cps.toList) fun c hc => (hz c hc).1
  have hlv : lval z.cps.toList ≤ 20001 := by omega
  have hlen : z.cps.toList.length ≤ 4 := by
    apply Classical.byContradiction
    intro q
    have := Nat.pow_le_pow_right (n := 26) (by omega) (show 5 ≤ z.cps.toList.length by omega)
    omega
  refine ⟨decide ((0 : Int) ≤ (m : Int) - 1), fun P hP => ⟨_, rfl, trivial, hP⟩, fun hb => ?_, fun hb => hK _ ?_⟩
  · have hm := of_decide_eq_true hb
    clear hK
    obtain ⟨k, rfl⟩ : ∃ k, m = k + 1 := ⟨m - 1, by omega⟩
    have hki : ((k + 1 : Nat) : Int) - 1 = (k : Int) := by omega
    rw [hki]
    have hc26 : k % 26 < 26 := Nat.mod_lt _ (by omega)
    refine s_seq fun K hK => ?_
    refine ⟨_, rfl, by omega, ?_, 97 + k % 26, ?_, _, rfl, ?_, trivial, hK _ ?_⟩
    · show abc.length ≤ sizeL
      rw [len_cps, abc_eq]
      unfold sizeL
      simp
    · show at' abc.cps.toList ((k : Int) % 26) = _
      rw [abc_eq, show ((k : Int) % 26) = ((k % 26 : Nat) : Int) by omega]
      refine at_nat ?_
      rw [List.getElem?_range' hc26]
      simp
    · show (1 : Nat) + z.length ≤ sizeL
      rw [len_cps]
      unfold sizeL
      omega
    clear hK
    have hcps : ((⟨#[97 + k % 26]⟩ : PySem.Str) ++ z).cps.toList = (97 + k % 26) :: z.cps.toList := by
      show ((#[97 + k % 26] : Array Nat) ++ z.cps).toList = _
      simp
    refine ⟨_, rfl, ⟨by omega, by decide⟩, trivial, trivial, k / 26, by omega, (⟨#[97 + k % 26]⟩ : PySem.Str) ++ z, ?_, ?_, ?_⟩
    · show [fz (.int ((k : Int) / 26 - 1)), _] = _
      rw [show ((k / 26 : Nat) : Int) = (k : Int) / 26 by omega]
    · intro c hc
      rw [hcps] at hc
      rcases List.mem_cons.mp hc with rfl | hc
      · omega
      · exact hz c hc
    · rw [hcps, lval_cons, List.length_cons, Nat.pow_succ, ← hv, ← Nat.add_assoc]
      congr 1
      rw [show 97 + k % 26 - 96 = k % 26 + 1 by omega, Nat.mul_comm (26 ^ z.cps.toList.length) 26, ← Nat.mul_assoc, ← Nat.add_mul]
      congr 1
      omega
  · have hm := of_decide_eq_false hb
    have : m = 0 := by omega
    subst this
    rw [Nat.zero_mul, Nat.zero_add] at hv
    refine ⟨_, rfl, trivial, h z ⟨?_, by omega, hz⟩ hv⟩
    apply Nat.pos_of_ne_zero
    intro q
    rw [List.eq_nil_of_length_eq_zero q] at hv
    cases hv

theorem wp_law_names (cs : Cs) (ss : R.Env) (Q : Rs → R.Env → Prop) (h : (F_law_names cs).io ss Q) : m_law_names cs (ss ++ List.replicate 3 none) { nx := fun e => Q (.fz .non) (outs [] 2 e), rt := fun r e => Q r (outs [] 2 e) } := by
  obtain ⟨ps, n, rfl, h1, h40, h⟩ := h
  unfold m_law_names
  refine s_seq fun K hK => ?_
  refine ⟨[.leaf (.int 0), .leaf (.int 20), .leaf (.int 700), .leaf (.int 18000)], rfl, by show 4 ≤ sizeL; unfold sizeL; omega, _, rfl, rfl, ps, 4, rfl, by omega, by omega, fun x hx hx2 => ⟨trivial, ?_⟩⟩
  have hx3 : ∃ m : Nat, at' [R.D.int 0, .int 20, .int 700, .int 18000] x = some (nI m) ∧ m ≤ 18000 := by
    have : x = 0 ∨ x = 1 ∨ x = 2 ∨ x = 3 := by omega
    rcases this with rfl | rfl | rfl | rfl
    · exact ⟨0, rfl, by omega⟩
    · exact ⟨20, rfl, by omega⟩
    · exact ⟨700, rfl, by omega⟩
    · exact ⟨18000, rfl, by omega⟩
  obtain ⟨m, em, hm⟩ := hx3
  refine ⟨nI m, em, trivial, hK _ ?_⟩
  clear hK
  refine s_seq fun K hK => ?_
  refine ⟨[.leaf (.int 1), .leaf (.int 3), .leaf (.int 7), .leaf (.int 11)], rfl, by show 4 ≤ sizeL; unfold sizeL; omega, _, rfl, rfl, ps, 4, rfl, by omega, by omega, fun y hy hy2 => ⟨trivial, ?_⟩⟩
  have hy3 : ∃ s : Nat, at' [R.D.int 1, .int 3, .int 7, .int 11] y = some (nI s) ∧ 1 ≤ s ∧ s ≤ 11 ∧ (s = 1 ∨ s ∈ [3, 7, 11]) := by
    have : y = 0 ∨ y = 1 ∨ y = 2 ∨ y = 3 := by omega
    rcases this with rfl | rfl | rfl | rfl
    · exact ⟨1, rfl, by omega, by omega, .inl rfl⟩
    · exact ⟨3, rfl, by omega, by omega, .inr (by decide)⟩
    · exact ⟨7, rfl, by omega, by omega, .inr (by decide)⟩
    · exact ⟨11, rfl, by omega, by omega, .inr (by decide)⟩
  obtain ⟨s, es, hs1, hs2, hs3⟩ := hy3
  refine ⟨nI s, es, trivial, hK _ ?_⟩
  clear hK
  refine s_seq fun K hK => ?_
  have fin : ∀ s : Nat, 1 ≤ s → s ≤ 11 → Nat.gcd s n = 1 → K [fz (.vol 0 ps), fz (nI n), fz (nI m), fz (nI s), none] := by
    intro s hs1 hs2 hg
    refine hK _ ?_
    clear hK
    refine ⟨_, rfl, by omega, by omega, fun i acc => ∃ zs : List PySem.Str, zs.length = i ∧ acc = zs.map (fun z => .leaf (.str z)) ∧ (∀ z ∈ zs, NameOk z) ∧ zs.map (fun z => lval z.cps.toList) = (List.range i).map fun j => m + (j * s) % n + 1, ⟨[], rfl, rfl, by simp, rfl⟩, ?_, ?_⟩
    · rintro i r acc hr ⟨zs, hl, rfl, hok, hlv⟩
      have hi := (List.getElem?_eq_some_iff.mp hr).1
      rw [rng_len] at hi
      have hi : i < n := by omega
      rw [rng_get hr]
      refine ⟨by rw [List.length_map, hl]; unfold sizeL; omega, trivial, rfl, _, rfl, _, rfl, _, rfl, .inr ⟨by omega, by omega⟩, _, rfl, by omega, rfl, m + (i * s) % n, ?_, ?_, fun z hz hzv => ⟨trivial, _, rfl, zs ++ [z], by rw [List.length_append, List.length_singleton, hl], by rw [List.map_append] <;> rfl, ?_, ?_⟩⟩
      · show [fz (.int ((m : Int) + (0 + (i : Int)) * (s : Int) % (n : Int)))] = [fz (nI (m + (i * s) % n))]
        rw [Int.zero_add]
        rfl
      · have := Nat.mod_lt (i * s) (show 0 < n by omega)
        omega
      · intro w hw
        rcases List.mem_append.mp hw with hw | hw
        · exact hok w hw
        · rw [List.mem_singleton.mp hw]
          exact hz
      · rw [List.map_append, hlv, List.range_succ, List.map_append]
        show _ ++ [lval z.cps.toList] = _ ++ [m + i * s % n + 1]
        rw [hzv]
    · rintro acc ⟨zs, hl, rfl, hok, hlv⟩
      rw [rng_len] at hl hlv
      have hl : zs.length = n := by omega
      rw [show ((n : Int)).toNat = n by omega] at hlv
      have eg : (List.range n).map (fun k => zs.getD k "") = zs := by
        apply List.ext_getElem
        · rw [List.length_map, List.length_range, hl]
        · intro k a b
          rw [List.getElem_map, List.getElem_range, List.getD_eq_getElem?_getD, List.getElem?_eq_getElem b] <;> rfl
      have h2 := h (fun k => zs.getD k "") ⟨?_, ?_⟩
      · have e3 : (List.range n).map (fun k => OT.leaf (nS (fun k => zs.getD k "") k)) = zs.map fun z => .leaf (.str z) := by
          have := congrArg (List.map fun z => OT.leaf (R.D.str z)) eg
          rw [List.map_map] at this
          exact this
        rw [e3] at h2
        exact ⟨trivial, h2⟩
      · rw [eg]
        have nd : ((List.range n).map fun j => m + (j * s) % n + 1).Nodup := List.pairwise_map.mpr (List.nodup_range.imp_of_mem fun ha hb hne e => hne (stride_inj hg (List.mem_range.mp ha) (List.mem_range.mp hb) (by omega)))
        rw [← hlv] at nd
        exact (List.pairwise_map.mp nd).imp fun hne e => hne (congrArg (fun z : PySem.Str => lval z.cps.toList) e)
      · intro k hk
        have hk := List.mem_range.mp hk
        rw [List.getD_eq_getElem?_getD, List.getElem?_eq_getElem (by omega)]
        exact hok _ (List.getElem_mem _)
  by_cases hd : n % s = 0
  · refine if_of true (fun P hP => ⟨_, rfl, _, rfl, by show (0 : Int) < (s : Int); omega, ?_⟩) (fun _ => ⟨trivial, fin 1 (by omega) (by omega) (Nat.gcd_one_left n)⟩) (fun q => absurd q (by decide))
    dsimp only [mC]
    show oEq false (.fz (.int ((n : Int) % (s : Int)))) (.fz (.int 0)) _
    rw [w_eq_int, decide_eq_true (by omega)]
    exact hP
  · refine if_of false (fun P hP => ⟨_, rfl, _, rfl, by show (0 : Int) < (s : Int); omega, ?_⟩) (fun q => absurd q (by decide)) (fun _ => fin s hs1 hs2 ?_)
    · dsimp only [mC]
      show oEq false (.fz (.int ((n : Int) % (s : Int)))) (.fz (.int 0)) _
      rw [w_eq_int, decide_eq_false (by omega)]
      exact hP
    · rcases hs3 with rfl | hs3
      · exact Nat.gcd_one_left n
      · exact stride_cop h40 h1 hs3 hd

theorem wp_law_row (cs : Cs) (ss : R.Env) (Q : Rs → R.Env → Prop) (h : (F_law_row cs).io ss Q) : m_law_row cs (ss ++ List.replicate 5 none) { nx := fun e => Q (.fz .non) (outs [] 2 e), rt := fun r e => Q r (outs [] 2 e) } := by
  obtain ⟨ps, lim, hlim, rfl, h⟩ := h
  unfold m_law_row
  refine s_seq fun K hK => ?_
  refine ⟨_, rfl, [.leaf (.int 1), .leaf (.int 2), .leaf (.int 3), .leaf (.int 9), .leaf (.int 9)], rfl, by show 5 ≤ sizeL; unfold sizeL; omega, rfl, ps, [.int 1, .int 2, .int 3, .int 9, .int 9], rfl, by simp, by decide, fun d hd => ⟨trivial, trivial, hK _ ?_⟩⟩
  obtain ⟨cap, rfl, hc1, hc2⟩ : ∃ cap : Int, d = .int cap ∧ 1 ≤ cap ∧ cap ≤ 9 := by
    simp only [List.mem_cons, List.not_mem_nil, or_false] at hd
    rcases hd with rfl | rfl | rfl | rfl | rfl
    · exact ⟨_, rfl, by omega, by omega⟩
    · exact ⟨_, rfl, by omega, by omega⟩
    · exact ⟨_, rfl, by omega, by omega⟩
    · exact ⟨_, rfl, by omega, by omega⟩
    · exact ⟨_, rfl, by omega, by omega⟩
  refine s_seq fun K hK => ?_
  refine ⟨[], rfl, Nat.zero_le _, trivial, hK _ ?_⟩
  refine s_seq fun K hK => ?_
  refine ⟨_, rfl, trivial, hK _ ?_⟩
  refine s_seq fun K hK => ?_
  refine ⟨_, rfl, [.leaf (.int 3), .leaf (.int 6), .leaf (.int 30)], rfl, by show 3 ≤ sizeL; unfold sizeL; omega, _, rfl, rfl, ps, 3, rfl, by omega, by omega, fun x hx hx2 => ⟨trivial, ?_⟩⟩
  have hx3 : ∃ m : Int, at' [R.D.int 3, .int 6, .int 30] x = some (.int m) ∧ 3 ≤ m ∧ m ≤ 30 := by
    have : x = 0 ∨ x = 1 ∨ x = 2 := by omega
    rcases this with rfl | rfl | rfl
    · exact ⟨3, rfl, by omega, by omega⟩
    · exact ⟨6, rfl, by omega, by omega⟩
    · exact ⟨30, rfl, by omega, by omega⟩
  obtain ⟨m, em, hm1, hm2⟩ := hx3
  refine ⟨.int m, em, rfl, ps, m, rfl, by omega, by omega, fun y hy hy2 => ⟨trivial, by omega, by omega, rfl, ?_⟩⟩
  refine ⟨fun i e => ∃ (sz : List Nat) (left : Nat) (y5 y6 : Option Rs), sz.length = i ∧ (∀ s ∈ sz, 1 ≤ s ∧ s ≤ 9) ∧ sz.sum + left = sz.length + lim ∧ e = [fz (.vol 0 ps), fz (nI lim), fz (.int cap), some (.nw (.lst (sz.map fun n => .leaf (nI n)))), fz (nI left), y5, y6], ⟨[], lim, _, _, rfl, (fun x hx => absurd hx (by simp)), by simp, rfl⟩, ?_, ?_⟩
  · clear hK
    rintro i r e hr ⟨sz, left, y5, y6, hl, hs, hsum, rfl⟩
    have hi := (List.getElem?_eq_some_iff.mp hr).1
    rw [rng_len] at hi
    rw [rng_get hr]
    refine ⟨trivial, ?_⟩
    refine s_seq fun K hK => ?_
    refine ⟨_, rfl, _, rfl, _, rfl, rfl, ps, min (min cap ((left : Int) + 1)) 9, rfl, by omega, by omega, fun z hz hz2 => ⟨trivial, trivial, hK _ ?_⟩⟩
    clear hK
    obtain ⟨s, es, hs1, hs2, hs3⟩ : ∃ s : Nat, 1 + z = (s : Int) ∧ 1 ≤ s ∧ s ≤ 9 ∧ s ≤ left + 1 := ⟨(1 + z).toNat, by omega, by omega, by omega, by omega⟩
    rw [show (R.D.int (1 + z)) = nI s by rw [es] <;> rfl]
    refine s_seq fun K hK => ?_
    refine ⟨⟨_, rfl⟩, _, rfl, by rw [List.length_map, hl]; unfold sizeL; omega, _, rfl, _, rfl, hK _ ?_⟩
    clear hK
    refine ⟨_, rfl, _, rfl, trivial, trivial, ?_⟩
    refine ⟨sz ++ [s], left + 1 - s, some (.fz (.int (0 + (i : Int)))), some (.fz (nI s)), by rw [List.length_append, List.length_singleton, hl], fun x hx => ?_, ?_, ?_⟩
    · rcases List.mem_append.mp hx with hx | hx
      · exact hs x hx
      · rw [List.mem_singleton.mp hx]
        exact ⟨hs1, hs2⟩
    · rw [List.sum_append, List.length_append, List.length_singleton, List.sum_singleton]
      omega
    · rw [← snoc_leaf]
      show [_, _, _, _, fz (.int ((left : Int) - (s : Int) + 1)), _, _] = [_, _, _, _, fz (.int ((left + 1 - s : Nat) : Int)), _, _]
      rw [show (left : Int) - (s : Int) + 1 = ((left + 1 - s : Nat) : Int) by omega] <;> rfl
  · rintro e ⟨sz, left, y5, y6, hl, hs, hsum, rfl⟩
    rw [rng_len] at hl
    refine hK _ ?_
    clear hK
    have hlen : 1 ≤ sz.length ∧ sz.length ≤ 30 := by omega
    have hcut : cut' (sz.map nI) none (some (-1)) = (sz.take (sz.length - 1)).map nI := by rw [cut_last, List.length_map, List.map_take]
    refine ⟨_, nL sz, rfl, by rw [leafs_nI]; exact fz_lst _, ?_⟩
    refine ⟨_, rfl, ?_⟩
    simp only [mCons, mNil, mLc]
    refine it_sl (ds := sz.map nI) (l := none) (h := some (-1)) rfl (fun _ q => q) (fun _ q => q) ?_
    rw [hcut]
    refine ⟨fun i acc => ∃ fw : List Nat, fw.length = i ∧ (∀ j, j < i → pk fw j < pk sz j) ∧ acc = fw.map fun n => .leaf (nI n), ⟨[], rfl, (fun j hj => absurd hj (Nat.not_lt_zero j)), rfl⟩, ?_, ?_⟩
    · rintro i r acc hr ⟨fw, hf, hf2, rfl⟩
      obtain ⟨hi, rfl⟩ := get_nI hr
      rw [List.length_take] at hi
      have ht : pk (sz.take (sz.length - 1)) i = pk sz i := by
        rw [pk_lt (by rw [List.length_take]; omega), pk_lt (by omega), List.getElem_take]
      rw [ht]
      have h1 := hs _ (pk_mem (show i < sz.length by omega))
      refine ⟨by rw [List.length_map, hf]; unfold sizeL; omega, trivial, rfl, ?_⟩
      refine ⟨_, rfl, _, rfl, rfl, ps, _, rfl, by omega, by omega, fun z hz hz2 => ⟨trivial, .leaf (.int z), rfl, fw ++ [z.toNat], by rw [List.length_append, List.length_singleton, hf], fun j hj => ?_, ?_⟩⟩
      · rw [pk_snoc]
        split
        · exact hf2 j (by omega)
        · have : j = i := by omega
          subst this
          rw [if_pos (by omega)]
          omega
      · rw [← snoc_leaf]
        show _ ++ [OT.leaf (.int z)] = _ ++ [OT.leaf (.int ((z.toNat : Nat) : Int))]
        rw [Int.toNat_of_nonneg hz]
    · rintro acc ⟨fw, hf, hf2, rfl⟩
      rw [List.length_map, List.length_map, List.length_take] at hf
      refine ⟨_, rfl, by show 2 ≤ sizeL; unfold sizeL; omega, trivial, ?_⟩
      exact h sz fw ⟨by omega, by omega, hs, by omega, by omega, fun j hj => hf2 j (by rw [List.length_map, List.length_map, List.length_take]; omega)⟩ (by omega)

theorem wp_law_member_count (cs : Cs) (ss : R.Env) (Q : Rs → R.Env → Prop) (h : (F_law_member_count cs).io ss Q) : m_law_member_count cs (ss ++ List.replicate 1 none) { nx := fun e => Q (.fz .non) (outs [] 2 e), rt := fun r e => Q r (outs [] 2 e) } := by
  obtain ⟨sz, fw, ps, hR, rfl, h⟩ := h
  have hL := hR.leastN
  unfold m_law_member_count
  refine s_seq fun K hK => ?_
  refine ⟨_, rfl, _, _, rfl, ints_nI sz, ?_⟩
  rw [sum_cast]
  refine ⟨_, rfl, _, rfl, trivial, trivial, hK _ ?_⟩
  clear hK
  rw [show (R.D.int (((sz.sum : Nat) : Int) - (((sz.map nI).map OT.leaf).length : Nat) + 1)) = nI (least sz (fw.length + 1)) by rw [List.length_map, List.length_map, hL.1] <;> rfl]
  generalize least sz (fw.length + 1) = L at *
  refine ⟨_, rfl, _, rfl, _, rfl, trivial, _, rfl, trivial, [.leaf (.int 1), .leaf (.int (min 4 (41 - (L : Int)))), .leaf (.int (41 - (L : Int)))], rfl, by show 3 ≤ sizeL; unfold sizeL; omega, _, rfl, rfl, ps, 3, rfl, by omega, by omega, fun x hx hx2 => ⟨trivial, ?_⟩⟩
  have hx3 : ∃ m : Int, at' [R.D.int 1, .int (min 4 (41 - (L : Int))), .int (41 - (L : Int))] x = some (.int m) ∧ 1 ≤ m ∧ m ≤ 41 - (L : Int) := by
    have : x = 0 ∨ x = 1 ∨ x = 2 := by omega
    rcases this with rfl | rfl | rfl
    · exact ⟨_, rfl, by omega, by omega⟩
    · exact ⟨_, rfl, by omega, by omega⟩
    · exact ⟨_, rfl, by omega, by omega⟩
  obtain ⟨m, em, hm1, hm2⟩ := hx3
  refine ⟨.int m, em, rfl, ps, m, rfl, by omega, by omega, fun y hy hy2 => ⟨trivial, trivial, ?_⟩⟩
  rw [show (L : Int) + y = ((L + y.toNat : Nat) : Int) by omega]
  exact h _ (by omega) (by omega)

theorem wp_law_step (cs : Cs) (ss : R.Env) (Q : Rs → R.Env → Prop) (h : (F_law_step cs).io ss Q) : m_law_step cs (ss ++ List.replicate 5 none) { nx := fun e => Q (.fz .non) (outs [] 3 e), rt := fun r e => Q r (outs [] 3 e) } := by
  obtain ⟨sz, fw, g, x0, q0, cts, hR, hV, hb0, rfl, h⟩ := h
  have h30 := hR.l1
  have hl0 := hR.l0
  have hfl := hR.fl
  have hvl0 := val_len hV
  unfold m_law_step
  generalize hCS : csc sz fw cts x0 q0 = CS at *
  refine s_seq fun K hK => ?_
  refine ⟨_, rfl, sL g (x0 :: q0), rfl, trivial, hK _ ?_⟩
  clear hK
  refine s_seq fun K hK => ?_
  dsimp only [mAsgG]
  refine lc_any ((cts.map (sL g)).map Rs.fz) true (fun k => .lst ((pc cts k).map fun n => .leaf (nS g n))) (fun Q' z => it_st (g := g) (q := x0 :: q0) (cts := cts) rfl z) (by rw [List.length_map, List.length_map]; unfold sizeL; omega) (fun k r hr => ?_) ?_
  · obtain ⟨hk, rfl⟩ := get_sL hr
    refine ⟨trivial, rfl, _, rfl, _, rfl, ?_⟩
    rw [← leafs_nS]
    exact item_snoc (out := fun k => OT.lst ((pc cts k).map fun n => .leaf (nS g n)))
  rw [own_range]
  refine ⟨trivial, hK _ ?_⟩
  clear hK
  obtain ⟨c0, cs0, rfl⟩ : ∃ c cs, cts = c :: cs := by
    cases cts with
    | nil => simp at hvl0; omega
    | cons c cs => exact ⟨c, cs, rfl⟩
  have htot : totM (c0 :: cs0) = c0.length + totM cs0 := by simp [totM]
  refine s_seq fun K hK => ?_
  refine ⟨⟨_, rfl⟩, ownS g (c0 :: cs0), 0, rfl, ixN_nat (j := 0) (by unfold ownS; simp), by decide, c0.map (fun n => .leaf (nS g n)), ((x0 :: q0).map (nS g)).map .leaf, rfl, rfl, by rw [List.length_map]; unfold sizeL; omega, 0, 0, nS g x0, rfl, by omega, by omega, ?_, rfl, hK _ ?_⟩
  · rw [List.length_map, List.length_map]
    exact ixN_nat (j := 0) (by simp)
  clear hK
  rw [snoc_nS]
  show mSeq _ _ [fz (nL sz), fz (nL fw), fz (stD g (x0 :: q0) (c0 :: cs0)), some (.nw (.lst ((q0.map (nS g)).map .leaf))), some (.nw (.lst (ownS g ((c0 ++ [x0]) :: cs0)))), none, none, none] _
  rw [← leafs_nS]
  refine s_seq fun K hK => ?_
  refine ⟨_, rfl, _, rfl, rfl, fun j e => ∃ (pre : List (List Nat)) (old : List Nat) (post : List (List Nat)) (x : Nat) (q : List Nat) (y5 y6 y7 : Option Rs), NoEx [y5, y6, y7] ∧ pre.length = j ∧ j < sz.length ∧ Val (sz.drop pre.length) (old :: post) ∧ q.length + old.length + totM post ≤ 64 ∧
    CS = (pre ++ (csc (sz.drop pre.length) (fw.drop pre.length) (old :: post) x q).1, (csc (sz.drop pre.length) (fw.drop pre.length) (old :: post) x q).2) ∧
    e = [fz (nL sz), fz (nL fw), fz (stD g (x0 :: q0) (c0 :: cs0)), some (.nw (.lst (q.map fun n => .leaf (nS g n)))), some (.nw (.lst (ownS g (pre ++ (old ++ [x]) :: post)))), y5, y6, y7], ⟨[], c0, cs0, x0, q0, none, none, none, fun t m => by simp at m, rfl, hl0, hV, by omega, hCS.symm, rfl⟩, ?_, ?_⟩
  · clear hK
    rintro j r e hj0 ⟨pre, old, post, x, q, y5, y6, y7, hne, rfl, hj, hv, hb, hc, rfl⟩
    obtain ⟨_, rfl⟩ := get_enum hj0
    clear hj0
    have hdr := drop_pk hj
    rw [hdr] at hv hc
    have hvl2 := val_len hv
    have hpl : post.length + (pre.length + 1) = sz.length := by
      rw [List.length_cons, List.length_cons, List.length_drop] at hvl2
      omega
    have ho : old.length < pk sz pre.length := by cases hv with | cons a _ => exact a
    have hvp : Val (sz.drop (pre.length + 1)) post := by cases hv with | cons _ a => exact a
    have hrl : (old ++ [x]).length = old.length + 1 := by rw [List.length_append, List.length_singleton]
    have hol : (ownS g (pre ++ (old ++ [x]) :: post)).length = sz.length := by rw [ownS_len, List.length_append, List.length_cons]; omega
    have h9 := (hR.s1 _ (pk_mem hj)).2
    refine gT2 ?_
    refine s_seq fun K hK => ?_
    refine if_of (decide (old.length + 1 < pk sz pre.length)) (fun P hP => ⟨_, rfl, _, rfl, _, _, rfl, at_nat ownS_at, _, rfl, _, rfl, trivial, ?_⟩) (fun hlt => ?_) (fun hlt => hK _ ?_)
    · show P (decide (((((old ++ [x]).map fun n => OT.leaf (nS g n)).length : Nat) : Int) < (pk sz pre.length : Nat)))
      rw [List.length_map, hrl, show decide (((old.length + 1 : Nat) : Int) < (pk sz pre.length : Nat)) = decide (old.length + 1 < pk sz pre.length) from by simp only [Int.ofNat_lt]]
      exact hP
    · have hlt := of_decide_eq_true hlt
      have hcs2 : csc (pk sz pre.length :: sz.drop (pre.length + 1)) (fw.drop pre.length) (old :: post) x q = ((old ++ [x]) :: post, q) := by
        cases hd : sz.drop (pre.length + 1) with
        | nil => rw [csc, if_pos (by omega)]
        | cons s2 ss => rw [csc, if_pos (by omega)]
      rw [hcs2] at hc
      refine ⟨_, sC g (pre ++ (old ++ [x]) :: post), rfl, ownS_fz g _, _, sL g q, rfl, by rw [leafs_nS]; exact fz_lst _, _, rfl, _, rfl, _, rfl, by show 2 ≤ sizeL; unfold sizeL; omega, _, rfl, by show 2 ≤ sizeL; unfold sizeL; omega, trivial, h _ .non ?_⟩
      rw [hc]
      rfl
    clear hK
    have hfull : old.length + 1 = pk sz pre.length := by have := of_decide_eq_false hlt; omega
    have hfull2 : (old ++ [x]).length = pk sz pre.length := by rw [hrl]; exact hfull
    generalize hrow : old ++ [x] = row at *
    refine s_seq fun K hK => ?_
    refine ⟨⟨_, rfl⟩, _, rfl, ownS g (pre ++ row :: post), pre.length, rfl, ixN_nat (by rw [hol]; omega), by decide, .lst (row.map fun n => .leaf (nS g n)), tree_at rfl ?_, rfl, hK _ ?_⟩
    · show ((ownS g (pre ++ row :: post))[pre.length]?).bind _ = _
      rw [ownS_at]
      rfl
    clear hK
    have hput : (OT.lst (ownS g (pre ++ row :: post))).put [pre.length] (.leaf .any) = .lst ((ownS g (pre ++ row :: post)).set pre.length (.leaf .any)) := put_kid (t := .lst (ownS g (pre ++ row :: post))) ownS_at
    show mSeq _ _ [fz (nL sz), fz (nL fw), fz (stD g (x0 :: q0) (c0 :: cs0)), some (.nw (.lst (q.map fun n => .leaf (nS g n)))), some (.nw ((OT.lst (ownS g (pre ++ row :: post))).put [pre.length] (.leaf .any))), fz (nI pre.length), fz (nI (pk sz pre.length)), some (.nw (.lst (row.map fun n => .leaf (nS g n))))] _
    rw [hput]
    have hset : ((ownS g (pre ++ row :: post)).set pre.length (.leaf .any)).set pre.length (.lst []) = ownS g (pre ++ [] :: post) := by
      rw [List.set_set]
      exact ownS_set (d := [])
    refine s_seq fun K hK => ?_
    refine ⟨[], rfl, Nat.zero_le _, ⟨_, rfl⟩, _, rfl, _, pre.length, _, rfl, rfl, ixN_nat (by rw [List.length_set, hol]; omega), hK _ ?_⟩
    clear hK
    show mSeq _ _ [fz (nL sz), fz (nL fw), fz (stD g (x0 :: q0) (c0 :: cs0)), some (.nw (.lst (q.map fun n => .leaf (nS g n)))), some (.nw (.lst (((ownS g (pre ++ row :: post)).set pre.length (.leaf .any)).set pre.length (.lst [])))), fz (nI pre.length), fz (nI (pk sz pre.length)), some (.nw (.lst (row.map fun n => .leaf (nS g n))))] _
    rw [hset]
    have hpp : pre ++ [] :: post = (pre ++ [[]]) ++ post := by rw [List.append_assoc] <;> rfl
    have hpl1 : (pre ++ [[]]).length = pre.length + 1 := by rw [List.length_append, List.length_singleton]
    refine s_seq fun K hK => ?_
    refine if_of (decide (pre.length + 1 = sz.length)) (fun P hP => ⟨_, rfl, _, rfl, _, rfl, trivial, ?_⟩) (fun hz => ?_) (fun hz => hK _ ?_)
    · show oEq false (.fz (.int (pre.length : Nat))) (.fz (.int ((((sz.map nI).map OT.leaf).length : Nat) - 1))) _
      rw [w_eq_int, List.length_map, List.length_map, Bool.bne_false, show decide ((pre.length : Int) = (sz.length : Nat) - 1) = decide (pre.length + 1 = sz.length) from by
        by_cases z : pre.length + 1 = sz.length
        · rw [decide_eq_true z, decide_eq_true (by omega)]
        · rw [decide_eq_false z, decide_eq_false (by omega)]]
      exact hP
    · have hz := of_decide_eq_true hz
      have hd : sz.drop (pre.length + 1) = [] := List.drop_eq_nil_of_le (by omega)
      have hpost : post = [] := List.eq_nil_of_length_eq_zero (by omega)
      subst hpost
      have hcs2 : csc (pk sz pre.length :: sz.drop (pre.length + 1)) (fw.drop pre.length) [old] x q = ([[]], q ++ row) := by rw [hd, csc, if_neg (by omega), hrow]
      rw [hcs2] at hc
      refine ⟨_, sL g row, rfl, by rw [leafs_nS]; exact fz_lst _, _, sC g (pre ++ [[]]), rfl, ownS_fz g _, _, rfl, _, rfl, .inl ⟨_, _, leaves_nS g _, rfl, by rw [List.length_map, List.length_map]; unfold sizeL; omega, _, rfl, _, rfl, by show 2 ≤ sizeL; unfold sizeL; omega, _, rfl, _, rfl, by show 2 ≤ sizeL; unfold sizeL; omega, trivial, h _ (sL g row) ?_⟩⟩
      rw [hc, OT.fzd, fzdAll, OT.fzd, fzdAll, fzd_lst, ← List.map_append]
      rfl
    clear hK
    have hz := of_decide_eq_false hz
    have hj2 : pre.length + 1 < sz.length := by omega
    have hf1 : pre.length < fw.length := by omega
    have hfi := hR.fi pre.length hf1
    obtain ⟨o2, post2, rfl⟩ : ∃ o2 post2, post = o2 :: post2 := by
      cases post with
      | nil => simp at hpl; omega
      | cons a b => exact ⟨a, b, rfl⟩
    rw [hpp]
    have hto : totM (o2 :: post2) = o2.length + totM post2 := by simp [totM]
    have hat2 : (ownS g ((pre ++ [[]]) ++ o2 :: post2))[pre.length + 1]? = some (.lst (o2.map fun n => .leaf (nS g n))) := by
      have e := ownS_at (g := g) (p := pre ++ [[]]) (c := o2) (r := post2)
      rw [hpl1] at e
      exact e
    refine s_seq fun K hK => ?_
    refine ⟨⟨_, rfl⟩, _, rfl, ownS g ((pre ++ [[]]) ++ o2 :: post2), pre.length + 1, rfl, ixN_nat (j := pre.length + 1) (by rw [ownS_len, List.length_append, hpl1, List.length_cons]; rw [List.length_cons] at hpl; omega), o2.map (fun n => .leaf (nS g n)), tree_at rfl ?_, by rw [List.length_map]; unfold sizeL; omega, _, rfl, _, rfl, _, rfl, _, at_get rfl hf1, ixS (.inl rfl) (by rw [hfull2]; exact hfi) ⟨_, rfl, hK _ ?_⟩⟩
    · show ((ownS g ((pre ++ [[]]) ++ o2 :: post2))[pre.length + 1]?).bind _ = _
      rw [hat2]
      rfl
    clear hK
    have hp1 : (OT.lst (ownS g ((pre ++ [[]]) ++ o2 :: post2))).put [pre.length + 1] (.lst (o2.map (fun n => OT.leaf (nS g n)) ++ [.leaf (nS g (pk row (pk fw pre.length)))])) = .lst (ownS g ((pre ++ [[]]) ++ (o2 ++ [pk row (pk fw pre.length)]) :: post2)) := by
      rw [put_kid (t := .lst (ownS g ((pre ++ [[]]) ++ o2 :: post2))) hat2, snoc_nS]
      have e2 := ownS_set (g := g) (p := pre ++ [[]]) (c := o2) (d := o2 ++ [pk row (pk fw pre.length)]) (r := post2)
      rw [hpl1] at e2
      show OT.lst ((ownS g ((pre ++ [[]]) ++ o2 :: post2)).set (pre.length + 1) (.lst ((o2 ++ [pk row (pk fw pre.length)]).map fun n => .leaf (nS g n)))) = _
      rw [e2]
    show mAsgG _ _ [fz (nL sz), fz (nL fw), fz (stD g (x0 :: q0) (c0 :: cs0)), some (.nw (.lst (q.map fun n => .leaf (nS g n)))), some (.nw ((OT.lst (ownS g ((pre ++ [[]]) ++ o2 :: post2))).put [pre.length + 1] (.lst (o2.map (fun n => OT.leaf (nS g n)) ++ [.leaf (nS g (pk row (pk fw pre.length)))])))), fz (nI pre.length), fz (nI (pk sz pre.length)), some (.nw (.lst (row.map fun n => .leaf (nS g n))))] _
    rw [hp1]
    have hel : row.take (pk fw pre.length) ++ row.drop (pk fw pre.length + 1) = row.eraseIdx (pk fw pre.length) := (List.eraseIdx_eq_take_drop_succ ..).symm
    have hell : (row.eraseIdx (pk fw pre.length)).length = old.length := by rw [List.length_eraseIdx, if_pos (by rw [hfull2]; exact hfi)]; omega
    have hlt1 : (row.take (pk fw pre.length)).length ≤ 64 := by rw [List.length_take]; omega
    have hlt2 : (row.drop (pk fw pre.length + 1)).length ≤ 64 := by rw [List.length_drop]; omega
    refine ⟨_, rfl, _, rfl, _, rfl, _, rfl, nI (pk fw pre.length), at_get rfl hf1, row.map (nS g), leaves_nS g _, ?_⟩
    show oAdd (.br (.lst (q.map fun n => .leaf (nS g n)))) (Rs.nw (.lst ((cut' (row.map (nS g)) none (some ((pk fw pre.length : Nat) : Int))).map .leaf))).ffz _
    rw [leafs_nS, cutA, ← List.map_take]
    refine w_add_bn (by rw [List.length_map, List.length_map]; unfold sizeL; omega) ⟨_, rfl, _, rfl, _, rfl, nI (pk fw pre.length), at_get rfl hf1, row.map (nS g), leaves_nS g _, ?_⟩
    rw [show cut' (row.map (nS g)) (some (((pk fw pre.length : Nat) : Int) + 1)) none = (row.drop (pk fw pre.length + 1)).map (nS g) from by
      rw [show ((pk fw pre.length : Nat) : Int) + 1 = ((pk fw pre.length + 1 : Nat) : Int) by omega, cutB, List.map_drop]]
    refine w_add_nw (by rw [List.length_append, List.length_map, List.length_map, List.length_map]; unfold sizeL; omega) ⟨trivial, ?_⟩
    refine ⟨pre ++ [[]], o2, post2, pk row (pk fw pre.length), q ++ row.eraseIdx (pk fw pre.length), fz (nI pre.length), fz (nI (pk sz pre.length)), some (.nw (.lst (row.map fun n => .leaf (nS g n)))), fun t m => by simp at m, hpl1, hj2, by rw [hpl1]; exact hvp, ?_, ?_, ?_⟩
    · rw [List.length_append, hell]
      omega
    · have hd := drop_pk hj2
      rw [hc, hpl1, hd, csc, if_neg (by omega), hrow, drop_pk1, rw_drop, List.append_assoc]
      rfl
    · rw [← List.map_append, ← List.map_append, List.append_assoc q, hel, leafs_nS g (q ++ row.eraseIdx (pk fw pre.length))]
      rfl
  · rintro e ⟨pre, old, post, x, q, y5, y6, y7, hne, hp, hj, _⟩
    rw [enum_len] at hj
    exact absurd hj (Nat.lt_irrefl _)

theorem wp_law_queues (cs : Cs) (ss : R.Env) (Q : Rs → R.Env → Prop) (h : (F_law_queues cs).io ss Q) : m_law_queues cs (ss ++ List.replicate 6 none) { nx := fun e => Q (.fz .non) (outs [] 4 e), rt := fun r e => Q r (outs [] 4 e) } := by
  obtain ⟨sz, fw, g, q, T, hR, hS, hT, rfl, h⟩ := h
  have hl0 := hR.l0
  have h30 := hR.l1
  have hq40 : q.length ≤ 40 := by have := hS.hi; omega
  generalize hs0 : (q, List.replicate sz.length ([] : List Nat)) = s0 at *
  have hA : ∀ t, StOk sz fw g (R.adv sz fw t s0).1 (R.adv sz fw t s0).2 := fun t => by rw [← hs0]; exact hS.adv hR t
  unfold m_law_queues
  refine s_seq fun K hK => ?_
  dsimp only [mAsgG, mFz, mTup, mCons, mNil]
  refine ⟨_, rfl, ?_⟩
  refine lc_any ((sz.map nI).map Rs.fz) true (fun _ => .lst []) (fun Q' q => it_var_lst rfl q) (by rw [List.length_map, List.length_map]; unfold sizeL; omega) (fun k r hr => ?_) ?_
  · obtain ⟨hn, rfl⟩ := get_nI hr
    exact ⟨trivial, rfl, [], rfl, Nat.zero_le _, _, rfl, item_snoc (out := fun _ => OT.lst [])⟩
  rw [List.length_map, List.length_map, range_nils, ← own_nils g]
  refine ⟨_, rfl, by show 2 ≤ sizeL; unfold sizeL; omega, stD g q (List.replicate sz.length []), .tup (.cons (.leaf _) (.cons (ownS_fz g _) .nil)), trivial, hK _ ?_⟩
  clear hK
  refine s_seq fun K hK => ?_
  refine ⟨_, rfl, _, rfl, by show 1 ≤ sizeL; unfold sizeL; omega, trivial, hK _ ?_⟩
  clear hK
  refine s_seq fun K hK => ?_
  refine ⟨_, rfl, by show 1 ≤ sizeL; unfold sizeL; omega, _, rfl, _, rfl, ?_⟩
  rw [List.length_map, List.length_map]
  refine w_repD (.int 0) sz.length (by omega) ⟨trivial, hK _ ?_⟩
  clear hK
  have ez : ((List.replicate sz.length (R.D.int 0)).map OT.leaf) = (List.replicate sz.length 0).map fun n => .leaf (nI n) := by rw [List.map_replicate, List.map_replicate] <;> rfl
  rw [ez]
  have e0 : stD g q (List.replicate sz.length []) = stD g (R.adv sz fw 0 s0).1 (R.adv sz fw 0 s0).2 := by rw [← hs0] <;> rfl
  rw [e0]
  show mSeq _ _ [fz (nL sz), fz (nL fw), fz (sL g q), fz (nI T), fz (stD g (R.adv sz fw 0 s0).1 (R.adv sz fw 0 s0).2), some (.nw (.lst [.leaf (sL g q)])), some (.nw (.lst ((List.replicate sz.length 0).map fun n => .leaf (nI n)))), none, none, none] _
  refine s_seq fun K hK => ?_
  refine ⟨_, rfl, by omega, by omega, rfl, fun i e => ∃ (E : List Nat) (y7 y8 y9 : Option Rs), NoEx [y7, y8, y9] ∧ Emp sz E (KT sz fw s0 i) ∧ e = [fz (nL sz), fz (nL fw), fz (sL g q), fz (nI T), fz (stD g (R.adv sz fw i s0).1 (R.adv sz fw i s0).2), some (.nw (.lst (((List.range (i + 1)).map fun t => sL g (R.adv sz fw t s0).1).map .leaf))), some (.nw (.lst (E.map fun n => .leaf (nI n)))), y7, y8, y9], ⟨List.replicate sz.length 0, none, none, none, fun t m => by simp at m, ⟨List.length_replicate, fun c hc => ?_⟩, by rw [← hs0] <;> rfl⟩, ?_, ?_⟩
  · have : pk (List.replicate sz.length 0) c = 0 := by
      unfold pk
      rw [List.getD_eq_getElem?_getD, List.getElem?_replicate]
      split <;> rfl
    rw [this]
    exact ⟨fun z => absurd z (by omega), fun z => absurd (show c < 0 from z) (by omega)⟩
  · clear hK
    rintro i r e hr ⟨E, y7, y8, y9, hne, hE, rfl⟩
    have hi := (List.getElem?_eq_some_iff.mp hr).1
    rw [rng_len] at hi
    have hAi := hA i
    rw [rng_get hr]
    refine ⟨trivial, ?_⟩
    refine s_seq fun K hK => ?_
    refine ⟨trivial, hK _ ?_⟩
    clear hK
    refine s_seq fun K hK => ?_
    have hctl := val_len hAi.val
    have hfl := ful_le (sz := sz) (cs := (R.adv sz fw i s0).2)
    refine ⟨fun m e => ∃ (f : Nat) (E' : List Nat), m + f = ful sz (R.adv sz fw i s0).2 ∧ E'.length = sz.length ∧ (∀ c, c < sz.length → (0 < pk E' c ↔ c < KT sz fw s0 i ∨ c < f)) ∧ e = [fz (nL sz), fz (nL fw), fz (sL g q), fz (nI T), fz (stD g (R.adv sz fw i s0).1 (R.adv sz fw i s0).2), some (.nw (.lst (((List.range (i + 1)).map fun t => sL g (R.adv sz fw t s0).1).map .leaf))), some (.nw (.lst (E'.map fun n => .leaf (nI n)))), fz (.int (0 + (i : Int))), fz (nI f), y9],
      ⟨ful sz (R.adv sz fw i s0).2, 0, E, rfl, hE.1, fun c hc => by rw [hE.2 c hc]; exact ⟨.inl, fun z => z.elim id fun z => absurd z (Nat.not_lt_zero _)⟩, rfl⟩, fun m e he => ?_⟩
    obtain ⟨f, E', hm, hl, hEc, rfl⟩ := he
    have hat := ful_at (f := f) hAi.val (by omega)
    refine mAnd_of (decide (f < sz.length)) (decide ((pc (R.adv sz fw i s0).2 f).length + 1 = pk sz f)) (fun P hP => ⟨_, rfl, _, rfl, _, rfl, trivial, ?_⟩) (fun hlt P hP => ?_) ?_
    · show P (decide ((f : Int) < ((((sz.map nI).map OT.leaf).length : Nat) : Int)))
      rw [List.length_map, List.length_map, show decide ((f : Int) < (sz.length : Int)) = decide (f < sz.length) from decide_eq_decide.mpr (by omega)]
      exact hP
    · have hlt := of_decide_eq_true hlt
      have hc : ((R.adv sz fw i s0).2.map (sL g))[f]? = some (sL g (pc (R.adv sz fw i s0).2 f)) := by rw [List.getElem?_map, List.getElem?_eq_getElem (by omega), pc_lt (by omega)] <;> rfl
      refine ⟨_, rfl, sC g (R.adv sz fw i s0).2, rfl, _, rfl, sL g (pc (R.adv sz fw i s0).2 f), at_nat hc, _, rfl, ?_⟩
      refine ⟨_, rfl, _, rfl, nI (pk sz f), at_get rfl hlt, ?_⟩
      show oEq false (.fz (.int (((((pc (R.adv sz fw i s0).2 f).map (nS g)).map OT.leaf).length : Nat) + 1))) (.fz (.int (pk sz f : Nat))) _
      rw [w_eq_int, List.length_map, List.length_map, Bool.bne_false, show decide (((pc (R.adv sz fw i s0).2 f).length : Int) + 1 = (pk sz f : Nat)) = decide ((pc (R.adv sz fw i s0).2 f).length + 1 = pk sz f) from decide_eq_decide.mpr (by omega)]
      exact hP
    by_cases hgo : f < ful sz (R.adv sz fw i s0).2
    · obtain ⟨h1, h2⟩ := hat.mp hgo
      rw [decide_eq_true h1, decide_eq_true h2]
      show if true = true then _ else _
      rw [if_pos rfl]
      refine s_seq fun K2 hK2 => ?_
      have hEat : (E'.map fun n => OT.leaf (nI n))[f]? = some (.leaf (nI (pk E' f))) := by rw [List.getElem?_map, List.getElem?_eq_getElem (by omega), pk_lt (by omega)] <;> rfl
      refine ⟨_, rfl, _, rfl, _, _, rfl, at_nat hEat, ⟨_, rfl⟩, _, rfl, _, f, _, rfl, rfl, ixN_nat (by rw [List.length_map]; omega), hK2 _ ?_⟩
      clear hK2
      show mAsgG _ _ [fz (nL sz), fz (nL fw), fz (sL g q), fz (nI T), fz (stD g (R.adv sz fw i s0).1 (R.adv sz fw i s0).2), some (.nw (.lst (((List.range (i + 1)).map fun t => sL g (R.adv sz fw t s0).1).map .leaf))), some (.nw (.lst ((E'.map fun n => .leaf (nI n)).set f (.leaf (nI (pk E' f + 1)))))), fz (.int (0 + (i : Int))), fz (nI f), y9] _
      rw [set_leaf]
      refine ⟨_, rfl, trivial, m - 1, by omega, f + 1, E'.set f (pk E' f + 1), by omega, by rw [List.length_set, hl], fun c hc => ?_, rfl⟩
      rw [pk_set (by omega)]
      by_cases hcf : c = f
      · rw [if_pos hcf]
        exact ⟨fun _ => .inr (by omega), fun _ => by omega⟩
      · rw [if_neg hcf, hEc c hc]
        exact ⟨fun z => z.imp id (by omega), fun z => z.imp id (by omega)⟩
    · rw [show (decide (f < sz.length) && decide ((pc (R.adv sz fw i s0).2 f).length + 1 = pk sz f)) = false by
        rw [← Bool.decide_and]
        exact decide_eq_false fun z => hgo (hat.mpr z)]
      show if false = true then _ else _
      rw [if_neg Bool.false_ne_true]
      refine hK _ ?_
      clear hK
      have hf : f = ful sz (R.adv sz fw i s0).2 := by omega
      refine s_seq fun K hK => ?_
      refine step_call hR hAi rfl rfl rfl ⟨trivial, hK _ ?_⟩
      clear hK
      refine ⟨⟨_, rfl⟩, _, rfl, by rw [List.length_map, List.length_map, List.length_range]; unfold sizeL; omega, _, rfl, sL g (stp sz fw (R.adv sz fw i s0)).1, rfl, _, rfl, ?_⟩
      have e1 : KT sz fw s0 (i + 1) = max (KT sz fw s0 i) (ful sz (R.adv sz fw i s0).2) := rfl
      have e2 := adv_snoc sz fw i s0
      refine ⟨E', fz (.int (0 + (i : Int))), fz (nI f), y9, ?_, ⟨hl, fun c hc => ?_⟩, ?_⟩
      · intro t m
        simp only [List.mem_cons, List.not_mem_nil, or_false] at m
        rcases m with m | m | m
        · cases m
        · cases m
        · exact hne t (by rw [m]; simp)
      · rw [hEc c hc, e1, hf]
        omega
      · rw [e2, List.range_succ (n := i + 1), List.map_append, List.map_append, List.map_singleton, List.map_singleton, e2]
        rfl
  · rintro e ⟨E, y7, y8, y9, hne, hE, rfl⟩
    rw [rng_len, Int.toNat_natCast] at hE
    rw [rng_len, Int.toNat_natCast]
    refine hK _ ?_
    clear hK
    refine ⟨_, nL E, rfl, by rw [leafs_nI]; exact fz_lst _, ?_⟩
    refine ⟨_, _, rfl, fz_lst _, ?_⟩
    exact ⟨_, rfl, _, rfl, _, rfl, by show 2 ≤ sizeL; unfold sizeL; omega, trivial, h E hE⟩

theorem wp_law_simple_row (cs : Cs) (ss : R.Env) (Q : Rs → R.Env → Prop) (h : (F_law_simple_row cs).io ss Q) : m_law_simple_row cs (ss ++ List.replicate 3 none) { nx := fun e => Q (.fz .non) (outs [] 1 e), rt := fun r e => Q r (outs [] 1 e) } := by
  obtain ⟨ps, rfl, h⟩ := h
  unfold m_law_simple_row
  refine s_seq fun K hK => ?_
  refine ⟨_, rfl, rfl, ps, 30, Nat.le_refl _, rfl, fun sz0 fw0 hR0 _ => ⟨trivial, _, rfl, rfl, trivial, trivial, hK _ ?_⟩⟩
  clear hK
  have h30 := hR0.l1
  have hsm := hR0.sm
  obtain ⟨hfs, hfl⟩ := flt_len fun s m => (hR0.s1 s m).1
  refine s_seq fun K hK => ?_
  dsimp only [mAsgG, mFz]
  refine lc_filter (sz0.map nI) (fun d => match d with | .int k => decide (1 < k) | _ => false) (fun Q' q => it_var_lst rfl q) (by rw [List.length_map]; unfold sizeL; omega) (fun k d hd => ?_) ?_
  · obtain ⟨hn, e⟩ := get_nI (by rw [List.getElem?_map, hd] <;> rfl)
    cases e
    refine ⟨[fz (.vol 0 ps), fz (nL sz0), some (.ex (.lst (fw0.map fun n => .leaf (nI n)))), fz (nI (pk sz0 k))], fun P hP => ⟨trivial, hP⟩, rfl, fun P hP => ⟨_, rfl, trivial, hP⟩, fun P hP => ⟨_, rfl, hP⟩⟩
  have efl : (sz0.map nI).filter (fun d => match d with | .int k => decide (1 < k) | _ => false) = (sz0.filter (1 < ·)).map nI := by
    rw [List.filter_map]
    congr 1
    refine List.filter_congr fun n _ => ?_
    show decide ((1 : Int) < (n : Nat)) = decide (1 < n)
    exact decide_eq_decide.mpr (by omega)
  rw [efl]
  refine ⟨_, fz_lst _, trivial, hK _ ?_⟩
  clear hK
  show mSeq _ _ [fz (.vol 0 ps), fz (nL (sz0.filter (1 < ·))), some (.nw (.lst (fw0.map fun n => .leaf (nI n)))), none] _
  have hfa : ∀ s ∈ sz0.filter (1 < ·), 1 < s ∧ s ≤ 9 := fun s m => by
    obtain ⟨m1, m2⟩ := List.mem_filter.mp m
    exact ⟨by simpa using m2, (hR0.s1 s m1).2⟩
  generalize sz0.filter (1 < ·) = sz1 at *
  refine s_seq fun K hK => ?_
  have rest : ∀ sz : List Nat, 0 < sz.length → sz.length ≤ 30 → (∀ s ∈ sz, 1 ≤ s ∧ s ≤ 9) → sz.sum ≤ sz.length + 30 → ((∀ s ∈ sz, 1 < s) ∨ sz.length = 1) → K [fz (.vol 0 ps), fz (nL sz), some (.nw (.lst (fw0.map fun n => .leaf (nI n)))), none] := fun sz h0 h1 hs hsum hbig => by
    refine hK _ ?_
    clear hK
    refine s_seq fun K hK => ?_
    have hcut : cut' (sz.map nI) none (some (-1)) = (sz.take (sz.length - 1)).map nI := by rw [cut_last, List.length_map, List.map_take]
    simp only [mAsgG, mLc]
    refine it_sl (ds := sz.map nI) (l := none) (h := some (-1)) rfl (fun _ q => q) (fun _ q => q) ?_
    rw [hcut]
    refine ⟨fun i acc => ∃ fw : List Nat, fw.length = i ∧ (∀ j, j < i → pk fw j < pk sz j) ∧ acc = fw.map fun n => .leaf (nI n), ⟨[], rfl, (fun j hj => absurd hj (Nat.not_lt_zero j)), rfl⟩, ?_, ?_⟩
    · rintro i r acc hr ⟨fw, hf, hf2, rfl⟩
      obtain ⟨hi, rfl⟩ := get_nI hr
      rw [List.length_take] at hi
      have ht : pk (sz.take (sz.length - 1)) i = pk sz i := by
        rw [pk_lt (by rw [List.length_take]; omega), pk_lt (by omega), List.getElem_take]
      rw [ht]
      have h1 := hs _ (pk_mem (show i < sz.length by omega))
      refine ⟨by rw [List.length_map, hf]; unfold sizeL; omega, trivial, rfl, ?_⟩
      refine ⟨_, rfl, _, rfl, rfl, ps, _, rfl, by omega, by omega, fun z hz hz2 => ⟨trivial, .leaf (.int z), rfl, fw ++ [z.toNat], by rw [List.length_append, List.length_singleton, hf], fun j hj => ?_, ?_⟩⟩
      · rw [pk_snoc]
        split
        · exact hf2 j (by omega)
        · have : j = i := by omega
          subst this
          rw [if_pos (by omega)]
          omega
      · rw [← snoc_leaf]
        show _ ++ [OT.leaf (.int z)] = _ ++ [OT.leaf (.int ((z.toNat : Nat) : Int))]
        rw [Int.toNat_of_nonneg hz]
    · rintro acc ⟨fw, hf, hf2, rfl⟩
      rw [List.length_map, List.length_map, List.length_take] at hf
      have hR1 : Row sz fw := ⟨h0, h1, hs, hsum, by omega, fun j hj => hf2 j (by rw [List.length_map, List.length_map, List.length_take]; omega)⟩
      refine ⟨trivial, hK _ ?_⟩
      clear hK
      show mSeq _ _ [fz (.vol 0 ps), fz (nL sz), some (.nw (.lst (fw.map fun n => .leaf (nI n)))), none] _
      refine s_seq fun K hK => ?_
      have hlast : at' (sz.map nI) (-1) = some (nI (pk sz (sz.length - 1))) := by
        have e : sz = sz.take (sz.length - 1) ++ [pk sz (sz.length - 1)] := by
          have := take_snoc (l := sz) (c := sz.length - 1) (by omega)
          rw [show sz.length - 1 + 1 = sz.length by omega, List.take_length] at this
          exact this
        conv => lhs; rw [e, List.map_append]
        exact at_last _ _
      have hend : ∀ (sz2 fw2 : List Nat), Row sz2 fw2 → Smp sz2 fw2 → K [fz (.vol 0 ps), fz (nL sz2), some (.nw (.lst (fw2.map fun n => .leaf (nI n)))), none] := fun sz2 fw2 hR2 hS2 => by
        refine hK _ ?_
        refine ⟨_, nL fw2, rfl, by rw [leafs_nI]; exact fz_lst _, ?_⟩
        exact ⟨_, rfl, _, rfl, _, rfl, by show 2 ≤ sizeL; unfold sizeL; omega, trivial, h sz2 fw2 hR2 hS2⟩
      have h9 := hs _ (pk_mem (show sz.length - 1 < sz.length by omega))
      refine if_p (and_p ⟨_, rfl, _, hlast, trivial, ?_⟩)
      refine ⟨fun hb => ?_, fun hb => ⟨fun z => absurd z Bool.false_ne_true, fun _ => hend sz fw hR1 (.of hbig)⟩⟩
      have hb := of_decide_eq_true hb
      refine and_p ⟨_, rfl, _, rfl, trivial, ?_⟩
      refine ⟨fun hb2 => ?_, fun hb => ⟨fun z => absurd z Bool.false_ne_true, fun _ => hend sz fw hR1 (.of hbig)⟩⟩
      have hb2 := of_decide_eq_true hb2
      rw [List.length_map, List.length_map] at hb2
      refine ⟨_, rfl, rfl, ps, 3, rfl, by decide, by decide, fun x _ _ => ⟨trivial, ?_⟩⟩
      dsimp only [mC]
      show oEq false (.fz (.int x)) (.fz (.int 0)) _
      rw [w_eq_int]
      refine ⟨fun _ => ?_, fun _ => hend sz fw hR1 (.of hbig)⟩
      refine s_seq fun K2 hK2 => ?_
      refine ⟨⟨_, rfl⟩, _, rfl, by rw [List.length_map, hf]; unfold sizeL; omega, _, rfl, _, rfl, _, hlast, trivial, rfl, ps, _, rfl, by omega, by omega, fun z hz hz2 => ⟨trivial, _, rfl, hK2 _ ?_⟩⟩
      clear hK2
      obtain ⟨f, rfl⟩ : ∃ f : Nat, z = (f : Int) := ⟨z.toNat, by omega⟩
      have hall : ∀ s ∈ sz, 1 < s := by
        rcases hbig with hbig | hbig
        · exact hbig
        · intro s m
          match sz, hbig, m with
          | [s'], _, m =>
            rw [List.mem_singleton.mp m]
            have e : pk [s'] ([s'].length - 1) = s' := rfl
            rw [e] at hb
            omega
      have hR2 : Row (sz ++ [1]) (fw ++ [f]) := by
        refine ⟨by simp, by rw [List.length_append, List.length_singleton]; omega, fun s m => ?_, ?_, ?_, fun j hj => ?_⟩
        · rcases List.mem_append.mp m with m | m
          · exact hs s m
          · rw [List.mem_singleton.mp m]; omega
        · rw [List.sum_append, List.length_append, List.length_singleton, List.sum_singleton]; omega
        · rw [List.length_append, List.length_append, List.length_singleton, List.length_singleton]; have := hR1.fl; omega
        · rw [List.length_append, List.length_singleton] at hj
          have hfl := hR1.fl
          rw [pk_snoc, pk_snoc]
          by_cases hj2 : j < fw.length
          · rw [if_pos hj2, if_pos (by omega)]
            exact hR1.fi j hj2
          · rw [if_neg hj2, if_pos (by omega), if_pos (by omega), show j = sz.length - 1 by omega]
            omega
      dsimp only [mAsgG, mFz, mOp]
      refine ⟨_, rfl, _, rfl, by show 1 ≤ sizeL; unfold sizeL; omega, ?_⟩
      show oAdd (.fz (.lst (sz.map nI))) (Rs.nw (.lst (([1].map nI).map .leaf))).ffz _
      rw [ffz_lst]
      refine .inl ⟨sz.map nI, [1].map nI, rfl, rfl, by rw [List.length_map, List.length_map, List.length_singleton]; unfold sizeL; omega, ?_⟩
      rw [← List.map_append]
      refine ⟨nL (sz ++ [1]), fz_lst ((sz ++ [1]).map nI), trivial, ?_⟩
      have he := hend (sz ++ [1]) (fw ++ [f]) hR2 (.unit hall h0 hR1.fl (by omega))
      rw [← snoc_leaf] at he
      exact he
  refine if_of (decide (sz1 = [])) (fun P hP => ⟨_, rfl, [], rfl, Nat.zero_le _, ?_⟩) (fun hz => ?_) (fun hz => ?_)
  · show oEq false (.fz (nL sz1)) (Rs.nw (.lst (([] : List R.D).map .leaf))).ffz _
    rw [ffz_lst]
    refine oEq_nL (b := []) ?_
    rw [Bool.bne_false]
    exact hP
  · dsimp only [mAsgG, mFz]
    refine ⟨_, rfl, _, rfl, by show 4 ≤ sizeL; unfold sizeL; omega, rfl, ps, [nI 1, nI 2, nI 2, nI 3], ?_, (by intro z; cases z), by show 4 < 5000; omega, fun d hd => ⟨trivial, ?_⟩⟩
    · show [_, some (Rs.nw (.lst (([1, 2, 2, 3].map nI).map .leaf))).lend] = _
      rw [lend_nw (d := .lst ([1, 2, 2, 3].map nI)) (by simp [OT.fzd, fzdAll])] <;> rfl
    have : ∃ p : Nat, d = nI p ∧ 1 ≤ p ∧ p ≤ 3 := by
      simp only [List.mem_cons, List.not_mem_nil, or_false] at hd
      rcases hd with rfl | rfl | rfl | rfl
      · exact ⟨1, rfl, by omega, by omega⟩
      · exact ⟨2, rfl, by omega, by omega⟩
      · exact ⟨2, rfl, by omega, by omega⟩
      · exact ⟨3, rfl, by omega, by omega⟩
    obtain ⟨p, rfl, hp1, hp3⟩ := this
    refine ⟨_, rfl, by show 1 ≤ sizeL; unfold sizeL; omega, nL [p], fz_lst ([p].map nI), trivial, ?_⟩
    exact rest [p] (by simp) (by simp) (fun s m => by rw [List.mem_singleton.mp m]; omega) (by simp; omega) (.inr rfl)
  · have hz := of_decide_eq_false hz
    exact rest sz1 (List.length_pos_iff.mpr hz) (by omega) (fun s m => ⟨by have := (hfa s m).1; omega, (hfa s m).2⟩) (by omega) (.inl fun s m => (hfa s m).1)

theorem wp_law_expected (cs : Cs) (ss : R.Env) (Q : Rs → R.Env → Prop) (h : (F_law_expected cs).io ss Q) : m_law_expected cs (ss ++ List.replicate 2 none) { nx := fun e => Q (.fz .non) (outs [] 3 e), rt := fun r e => Q r (outs [] 3 e) } := by
  obtain ⟨sz, fw, e, K0, h30, hf30, hk, hE, rfl, h⟩ := h
  have hel := hE.1
  unfold m_law_expected
  refine s_seq fun K hK => ?_
  dsimp only [mAsgG, mFz, mB, mCons, mNil]
  refine lc_fltX true ((e.map nI).map Rs.fz) (fun k => nI (pk e k)) (fun k => decide (0 < pk e k)) (fun Q' q => it_var_lst rfl q) (by rw [List.length_map, List.length_map]; unfold sizeL; omega) (fun k r hr => ?_) ?_
  · obtain ⟨hn, rfl⟩ := get_nI hr
    refine ⟨[fz (nL sz), fz (nL fw), fz (nL e), none, fz (nI (pk e k))], fun P hP => ⟨trivial, hP⟩, rfl, fun P hP => ⟨_, rfl, trivial, ?_⟩, fun P hP => ⟨_, rfl, hP⟩⟩
    show P (decide ((0 : Int) < (pk e k : Nat)))
    rw [show decide ((0 : Int) < (pk e k : Nat)) = decide (0 < pk e k) from decide_eq_decide.mpr (by omega)]
    exact hP
  rw [List.length_map, List.length_map]
  rw [List.map_cons, List.map_nil, ffz_lst]
  refine ⟨_, rfl, ?_⟩
  rw [List.length_map, List.length_map, hE.cnt hk]
  refine ⟨trivial, hK _ ?_⟩
  clear hK
  show mRet _ [fz (nL sz), fz (nL fw), fz (nL e), fz (nI K0), none] _
  refine ⟨_, rfl, _, rfl, sz.map nI, rfl, _, rfl, _, rfl, fw.map nI, rfl, _, rfl, _, rfl, ?_⟩
  rw [cutA, cutA, ← List.map_take, ← List.map_take]
  refine ⟨_, rfl, ?_⟩
  show oEq false (.fz (.int (K0 : Nat))) (.fz (.int (((sz.map nI).map OT.leaf).length : Nat))) _
  rw [w_eq_int, List.length_map, List.length_map, Bool.bne_false, show decide ((K0 : Int) = (sz.length : Nat)) = decide (K0 = sz.length) from decide_eq_decide.mpr (by omega)]
  refine ⟨_, rfl, by show 3 ≤ sizeL; unfold sizeL; omega, trivial, ?_⟩
  rw [← leafs_nI, ← leafs_nI]
  exact h

theorem wp_law_with_unit_cups (cs : Cs) (ss : R.Env) (Q : Rs → R.Env → Prop) (h : (F_law_with_unit_cups cs).io ss Q) : m_law_with_unit_cups cs (ss ++ List.replicate 0 none) { nx := fun e => Q (.fz .non) (outs [] 2 e), rt := fun r e => Q r (outs [] 2 e) } := by
  obtain ⟨sz, fw, hR, rfl, h⟩ := h
  have hfl := hR.fl
  have hl0 := hR.l0
  have h30 := hR.l1
  unfold m_law_with_unit_cups
  refine s_seq fun K hK => ?_
  refine if_of (decide (1 < sz.length)) (fun P hP => ⟨_, rfl, _, rfl, trivial, ?_⟩) (fun hz => ?_) (fun hz => hK _ ?_)
  · show P (decide ((1 : Int) < (((sz.map nI).map OT.leaf).length : Nat)))
    rw [List.length_map, List.length_map, show decide ((1 : Int) < (sz.length : Nat)) = decide (1 < sz.length) from decide_eq_decide.mpr (by omega)]
    exact hP
  · have hz := of_decide_eq_true hz
    obtain ⟨e1, e2⟩ := mskU_many hz hfl
    rw [e1, e2, leafs_nI, leafs_nI] at h
    have piece : ∀ (i : Nat) (l : List Nat) (x : Nat) (P : Rs → Prop), l.length ≤ 30 → ([fz (nL sz), fz (nL fw)] : R.Env)[i]? = some (fz (nL l)) → P (.nw (.lst ((([x] ++ l.take 1 ++ [x] ++ l.drop 1).map nI).map .leaf))) →
        mOp oAdd (mOp oAdd (mOp oAdd (mLst (mCons (mC (.int (x : Nat))) mNil)) (mSl (mVar i) mNoP (mPart (mC (.int 1))))) (mLst (mCons (mC (.int (x : Nat))) mNil))) (mSl (mVar i) (mPart (mC (.int 1))) mNoP) [fz (nL sz), fz (nL fw)] P := fun i l x P hl e hP => by
      have o : ∀ P : Rs → Prop, P (.nw (.lst (([x].map nI).map .leaf))) → mLst (mCons (mC (.int (x : Nat))) mNil) [fz (nL sz), fz (nL fw)] P := fun P hP => ⟨_, rfl, by show 1 ≤ sizeL; unfold sizeL; omega, hP⟩
      refine e_add (a := ([x] ++ l.take 1 ++ [x]).map nI) (b := (l.drop 1).map nI) (by simp only [List.length_map, List.length_append, List.length_take, List.length_drop, List.length_singleton]; unfold sizeL; omega) (fun P hP => ?_) (fun P hP => ⟨_, e, l.map nI, rfl, ?_⟩) (by rw [← List.map_append]; exact hP)
      · refine e_add (a := ([x] ++ l.take 1).map nI) (b := [x].map nI) (by simp only [List.length_map, List.length_append, List.length_take, List.length_singleton]; unfold sizeL; omega) (fun P hP => ?_) o (by rw [← List.map_append]; exact hP)
        refine e_add (a := [x].map nI) (b := (l.take 1).map nI) (by simp only [List.length_map, List.length_take, List.length_singleton]; unfold sizeL; omega) o (fun P hP => ⟨_, e, l.map nI, rfl, ?_⟩) (by rw [← List.map_append]; exact hP)
        rw [show (some (1 : Int)) = some ((1 : Nat) : Int) from rfl, cutA, ← List.map_take]
        exact hP
      · rw [show (some (1 : Int)) = some ((1 : Nat) : Int) from rfl, cutB, ← List.map_drop]
        exact hP
    exact piece 0 sz 1 _ h30 rfl (piece 1 fw 0 _ (by omega) rfl ⟨_, rfl, by show 2 ≤ sizeL; unfold sizeL; omega, trivial, h⟩)
  clear hK
  have hz := of_decide_eq_false hz
  obtain ⟨e1, e2⟩ := mskU_one hz hl0 hfl
  rw [e1, e2, leafs_nI, leafs_nI] at h
  refine e_addY (a := [1].map nI) (b := sz.map nI) (ry := .fz (nL sz)) (by simp only [List.length_map, List.length_singleton]; unfold sizeL; omega) rfl (fun P hP => ⟨_, rfl, by show 1 ≤ sizeL; unfold sizeL; omega, hP⟩) (fun P hP => ⟨_, rfl, hP⟩) ?_
  rw [← List.map_append]
  exact ⟨_, rfl, by show 1 ≤ sizeL; unfold sizeL; omega, _, rfl, by show 2 ≤ sizeL; unfold sizeL; omega, trivial, h⟩

theorem wp_law_lists_are_new (cs : Cs) (ss : R.Env) (Q : Rs → R.Env → Prop) (h : F_law_lists_are_new cs ss Q) : m_law_lists_are_new cs (ss ++ List.replicate 1 none) { nx := fun e => Q (.fz .non) (outs [0] 1 e), rt := fun r e => Q r (outs [0] 1 e) } := by
  obtain ⟨a, b, c, ha, hb, rfl, h⟩ := h
  unfold m_law_lists_are_new
  refine s_seq fun K hK => ?_
  refine ⟨_, rfl, _, _, rfl, rfl, b.map nI, leaves_nI b, _, fz_lst _, trivial, hK _ ?_⟩
  clear hK
  show mSeq _ _ [some (.nw (tupT a b c)), fz (nL b)] _
  refine s_seq fun K hK => ?_
  refine ⟨⟨_, rfl⟩, 0, _, 0, rfl, rfl, rfl, _, rfl, by rw [List.length_map]; unfold sizeL; omega, _, rfl, hK _ ?_⟩
  clear hK
  show mSeq _ _ [some (.nw (.tup [.lst ((a.map fun n => OT.leaf (nI n)) ++ [.leaf (.int 0)]), .lst (b.map fun n => .leaf (nI n)), .leaf (.bl c)])), fz (nL b)] _
  generalize OT.lst ((a.map fun n => OT.leaf (nI n)) ++ [.leaf (.int 0)]) = A
  refine s_seq fun K hK => ?_
  have hpb : (R.D.lst (b.map nI)).pd 8 = some (.list (b.map fun (k : Nat) => PyData.int (k : Int))) := by
    show (allOf (R.D.pd 7) (b.map nI)).map PyData.list = _
    rw [pd_ints] <;> rfl
  have hpt : (OT.lst (b.map fun n => .leaf (nI n))).pd 8 = some (.list (b.map fun (k : Nat) => PyData.int (k : Int))) := by
    show (allOfT (OT.pd 7) (b.map fun n => OT.leaf (nI n))).map PyData.list = _
    rw [pdT_ints] <;> rfl
  refine mIfS_ff (fun P hP => or_p ⟨_, rfl, _, _, rfl, rfl, _, rfl, oEq_same hpb hpt hpb ⟨fun z => (by cases z), fun _ => ?_⟩⟩) (hK _ ?_)
  · exact ⟨_, rfl, _, _, rfl, rfl, _, rfl, hP⟩
  clear hK
  refine s_seq fun K hK => ?_
  refine ⟨⟨_, rfl⟩, 1, _, 1, rfl, rfl, rfl, _, rfl, by rw [List.length_map]; unfold sizeL; omega, _, rfl, hK _ ?_⟩
  clear hK
  exact ⟨trivial, h _⟩

theorem wp_law (cs : Cs) (ss : R.Env) (Q : Rs → R.Env → Prop) (h : (F_law cs).io ss Q) : m_law cs (ss ++ List.replicate 16 none) { nx := fun e => Q (.fz .non) (outs [] 1 e), rt := fun r e => Q r (outs [] 1 e) } := by
  obtain ⟨ns, rfl, hn, h⟩ := h
  unfold m_law
  refine s_seq fun K hK => ?_
  refine ⟨_, rfl, _, rfl, by omega, by omega, rfl, fun i e => ∃ y1 y2 y3 y4 y5 y6 y7 y8 y9 y10 y11 y12 y13 y14 y15 y16 : Option Rs, NoEx [y10, y16] ∧ e = [fz (scrD ns), y1, y2, y3, y4, y5, y6, y7, y8, y9, y10, y11, y12, y13, y14, y15, y16], ⟨_, _, _, _, _, _, _, _, _, _, _, _, _, _, _, _, fun t m => by simp at m, rfl⟩, ?_, ?_⟩
  · clear hK
    rintro i r e hr ⟨y1, y2, y3, y4, y5, y6, y7, y8, y9, y10, y11, y12, y13, y14, y15, y16, hne, rfl⟩
    rw [rng_get hr, show (R.D.int (0 + (i : Int))) = nI i by rw [Int.zero_add] <;> rfl]
    refine ⟨trivial, ?_⟩
    refine s_seq fun K hK => ?_
    refine ⟨_, rfl, _, rfl, rfl, ns, i, rfl, trivial, trivial, hK _ ?_⟩
    clear hK
    refine s_seq fun K hK => ?_
    refine ⟨_, rfl, rfl, [], rfl, fun sz fw hR hSm => ⟨trivial, .tup [nL sz, nL fw], .tup (.cons (.leaf _) (.cons (.leaf _) .nil)), gT2_fz (hK _ ?_)⟩⟩
    clear hK
    have hfl := hR.fl
    have hl0 := hR.l0
    have h30 := hR.l1
    have hLL := hR.leastN
    refine s_seq fun K hK => ?_
    refine ⟨_, rfl, _, rfl, _, rfl, rfl, sz, fw, [], hR, rfl, fun n hn1 hn40 => ⟨trivial, rfl, [], n, rfl, by omega, hn40, fun g hg => ⟨trivial, sL g (List.range n), ?_, trivial, hK _ ?_⟩⟩⟩
    · rw [leafs_nS]; exact fz_lst _
    clear hK
    have hS : StOk sz fw g (List.range n) (List.replicate sz.length []) := st_nils hR hg (by rw [List.length_range]; exact hn1) (by rw [List.length_range]; exact hn40)
    refine s_seq fun K hK => ?_
    refine ⟨_, rfl, _, rfl, by show 3 ≤ sizeL; unfold sizeL; omega, _, rfl, rfl, [], 3, rfl, by decide, by decide, fun x hx0 hx1 => ⟨trivial, ?_⟩⟩
    obtain ⟨b, hb, hb1, hb2⟩ : ∃ b : Nat, at' ([10, 40, 121].map nI) x = some (nI b) ∧ 1 ≤ b ∧ b ≤ 121 := by
      obtain ⟨k, rfl⟩ : ∃ k : Nat, x = (k : Int) := ⟨x.toNat, by omega⟩
      match k, hx1 with
      | 0, _ => exact ⟨10, rfl, by omega, by omega⟩
      | 1, _ => exact ⟨40, rfl, by omega, by omega⟩
      | 2, _ => exact ⟨121, rfl, by omega, by omega⟩
      | k + 3, h => omega
    show oIx (Rs.nw (.lst (([10, 40, 121].map nI).map .leaf))).ffz (.fz (.int x)) _
    rw [ffz_lst]
    refine ⟨nI b, hb, rfl, [], b, rfl, by omega, by exact Int.lt_trans (show (b : Int) < 122 by omega) (by decide), fun y hy0 hy1 => ⟨trivial, trivial, hK _ ?_⟩⟩
    clear hK
    obtain ⟨T0, rfl⟩ : ∃ k : Nat, y = (k : Int) := ⟨y.toNat, by omega⟩
    show mSeq _ _ [fz (scrD ns), fz (nI i), fz (.vol 0 []), fz (nL sz), fz (nL fw), fz (sL g (List.range n)), fz (nI T0), y7, y8, y9, y10, y11, y12, y13, y14, y15, y16] _
    refine s_seq fun K hK => ?_
    have rest : ∀ T : Nat, T ≤ 399 → K [fz (scrD ns), fz (nI i), fz (.vol 0 []), fz (nL sz), fz (nL fw), fz (sL g (List.range n)), fz (nI T), y7, y8, y9, y10, y11, y12, y13, y14, y15, y16] := fun T hT => by
      refine hK _ ?_
      clear hK
      generalize hs0 : (List.range n, List.replicate sz.length ([] : List Nat)) = s0 at *
      refine s_seq fun K hK => ?_
      refine ⟨_, rfl, _, rfl, _, rfl, _, rfl, rfl, sz, fw, g, List.range n, T, hR, hS, by omega, rfl, ?_⟩
      rw [hs0]
      refine fun e hE => ⟨trivial, .tup [queL sz fw g s0 T, nL e], .tup (.cons (.leaf _) (.cons (.leaf _) .nil)), gT2_fz (hK _ ?_)⟩
      clear hK
      have eqC := queL_sC sz fw g s0 T
      have hA : ∀ t, StOk sz fw g (R.adv sz fw t s0).1 (R.adv sz fw t s0).2 := fun t => by rw [← hs0]; exact hS.adv hR t
      have hokr : ∀ c ∈ (List.range (T + 1)).map fun t => (R.adv sz fw t s0).1, ∀ n ∈ c, NameOk (g n) := fun c m n hn => by
        obtain ⟨t, _, rfl⟩ := List.mem_map.mp m
        exact (hA t).nms.ok n (List.mem_append_left _ hn)
      have hrl : ((List.range (T + 1)).map fun t => (R.adv sz fw t s0).1).length = T + 1 := by rw [List.length_map, List.length_range]
      have hro : ∀ c ∈ (List.range (T + 1)).map fun t => (R.adv sz fw t s0).1, c.length ≤ 40 := fun c m => by
        obtain ⟨t, _, rfl⟩ := List.mem_map.mp m
        have := (hA t).hi
        omega
      generalize hrows : ((List.range (T + 1)).map fun t => (R.adv sz fw t s0).1) = rows at *
      show mSeq _ _ [fz (scrD ns), fz (nI i), fz (.vol 0 []), fz (nL sz), fz (nL fw), fz (sL g (List.range n)), fz (nI T), fz (queL sz fw g s0 T), fz (nL e), y9, y10, y11, y12, y13, y14, y15, y16] _
      refine s_seq fun K hK => ?_
      dsimp only [mAsgG, mFz]
      refine lc_any ((rows.map (sL g)).map Rs.fz) true (fun k => .lst ((pc rows k).map fun n => .leaf (nS g n))) (fun Q' z => it_var_lst (ds := rows.map (sL g)) (i := 7) (by rw [eqC] <;> rfl) z) (by rw [List.length_map, List.length_map, hrl]; unfold sizeL; omega) (fun k r hr => ?_) ?_
      · obtain ⟨hk, rfl⟩ := get_sL hr
        refine ⟨trivial, rfl, _, rfl, _, rfl, ?_⟩
        rw [← leafs_nS]
        exact item_snoc (out := fun k => OT.lst ((pc rows k).map fun n => .leaf (nS g n)))
      rw [own_range]
      refine ⟨sC g rows, ownS_fz g rows, trivial, hK _ ?_⟩
      clear hK
      rw [← eqC]
      show mSeq _ _ [fz (scrD ns), fz (nI i), fz (.vol 0 []), fz (nL sz), fz (nL fw), fz (sL g (List.range n)), fz (nI T), fz (queL sz fw g s0 T), fz (nL e), fz (queL sz fw g s0 T), y10, y11, y12, y13, y14, y15, y16] _
      have infer : ∀ (t : Nat) (Q : Rs → Prop), t ≤ T → Q (.nw (infT sz fw (KT sz fw s0 t))) → F_infer_cups cs [fz (queL sz fw g s0 t)] Q := fun t Q ht hq => ⟨g, sz, fw, List.range n, t, hR, hSm, hS, by omega, by rw [hs0] <;> rfl, by rw [hs0]; exact hq⟩
      have expd : ∀ (e2 : List Nat) (t : Nat) (Q : Rs → Prop), Emp sz e2 (KT sz fw s0 t) → Q (.nw (infT sz fw (KT sz fw s0 t))) → F_law_expected cs [fz (nL sz), fz (nL fw), fz (nL e2)] Q := fun e2 t Q h2 hq => ⟨sz, fw, e2, _, h30, by omega, KT_le t, h2, rfl, hq⟩
      have same : ∀ (t : Nat) (P : Rs → Prop), P (.fz (.bl false)) → oEq true (Rs.br (infT sz fw (KT sz fw s0 t))) (Rs.nw (infT sz fw (KT sz fw s0 t))).ffz P := fun t P hP => tup_same (.inl rfl) (.inr (tupT_ffz _ _ _)) hP
      have sameQ : ∀ P : Rs → Prop, P (.fz (.bl false)) → oEq true (.fz (queL sz fw g s0 T)) (.fz (queL sz fw g s0 T)) P := fun P hP => by
        rw [eqC]
        exact oEq_same (pd_sC 6 hokr) (pd_sC 6 hokr) (pd_sC 6 hokr) hP
      refine s_seq fun K hK => ?_
      refine ⟨_, rfl, rfl, infer T _ (Nat.le_refl _) ⟨trivial, trivial, hK _ ?_⟩⟩
      clear hK
      show mSeq _ _ [fz (scrD ns), fz (nI i), fz (.vol 0 []), fz (nL sz), fz (nL fw), fz (sL g (List.range n)), fz (nI T), fz (queL sz fw g s0 T), fz (nL e), fz (queL sz fw g s0 T), some (.nw (infT sz fw (KT sz fw s0 T))), y11, y12, y13, y14, y15, y16] _
      refine s_seq fun K hK => ?_
      refine mIfS_ff (fun P hP => mOr_ff (fun P hP => ⟨_, rfl, _, rfl, _, rfl, _, rfl, rfl, expd e T _ hE ⟨trivial, ?_⟩⟩) (fun P hP => ⟨_, rfl, _, rfl, sameQ _ hP⟩) hP) (hK _ ?_)
      · exact same T _ hP
      clear hK
      refine s_seq fun K hK => ?_
      have lk : ∀ t, (sz.take (KT sz fw s0 t)).length ≤ 100 ∧ (fw.take (KT sz fw s0 t)).length ≤ 100 := fun t => by rw [List.length_take, List.length_take]; omega
      refine ⟨_, _, rfl, [], rfl, rfl, _, _, _, (lk T).1, (lk T).2, rfl, fun x => ⟨true, rfl, ?_⟩⟩
      show if true = true then _ else _
      rw [if_pos rfl]
      have slq : ∀ (env : R.Env) (t : Nat) (c : DE) (P : Rs → Prop), env[7]? = some (fz (queL sz fw g s0 T)) → t ≤ T → (∀ P : Rs → Prop, P (.fz (.int ((t + 1 : Nat) : Int))) → c env P) → P (.nw (.lst (((List.range (t + 1)).map fun t => sL g (R.adv sz fw t s0).1).map .leaf))) → mSl (mVar 7) mNoP (mPart c) env P := fun env t c P e7 ht hc hP => by
        refine ⟨_, e7, hc _ ⟨_, rfl, ?_⟩⟩
        rw [cutA, queL_take sz fw g s0 ht]
        exact hP
      have lendQ : ∀ t, (Rs.nw (.lst (((List.range (t + 1)).map fun t => sL g (R.adv sz fw t s0).1).map .leaf))).lend = .fz (queL sz fw g s0 t) := fun t => lend_nw (fzd_lst _)
      refine mIfS_ff (fun P hP => mNot_tt (fun P hP => ?_) hP) (hK _ ?_)
      · refine slq _ 0 _ _ rfl (Nat.zero_le _) (fun P hP => hP) ⟨rfl, ?_⟩
        show F_infer_cups cs [some (Rs.nw (.lst (((List.range (0 + 1)).map fun t => sL g (R.adv sz fw t s0).1).map .leaf))).lend] _
        rw [lendQ 0]
        exact infer 0 _ (Nat.zero_le _) ⟨trivial, _, rfl, _, _, _, (lk 0).1, (lk 0).2, rfl, fun x => ⟨_, rfl, hP⟩⟩
      clear hK
      show mSeq _ _ [fz (scrD ns), fz (nI i), fz (.vol 0 []), fz (nL sz), fz (nL fw), fz (sL g (List.range n)), fz (nI T), fz (queL sz fw g s0 T), fz (nL e), fz (queL sz fw g s0 T), some (.nw x), y11, y12, y13, y14, y15, y16] _
      have sameN : ∀ (t : Nat) (P : Rs → Prop), P (.fz (.bl false)) → oEq true (Rs.nw (infT sz fw (KT sz fw s0 t))).ffz (Rs.nw (infT sz fw (KT sz fw s0 t))).ffz P := fun t P hP => tup_same (.inr (tupT_ffz _ _ _)) (.inr (tupT_ffz _ _ _)) hP
      refine s_seq fun K hK => ?_
      refine mIfS_ff (fun P hP => ⟨_, rfl, rfl, infer T _ (Nat.le_refl _) ⟨trivial, _, rfl, _, rfl, _, rfl, rfl, expd e T _ hE ⟨trivial, sameN T _ hP⟩⟩⟩) (hK _ ?_)
      clear hK
      refine s_seq fun K hK => ?_
      have rest2 : ∀ y11 y12 : Option Rs, K [fz (scrD ns), fz (nI i), fz (.vol 0 []), fz (nL sz), fz (nL fw), fz (sL g (List.range n)), fz (nI T), fz (queL sz fw g s0 T), fz (nL e), fz (queL sz fw g s0 T), some (.nw x), y11, y12, y13, y14, y15, y16] := fun y11 y12 => by
        refine hK _ ?_
        clear hK
        refine s_seq fun K hK => ?_
        refine ⟨_, rfl, _, rfl, rfl, [], ((T + 1 : Nat) : Int), rfl, by omega, by exact Int.lt_trans (show ((T + 1 : Nat) : Int) < 401 by omega) (by decide), fun z hz0 hz1 => ⟨trivial, trivial, hK _ ?_⟩⟩
        clear hK
        obtain ⟨t, rfl⟩ : ∃ k : Nat, z = (k : Int) := ⟨z.toNat, by omega⟩
        have htT : t ≤ T := by omega
        show mSeq _ _ [fz (scrD ns), fz (nI i), fz (.vol 0 []), fz (nL sz), fz (nL fw), fz (sL g (List.range n)), fz (nI T), fz (queL sz fw g s0 T), fz (nL e), fz (queL sz fw g s0 T), some (.nw x), y11, y12, fz (nI t), y14, y15, y16] _
        refine s_seq fun K hK => ?_
        dsimp only [mAsgG, mFz]
        refine slq _ t _ _ rfl htT (fun P hP => ⟨_, rfl, hP⟩) ⟨rfl, ?_⟩
        show F_infer_cups cs [some (Rs.nw (.lst (((List.range (t + 1)).map fun t => sL g (R.adv sz fw t s0).1).map .leaf))).lend] _
        rw [lendQ t]
        refine infer t _ htT ⟨trivial, _, tupT_fz _ _ _, trivial, hK _ ?_⟩
        clear hK
        have hKt := KT_le (sz := sz) (fw := fw) (s := s0) t
        generalize hkt : KT sz fw s0 t = kt at *
        show mSeq _ _ [fz (scrD ns), fz (nI i), fz (.vol 0 []), fz (nL sz), fz (nL fw), fz (sL g (List.range n)), fz (nI T), fz (queL sz fw g s0 T), fz (nL e), fz (queL sz fw g s0 T), some (.nw x), y11, y12, fz (nI t), fz (.tup [nL (sz.take kt), nL (fw.take kt), .bl (decide (kt = sz.length))]), y15, y16] _
        refine s_seq fun K hK => ?_
        refine ⟨_, rfl, _, rfl, _, rfl, _, rfl, _, rfl, _, rfl, rfl, sz, fw, g, List.range n, t, hR, hS, by omega, rfl, ?_⟩
        rw [hs0, hkt]
        refine fun e2 hE2 => ⟨trivial, ?_⟩
        dsimp only [mC]
        rw [show (Rs.nw (.tup [.leaf (queL sz fw g s0 t), .leaf (nL e2)])).ffz = .fz (.tup [queL sz fw g s0 t, nL e2]) from ffz_tup [queL sz fw g s0 t, nL e2]]
        refine ⟨_, rfl, rfl, ?_⟩
        have expk : ∀ (Q : Rs → Prop), Q (.nw (infT sz fw kt)) → F_law_expected cs [fz (nL sz), fz (nL fw), fz (nL e2)] Q := fun Q hq => ⟨sz, fw, e2, kt, h30, by omega, hKt, hE2, rfl, hq⟩
        refine expk _ ⟨trivial, _, tupT_fz _ _ _, trivial, hK _ ?_⟩
        clear hK
        show mIfS _ _ _ [fz (scrD ns), fz (nI i), fz (.vol 0 []), fz (nL sz), fz (nL fw), fz (sL g (List.range n)), fz (nI T), fz (queL sz fw g s0 T), fz (nL e), fz (queL sz fw g s0 T), some (.nw x), y11, y12, fz (nI t), fz (.tup [nL (sz.take kt), nL (fw.take kt), .bl (decide (kt = sz.length))]), fz (.tup [nL (sz.take kt), nL (fw.take kt), .bl (decide (kt = sz.length))]), y16] _
        refine mIfS_ff (fun P hP => mOr_ff (fun P hP => ⟨_, rfl, _, rfl, tup_same (.inr rfl) (.inr rfl) hP⟩) (fun P hP => ?_) hP) ?_
        · refine ⟨_, rfl, _, rfl, nL (sz.take kt), rfl, _, rfl, sz.map nI, rfl, ?_⟩
          rw [List.length_map, List.length_map, cutA, ← List.map_take, List.length_take, Nat.min_eq_left hKt]
          refine ⟨_, rfl, nL (sz.take kt), rfl, ?_⟩
          rw [ffz_lst]
          refine oEq_nL (a := sz.take kt) (b := sz.take kt) ?_
          rw [decide_eq_true rfl]
          exact hP
        · refine ⟨_, _, _, _, _, _, _, _, _, _, _, _, _, _, _, _, ?_, rfl⟩
          intro t m
          simp only [List.mem_cons, List.not_mem_nil, or_false] at m
          rcases m with m | m
          · cases m
          · exact hne t (by rw [m]; simp)
      refine if_of (decide (sz.length < 29)) (fun P hP => ⟨_, rfl, _, rfl, trivial, ?_⟩) (fun hz => ?_) (fun hz => rest2 _ _)
      · show P (decide (((((sz.map nI).map OT.leaf).length : Nat) : Int) < 29))
        rw [List.length_map, List.length_map, show decide ((sz.length : Int) < 29) = decide (sz.length < 29) from decide_eq_decide.mpr (by omega)]
        exact hP
      have hz := of_decide_eq_true hz
      have hmk := mskU_ok hl0
      have hml := mskU_len hz
      generalize hmk0 : mskU sz.length = mk at *
      refine s_seq fun K2 hK2 => ?_
      refine ⟨_, rfl, _, rfl, rfl, sz, fw, hR, rfl, ?_⟩
      rw [hmk0]
      refine ⟨trivial, .tup [nL (uS mk sz), nL (uF mk fw)], .tup (.cons (by rw [leafs_nI]; exact fz_lst _) (.cons (by rw [leafs_nI]; exact fz_lst _) .nil)), gT2_fz (hK2 _ ?_)⟩
      clear hK2
      show mIfS _ _ _ [fz (scrD ns), fz (nI i), fz (.vol 0 []), fz (nL sz), fz (nL fw), fz (sL g (List.range n)), fz (nI T), fz (queL sz fw g s0 T), fz (nL e), fz (queL sz fw g s0 T), some (.nw x), fz (nL (uS mk sz)), fz (nL (uF mk fw)), y13, y14, y15, y16] _
      refine mIfS_ff (fun P hP => ⟨_, rfl, _, rfl, _, rfl, _, rfl, rfl, uS mk sz, uF mk fw, g, List.range n, T, hR.ins hmk hml, hS.insN hR hmk, by omega, rfl, fun e3 _ => ⟨trivial, ?_⟩⟩) (rest2 _ _)
      rw [queL_ins hR hmk hS.val, hs0]
      dsimp only [mC]
      rw [show (Rs.nw (.tup [.leaf (queL sz fw g s0 T), .leaf (nL e3)])).ffz = .fz (.tup [queL sz fw g s0 T, nL e3]) from ffz_tup [queL sz fw g s0 T, nL e3]]
      exact ⟨_, rfl, _, rfl, sameQ _ hP⟩
    refine if_p (and_p ⟨_, rfl, ?_⟩)
    dsimp only [mC]
    show oEq false (.fz (.int (i : Nat))) (.fz (.int 0)) _
    rw [w_eq_int]
    refine ⟨fun _ => ⟨_, rfl, rfl, [], 2, rfl, by decide, by decide, fun z _ _ => ⟨trivial, ?_⟩⟩, fun _ => ⟨fun z => absurd z Bool.false_ne_true, fun _ => rest T0 (by omega)⟩⟩
    dsimp only [mC]
    show oEq false (.fz (.int z)) (.fz (.int 0)) _
    rw [w_eq_int]
    exact ⟨fun _ => ⟨trivial, rest 399 (by omega)⟩, fun _ => rest T0 (by omega)⟩
  · rintro e ⟨y1, y2, y3, y4, y5, y6, y7, y8, y9, y10, y11, y12, y13, y14, y15, y16, hne, rfl⟩
    exact hK _ ⟨trivial, h⟩

section
variable {P : Program} {w : World} {K : PySem.W.Frag} {mg : PySem.Str → Option Value} {base : Heap} {f : Addr} {cs : Cs}
theorem b_is_name  (T : Tt K mg cs) : ∀ (cdv : Value) (A : Around) (outer : List PySem.Env) (s : Shared) (H : Hp) (E : XK), R.Room 0 (A.deeper (envOfC "is_name" (defScope s_is_name) s.heap.objs.size f cdv)) → PSs (cxOf CX0 P w K mg base N_is_name "is_name" (defScope s_is_name) f cdv A outer s H E).nox (defBody s_is_name) (LS K exT [] (m_is_name cs)) := fun cdv A outer s H E hr => (dss_cons (ds_if (PW.pt (dw_or (dt_not (dt_val (dp_is (n := "str") T.b_isinstance T.b_str (by decide) (by decide +kernel) (dp_var (i := 0))))) (dw_or1 (dt_not (dt_chain I_le I_le dp_int (dp_len T.b_len (da_cons (dp_var (i := 0)) da_nil)) (dp_globI T.c_MAX_LETTERS)))))) (dss_one (ds_ret dp_bl)) dss_nil) (dss_one (ds_ret (dp_all rfl T.b_all (da_cons (dp_lc (own := [("letter", 1)]) rfl sc_is_name.nd (di_str (dp_var (i := 0))) (blkOk_by (own := [("letter", 1)]) (N := N_is_name) (sc := defScope s_is_name) (by decide +kernel)) (fun _ _ _ _ _ => (dg_name (i := 1) sc_is_name.nd rfl)) (fun _ _ _ _ _ => dts_nil) (fun _ _ _ _ _ => (dp_inS (dp_var (i := 1)) (dp_globS T.c_LETTERS)))) da_nil)))))
theorem b_is_name_list (h_is_name : CalR P w K mg base "is_name" 1 (F_is_name cs) [] 1) (T : Tt K mg cs) : ∀ (cdv : Value) (A : Around) (outer : List PySem.Env) (s : Shared) (H : Hp) (E : XK), R.Room 1 (A.deeper (envOfC "is_name_list" (defScope s_is_name_list) s.heap.objs.size f cdv)) → PSs (cxOf CX0 P w K mg base N_is_name_list "is_name_list" (defScope s_is_name_list) f cdv A outer s H E).nox (defBody s_is_name_list) (LS K exT [] (m_is_name_list cs)) := fun cdv A outer s H E hr => (dss_one (ds_ret (dp_and (dp_is (n := "list") T.b_isinstance T.b_list (by decide) (by decide +kernel) (dp_var (i := 0))) (dp_one (dp_all rfl T.b_all (da_cons (dp_lc (own := [("name", 1)]) rfl sc_is_name_list.nd (di_list (dp_var (i := 0))) (blkOk_by (own := [("name", 1)]) (N := N_is_name_list) (sc := defScope s_is_name_list) (by decide +kernel)) (fun _ _ _ _ _ => (dg_name (i := 1) sc_is_name_list.nd rfl)) (fun _ _ _ _ _ => dts_nil) (fun _ _ _ _ _ => (dp_cal h_is_name hr (by first | decide | omega) (da_cons (dp_var (i := 1)) da_nil)))) da_nil))))))
theorem b_require  (T : Tt K mg cs) : ∀ (cdv : Value) (A : Around) (outer : List PySem.Env) (s : Shared) (H : Hp) (E : XK), R.Room 0 (A.deeper (envOfC "require" (defScope s_require) s.heap.objs.size f cdv)) → PSs (cxOf CX0 P w K mg base N_require "require" (defScope s_require) f cdv A outer s H E).nox (defBody s_require) (LS K exT [] (m_require cs)) := fun cdv A outer s H E hr => (dss_one (ds_if (dt_not (dt_val (dp_var (i := 0)))) (dss_one ds_never) dss_nil))
theorem b_CupFinder_init  (T : Tt K mg cs) : ∀ (cdv : Value) (A : Around) (outer : List PySem.Env) (s : Shared) (H : Hp) (E : XK), R.Room 0 (A.deeper (envOfC "CupFinder.__init__" (defScope s_CupFinder_init) s.heap.objs.size f cdv)) → PSs (cxOf CX0 P w K mg base N_CupFinder_init "CupFinder.__init__" (defScope s_CupFinder_init) f cdv A outer s H E).nox (defBody s_CupFinder_init) (LS K exT [0] (m_CupFinder_init cs)) := fun cdv A outer s H E hr => (dss_cons (ds_setF T.k_CupFinder T.n_CupFinder_queue (dpl_name (i := 0)) (dp_list T.b_list (da_cons (dp_var (i := 1)) da_nil))) (dss_cons (ds_setF T.k_CupFinder T.n_CupFinder_known_sizes (dpl_name (i := 0)) (dp_lst da_nil)) (dss_cons (ds_setF T.k_CupFinder T.n_CupFinder_known_indices (dpl_name (i := 0)) (dp_lst da_nil)) (dss_cons (ds_setF T.k_CupFinder T.n_CupFinder_contents (dpl_name (i := 0)) (dp_lst (da_cons (dp_lst da_nil) da_nil))) (dss_one (ds_setF T.k_CupFinder T.n_CupFinder_complete (dpl_name (i := 0)) dp_bl))))))
theorem b_CupFinder_observe (h_require : CalR P w K mg base "require" 1 (F_require cs) [] 1) (h_CupFinder_empty_known_cup : MetIO P w K mg base cs.CupFinder "empty_known_cup" 2 (F_CupFinder_empty_known_cup cs) [] 1) (h_CupFinder_learn_cup : MetIO P w K mg base cs.CupFinder "learn_cup" 2 (F_CupFinder_learn_cup cs) [] 2) (T : Tt K mg cs) : ∀ (cdv : Value) (A : Around) (outer : List PySem.Env) (s : Shared) (H : Hp) (E : XK), R.Room 2 (A.deeper (envOfC "CupFinder.observe" (defScope s_CupFinder_observe) s.heap.objs.size f cdv)) → PSs (cxOf CX0 P w K mg base N_CupFinder_observe "CupFinder.observe" (defScope s_CupFinder_observe) f cdv A outer s H E).nox (defBody s_CupFinder_observe) (LS K exT [0] (m_CupFinder_observe cs)) := fun cdv A outer s H E hr => (dss_cons (ds_drop (dp_cal h_require hr (by first | decide | omega) (da_cons (dp_ne (hu_R hr) (dp_fld T.k_CupFinder T.n_CupFinder_queue (dp_var (i := 0))) (dp_lst da_nil)) da_nil))) (dss_cons (ds_append (dpl_ix (dpl_fld T.k_CupFinder T.n_CupFinder_contents (dpl_name (i := 0))) dp_int) (dp_ix (dp_fld T.k_CupFinder T.n_CupFinder_queue (dp_var (i := 0))) dp_int)) (dss_cons (ds_setF T.k_CupFinder T.n_CupFinder_queue (dpl_name (i := 0)) (dp_sl (dp_fld T.k_CupFinder T.n_CupFinder_queue (dp_var (i := 0))) (do_some dp_int) do_none)) (dss_cons (ds_asg (i := 2) sc_CupFinder_observe.nd rfl (dp_fz dp_int)) (dss_cons (ds_while PassesOwn.never (PW.pt (dw_and (dt_lt (dp_var (i := 2)) (dp_len T.b_len (da_cons (dp_fld T.k_CupFinder T.n_CupFinder_known_sizes (dp_var (i := 0))) da_nil))) (dw_and1 (dt_eq (hu_R hr) (dp_len T.b_len (da_cons (dp_ix (dp_fld T.k_CupFinder T.n_CupFinder_contents (dp_var (i := 0))) (dp_var (i := 2))) da_nil)) (dp_ix (dp_fld T.k_CupFinder T.n_CupFinder_known_sizes (dp_var (i := 0))) (dp_var (i := 2))))))) (dss_cons (ds_dropX (dm_mthV h_CupFinder_empty_known_cup hr (by first | decide | omega) (pe_var (i := 0) rfl (by first | exact Or.inl rfl | exact Or.inr (Or.inl rfl) | exact Or.inr (Or.inr rfl)) (by decide) (by decide)) (da_cons (dp_var (i := 2)) da_nil))) (dss_one (ds_aug_add (i := 2) sc_CupFinder_observe.nd rfl dp_int)))) (dss_cons (ds_asg (i := 3) sc_CupFinder_observe.nd rfl (dp_fz (dp_sl (dp_var (i := 1)) (do_some (dp_len T.b_len (da_cons (dp_fld T.k_CupFinder T.n_CupFinder_queue (dp_var (i := 0))) da_nil))) do_none))) (dss_cons (ds_drop (dp_cal h_require hr (by first | decide | omega) (da_cons (dp_eq (hu_R hr) (dp_sl (dp_var (i := 1)) do_none (do_some (dp_len T.b_len (da_cons (dp_fld T.k_CupFinder T.n_CupFinder_queue (dp_var (i := 0))) da_nil)))) (dp_fld T.k_CupFinder T.n_CupFinder_queue (dp_var (i := 0)))) da_nil))) (dss_cons (ds_if (dt_ne (hu_R hr) (dp_var (i := 3)) (dp_lst da_nil)) (dss_cons (ds_drop (dp_cal h_require hr (by first | decide | omega) (da_cons (dp_and (dp_not (dp_fld T.k_CupFinder T.n_CupFinder_complete (dp_var (i := 0)))) (dp_one (dp_eq (hu_R hr) (dp_var (i := 2)) (dp_len T.b_len (da_cons (dp_fld T.k_CupFinder T.n_CupFinder_known_sizes (dp_var (i := 0))) da_nil))))) da_nil))) (dss_one (ds_dropX (dm_mthV h_CupFinder_learn_cup hr (by first | decide | omega) (pe_var (i := 0) rfl (by first | exact Or.inl rfl | exact Or.inr (Or.inl rfl) | exact Or.inr (Or.inr rfl)) (by decide) (by decide)) (da_cons (dp_var (i := 3)) da_nil))))) dss_nil) (dss_one (ds_setF T.k_CupFinder T.n_CupFinder_queue (dpl_name (i := 0)) (dp_list T.b_list (da_cons (dp_var (i := 1)) da_nil))))))))))))
theorem b_CupFinder_empty_known_cup  (T : Tt K mg cs) : ∀ (cdv : Value) (A : Around) (outer : List PySem.Env) (s : Shared) (H : Hp) (E : XK), R.Room 0 (A.deeper (envOfC "CupFinder.empty_known_cup" (defScope s_CupFinder_empty_known_cup) s.heap.objs.size f cdv)) → PSs (cxOf CX0 P w K mg base N_CupFinder_empty_known_cup "CupFinder.empty_known_cup" (defScope s_CupFinder_empty_known_cup) f cdv A outer s H E).nox (defBody s_CupFinder_empty_known_cup) (LS K exT [0] (m_CupFinder_empty_known_cup cs)) := fun cdv A outer s H E hr => (dss_cons (ds_take (j := 2) sc_CupFinder_empty_known_cup.nd rfl (dpl_ix (dpl_fld T.k_CupFinder T.n_CupFinder_contents (dpl_name (i := 0))) (dp_var (i := 1)))) (dss_cons (ds_setI (dpl_fld T.k_CupFinder T.n_CupFinder_contents (dpl_name (i := 0))) (dp_var (i := 1)) (dp_lst da_nil)) (dss_cons (ds_if (dt_lt (dp_add (dp_var (i := 1)) dp_int) (dp_len T.b_len (da_cons (dp_fld T.k_CupFinder T.n_CupFinder_contents (dp_var (i := 0))) da_nil))) (dss_one (ds_appPop (j := 2) (dpl_ix (dpl_fld T.k_CupFinder T.n_CupFinder_contents (dpl_name (i := 0))) (dp_add (dp_var (i := 1)) dp_int)) (pe_var (i := 2) rfl (by first | exact Or.inl rfl | exact Or.inr (Or.inl rfl) | exact Or.inr (Or.inr rfl)) (by decide) (by decide)) (dp_ix (dp_fld T.k_CupFinder T.n_CupFinder_known_indices (dp_var (i := 0))) (dp_var (i := 1))))) dss_nil) (dss_one (ds_setF T.k_CupFinder T.n_CupFinder_queue (dpl_name (i := 0)) (dp_add (dp_fld T.k_CupFinder T.n_CupFinder_queue (dp_var (i := 0))) (dp_var (i := 2))))))))
theorem b_CupFinder_learn_cup (h_require : CalR P w K mg base "require" 1 (F_require cs) [] 1) (T : Tt K mg cs) : ∀ (cdv : Value) (A : Around) (outer : List PySem.Env) (s : Shared) (H : Hp) (E : XK), R.Room 1 (A.deeper (envOfC "CupFinder.learn_cup" (defScope s_CupFinder_learn_cup) s.heap.objs.size f cdv)) → PSs (cxOf CX0 P w K mg base N_CupFinder_learn_cup "CupFinder.learn_cup" (defScope s_CupFinder_learn_cup) f cdv A outer s H E).nox (defBody s_CupFinder_learn_cup) (LS K exT [0] (m_CupFinder_learn_cup cs)) := fun cdv A outer s H E hr => (dss_cons (ds_take (j := 2) sc_CupFinder_learn_cup.nd rfl (dpl_ix (dpl_fld T.k_CupFinder T.n_CupFinder_contents (dpl_name (i := 0))) (dp_neg dp_int))) (dss_cons (ds_append (dpl_fld T.k_CupFinder T.n_CupFinder_known_sizes (dpl_name (i := 0))) (dp_len T.b_len (da_cons (dp_var (i := 2)) da_nil))) (dss_cons (ds_setI (dpl_fld T.k_CupFinder T.n_CupFinder_contents (dpl_name (i := 0))) (dp_neg dp_int) (dp_lst da_nil)) (dss_cons (ds_if (dt_eq (hu_R hr) (dp_var (i := 1)) (dp_var (i := 2))) (dss_cons (ds_setF T.k_CupFinder T.n_CupFinder_complete (dpl_name (i := 0)) dp_bl) (dss_one ds_retN)) dss_nil) (dss_cons (ds_setLcF (i := 3) (own := [("at", 5)]) rfl sc_CupFinder_learn_cup.nd rfl rfl (sw_true rfl rfl rfl (by decide +kernel)) (di_rng1 T.b_range (dp_len T.b_len (da_cons (dp_var (i := 2)) da_nil))) (blkOk_by (own := [("at", 5)]) (N := N_CupFinder_learn_cup) (sc := defScope s_CupFinder_learn_cup) (by decide +kernel)) (fun _ _ _ _ _ => (dg_name (i := 5) sc_CupFinder_learn_cup.nd rfl)) (fun _ _ _ _ _ => (dts_one (dt_eq (hu_R hr) (dp_sl (dp_var (i := 1)) do_none (do_some (dp_sub (dp_len T.b_len (da_cons (dp_var (i := 2)) da_nil)) dp_int))) (dp_add (dp_sl (dp_var (i := 2)) do_none (do_some (dp_var (i := 5)))) (dp_sl (dp_var (i := 2)) (do_some (dp_add (dp_var (i := 5)) dp_int)) do_none))))) (fun _ _ _ _ _ => (dp_var (i := 5)))) (dss_cons (ds_drop (dp_cal h_require hr (by first | decide | omega) (da_cons (dp_and (dp_ne (hu_R hr) (dp_var (i := 3)) (dp_lst da_nil)) (dp_one (dp_le (dp_len T.b_len (da_cons (dp_var (i := 1)) da_nil)) (dp_len T.b_len (da_cons (dp_var (i := 2)) da_nil))))) da_nil))) (dss_cons (ds_append (dpl_fld T.k_CupFinder T.n_CupFinder_known_indices (dpl_name (i := 0))) (dp_ix (dp_var (i := 3)) dp_int)) (dss_cons (ds_asg (i := 4) sc_CupFinder_learn_cup.nd rfl (dp_fz (dp_ix (dp_var (i := 2)) (dp_ix (dp_var (i := 3)) dp_int)))) (dss_one (ds_if (dt_eq (hu_R hr) (dp_len T.b_len (da_cons (dp_var (i := 1)) da_nil)) (dp_len T.b_len (da_cons (dp_var (i := 2)) da_nil))) (dss_cons (ds_drop (dp_cal h_require hr (by first | decide | omega) (da_cons (dp_eq (hu_R hr) (dp_ix (dp_var (i := 1)) (dp_neg dp_int)) (dp_var (i := 4))) da_nil))) (dss_cons (ds_append (dpl_fld T.k_CupFinder T.n_CupFinder_known_sizes (dpl_name (i := 0))) dp_int) (dss_cons (ds_append (dpl_fld T.k_CupFinder T.n_CupFinder_contents (dpl_name (i := 0))) (dp_lst da_nil)) (dss_one (ds_setF T.k_CupFinder T.n_CupFinder_complete (dpl_name (i := 0)) dp_bl))))) (dss_one (ds_append (dpl_fld T.k_CupFinder T.n_CupFinder_contents (dpl_name (i := 0))) (dp_lst (da_cons (dp_var (i := 4)) da_nil))))))))))))))
theorem b_CupFinder_check_limits (h_require : CalR P w K mg base "require" 1 (F_require cs) [] 1) (T : Tt K mg cs) : ∀ (cdv : Value) (A : Around) (outer : List PySem.Env) (s : Shared) (H : Hp) (E : XK), R.Room 1 (A.deeper (envOfC "CupFinder.check_limits" (defScope s_CupFinder_check_limits) s.heap.objs.size f cdv)) → PSs (cxOf CX0 P w K mg base N_CupFinder_check_limits "CupFinder.check_limits" (defScope s_CupFinder_check_limits) f cdv A outer s H E).nox (defBody s_CupFinder_check_limits) (LS K exT [] (m_CupFinder_check_limits cs)) := fun cdv A outer s H E hr => (dss_cons (ds_asg (i := 2) sc_CupFinder_check_limits.nd rfl (dp_fz (dp_add (dp_fld T.k_CupFinder T.n_CupFinder_known_sizes (dp_var (i := 0))) (dp_mul (dp_lst (da_cons (dp_add (dp_len T.b_len (da_cons (dp_ix (dp_fld T.k_CupFinder T.n_CupFinder_contents (dp_var (i := 0))) (dp_neg dp_int)) da_nil)) dp_int) da_nil)) (dp_int1 T.b_int (da_cons (dp_not (dp_fld T.k_CupFinder T.n_CupFinder_complete (dp_var (i := 0)))) da_nil)))))) (dss_cons (ds_drop (dp_cal h_require hr (by first | decide | omega) (da_cons (dp_and (dp_le (dp_len T.b_len (da_cons (dp_var (i := 2)) da_nil)) (dp_globI T.c_MAX_CUPS)) (dp_one (dp_le (dp_maxL rfl T.b_max (da_cons (dp_var (i := 2)) da_nil)) (dp_globI T.c_MAX_SIZE)))) da_nil))) (dss_one (ds_drop (dp_cal h_require hr (by first | decide | omega) (da_cons (dp_le (dp_sub (dp_sum rfl T.b_sum (da_cons (dp_var (i := 2)) da_nil)) (dp_len T.b_len (da_cons (dp_var (i := 2)) da_nil))) (dp_min2 rfl T.b_min (da_cons (dp_globI T.c_MAX_EXTRA) (da_cons (dp_sub (dp_var (i := 1)) dp_int) da_nil)))) da_nil))))))
theorem b_infer_cups (h_require : CalR P w K mg base "require" 1 (F_require cs) [] 1) (h_is_name_list : CalR P w K mg base "is_name_list" 1 (F_is_name_list cs) [] 2) (h_CupFinder_init : MakR P w K mg base "CupFinder" cs.CupFinder 2 (F_CupFinder_init cs) [] 1) (h_CupFinder_observe : MetIO P w K mg base cs.CupFinder "observe" 2 (F_CupFinder_observe cs) [] 3) (h_CupFinder_check_limits : MetR P w K mg base cs.CupFinder "check_limits" 2 (F_CupFinder_check_limits cs) [] 2) (T : Tt K mg cs) : ∀ (cdv : Value) (A : Around) (outer : List PySem.Env) (s : Shared) (H : Hp) (E : XK), R.Room 3 (A.deeper (envOfC "infer_cups" (defScope s_infer_cups) s.heap.objs.size f cdv)) → PSs (cxOf CX0 P w K mg base N_infer_cups "infer_cups" (defScope s_infer_cups) f cdv A outer s H E).nox (defBody s_infer_cups) (LS K exT [] (m_infer_cups cs)) := fun cdv A outer s H E hr => (dss_cons (ds_drop (dp_cal h_require hr (by first | decide | omega) (da_cons (dp_and (dp_is (n := "list") T.b_isinstance T.b_list (by decide) (by decide +kernel) (dp_var (i := 0))) (dp_one (dp_chain I_le I_le dp_int (dp_len T.b_len (da_cons (dp_var (i := 0)) da_nil)) (dp_globI T.c_MAX_QUEUES)))) da_nil))) (dss_cons (ds_drop (dp_cal h_require hr (by first | decide | omega) (da_cons (dp_all rfl T.b_all (da_cons (dp_lc (own := [("queue", 3)]) rfl sc_infer_cups.nd (di_list (dp_var (i := 0))) (blkOk_by (own := [("queue", 3)]) (N := N_infer_cups) (sc := defScope s_infer_cups) (by decide +kernel)) (fun _ _ _ _ _ => (dg_name (i := 3) sc_infer_cups.nd rfl)) (fun _ _ _ _ _ => dts_nil) (fun _ _ _ _ _ => (dp_cal h_is_name_list hr (by first | decide | omega) (da_cons (dp_var (i := 3)) da_nil)))) da_nil)) da_nil))) (dss_cons (ds_asg (i := 1) sc_infer_cups.nd rfl (dp_fz (dp_ix (dp_var (i := 0)) dp_int))) (dss_cons (ds_drop (dp_cal h_require hr (by first | decide | omega) (da_cons (dp_and (dp_chain I_le I_le dp_int (dp_len T.b_len (da_cons (dp_var (i := 1)) da_nil)) (dp_globI T.c_MAX_MEMBERS)) (dp_one (dp_eq (hu_R hr) (dp_lenSet rfl T.b_len T.b_set (dp_var (i := 1))) (dp_len T.b_len (da_cons (dp_var (i := 1)) da_nil))))) da_nil))) (dss_cons (ds_asg (i := 2) sc_infer_cups.nd rfl (dp_mk h_CupFinder_init hr (by first | decide | omega) (da_cons (dp_var (i := 1)) da_nil))) (dss_cons (ds_for PassesOwn.never rfl (di_list (dp_sl (dp_var (i := 0)) (do_some dp_int) do_none)) (dg_name (i := 3) sc_infer_cups.nd rfl) (dss_cons (ds_dropX (dm_mthV h_CupFinder_observe hr (by first | decide | omega) (pe_var (i := 2) rfl (by first | exact Or.inl rfl | exact Or.inr (Or.inl rfl) | exact Or.inr (Or.inr rfl)) (by decide) (by decide)) (da_cons (dp_var (i := 3)) da_nil))) (dss_one (ds_drop (dp_mth h_CupFinder_check_limits hr (by first | decide | omega) (dp_var (i := 2)) (da_cons (dp_len T.b_len (da_cons (dp_var (i := 1)) da_nil)) da_nil)))))) (dss_one (ds_retFl (i := 2) T.k_CupFinder (List.forall_mem_cons.mpr ⟨T.n_CupFinder_known_sizes, (List.forall_mem_cons.mpr ⟨T.n_CupFinder_known_indices, (List.forall_mem_cons.mpr ⟨T.n_CupFinder_complete, (fun _ m => by cases m)⟩)⟩)⟩) (paf_cons (paf_cons (paf_cons paf_nil (pe_var (i := 2) rfl (by first | exact Or.inl rfl | exact Or.inr (Or.inl rfl) | exact Or.inr (Or.inr rfl)) (by decide) (by decide))) (pe_var (i := 2) rfl (by first | exact Or.inl rfl | exact Or.inr (Or.inl rfl) | exact Or.inr (Or.inr rfl)) (by decide) (by decide))) (pe_var (i := 2) rfl (by first | exact Or.inl rfl | exact Or.inr (Or.inl rfl) | exact Or.inr (Or.inr rfl)) (by decide) (by decide)))))))))))
theorem b_law_cell_at  (T : Tt K mg cs) : ∀ (cdv : Value) (A : Around) (outer : List PySem.Env) (s : Shared) (H : Hp) (E : XK), R.Room 0 (A.deeper (envOfC "_law_cell_at" (defScope s_law_cell_at) s.heap.objs.size f cdv)) → PSs (cxOf CX0 P w K mg base N_law_cell_at "_law_cell_at" (defScope s_law_cell_at) f cdv A outer s H E).nox (defBody s_law_cell_at) (LS K exT [] (m_law_cell_at cs)) := fun cdv A outer s H E hr => (dss_cons (ds_if (dt_lt (dp_var (i := 1)) (dp_len T.b_len (da_cons (dp_var (i := 0)) da_nil))) (dss_one (ds_ret (dp_ix (dp_var (i := 0)) (dp_var (i := 1))))) dss_nil) (dss_one (ds_ret dp_int)))
theorem b_law_mixed  (T : Tt K mg cs) : ∀ (cdv : Value) (A : Around) (outer : List PySem.Env) (s : Shared) (H : Hp) (E : XK), R.Room 0 (A.deeper (envOfC "_law_mixed" (defScope s_law_mixed) s.heap.objs.size f cdv)) → PSs (cxOf CX0 P w K mg base N_law_mixed "_law_mixed" (defScope s_law_mixed) f cdv A outer s H E).nox (defBody s_law_mixed) (LS K exT [] (m_law_mixed cs)) := fun cdv A outer s H E hr => (dss_cons (ds_asg (i := 2) sc_law_mixed.nd rfl (dp_fz (dp_add (dp_mod (dp_int1 T.b_int (da_cons (dp_var (i := 0)) da_nil)) dp_int) (dp_mul (dp_div (dp_var (i := 0)) dp_int) dp_int)))) (dss_cons (ds_asg (i := 2) sc_law_mixed.nd rfl (dp_fz (dp_mod (dp_int1 T.b_int (da_cons (dp_mul (dp_add (dp_add (dp_var (i := 2)) (dp_mul dp_int (dp_var (i := 1)))) dp_int) dp_int) da_nil)) dp_int))) (dss_cons (ds_asg (i := 2) sc_law_mixed.nd rfl (dp_fz (dp_mod (dp_int1 T.b_int (da_cons (dp_mul (dp_var (i := 2)) (dp_add (dp_add (dp_div (dp_var (i := 2)) dp_int) dp_int) (dp_var (i := 1)))) da_nil)) dp_int))) (dss_one (ds_ret (dp_mod (dp_int1 T.b_int (da_cons (dp_mul (dp_var (i := 2)) (dp_add (dp_div (dp_var (i := 2)) dp_int) dp_int)) da_nil)) dp_int))))))
theorem b_law_source (h_law_mixed : CalR P w K mg base "_law_mixed" 2 (F_law_mixed cs) [] 1) (h_law_cell_at : CalR P w K mg base "_law_cell_at" 2 (F_law_cell_at cs) [] 1) (T : Tt K mg cs) : ∀ (cdv : Value) (A : Around) (outer : List PySem.Env) (s : Shared) (H : Hp) (E : XK), R.Room 1 (A.deeper (envOfC "_law_source" (defScope s_law_source) s.heap.objs.size f cdv)) → PSs (cxOf CX0 P w K mg base N_law_source "_law_source" (defScope s_law_source) f cdv A outer s H E).nox (defBody s_law_source) (LS K exT [] (m_law_source cs)) := fun cdv A outer s H E hr => (dss_cons (ds_if (dt_lt (dp_var (i := 1)) (dp_len T.b_len (da_cons (dp_var (i := 0)) da_nil))) (dss_one (ds_ret (dp_src (dp_lst (da_cons (dp_ix (dp_var (i := 0)) (dp_var (i := 1))) (da_cons (dp_ix (dp_var (i := 0)) (dp_var (i := 1))) (da_cons dp_int da_nil))))))) dss_nil) (dss_cons (ds_asg (i := 2) sc_law_source.nd rfl (dp_fz (dp_cal h_law_mixed hr (by first | decide | omega) (da_cons (dp_cal h_law_cell_at hr (by first | decide | omega) (da_cons (dp_var (i := 0)) (da_cons dp_int da_nil))) (da_cons (dp_add dp_int (dp_var (i := 1))) da_nil))))) (dss_one (ds_ret (dp_src (dp_lst (da_cons (dp_var (i := 2)) (da_cons (dp_var (i := 2)) (da_cons dp_int da_nil)))))))))
theorem b_law_draw (h_law_mixed : CalR P w K mg base "_law_mixed" 2 (F_law_mixed cs) [] 1) (T : Tt K mg cs) : ∀ (cdv : Value) (A : Around) (outer : List PySem.Env) (s : Shared) (H : Hp) (E : XK), R.Room 1 (A.deeper (envOfC "_law_draw" (defScope s_law_draw) s.heap.objs.size f cdv)) → PSs (cxOf CX0 P w K mg base N_law_draw "_law_draw" (defScope s_law_draw) f cdv A outer s H E).nox (defBody s_law_draw) (LS K exT [] (m_law_draw cs)) := fun cdv A outer s H E hr => (dss_cons (ds_if (dt_ge (dp_ix (dp_var (i := 0)) dp_int) (dp_pow dp_int dp_int)) (dss_cons (ds_asg (i := 2) sc_law_draw.nd rfl (dp_fz (dp_mod (dp_int1 T.b_int (da_cons (dp_ix (dp_var (i := 0)) dp_int) da_nil)) (dp_var (i := 1))))) (dss_cons (ds_setVol (dp_var (i := 0)) dp_int (dp_div (dp_ix (dp_var (i := 0)) dp_int) (dp_var (i := 1)))) (dss_one (ds_ret (dp_var (i := 2)))))) dss_nil) (dss_cons (ds_setVol (dp_var (i := 0)) dp_int (dp_add (dp_ix (dp_var (i := 0)) dp_int) dp_int)) (dss_one (ds_ret (dp_mod (dp_int1 T.b_int (da_cons (dp_cal h_law_mixed hr (by first | decide | omega) (da_cons (dp_ix (dp_var (i := 0)) dp_int) (da_cons (dp_ix (dp_var (i := 0)) dp_int) da_nil))) da_nil)) (dp_var (i := 1)))))))
theorem b_law_pick (h_law_draw : CalR P w K mg base "_law_draw" 2 (F_law_draw cs) [] 2) (T : Tt K mg cs) : ∀ (cdv : Value) (A : Around) (outer : List PySem.Env) (s : Shared) (H : Hp) (E : XK), R.Room 2 (A.deeper (envOfC "_law_pick" (defScope s_law_pick) s.heap.objs.size f cdv)) → PSs (cxOf CX0 P w K mg base N_law_pick "_law_pick" (defScope s_law_pick) f cdv A outer s H E).nox (defBody s_law_pick) (LS K exT [] (m_law_pick cs)) := fun cdv A outer s H E hr => (dss_one (ds_ret (dp_ix (dp_var (i := 1)) (dp_cal h_law_draw hr (by first | decide | omega) (da_cons (dp_var (i := 0)) (da_cons (dp_len T.b_len (da_cons (dp_var (i := 1)) da_nil)) da_nil))))))
theorem b_law_name  (T : Tt K mg cs) : ∀ (cdv : Value) (A : Around) (outer : List PySem.Env) (s : Shared) (H : Hp) (E : XK), R.Room 0 (A.deeper (envOfC "_law_name" (defScope s_law_name) s.heap.objs.size f cdv)) → PSs (cxOf CX0 P w K mg base N_law_name "_law_name" (defScope s_law_name) f cdv A outer s H E).nox (defBody s_law_name) (LS K exT [] (m_law_name cs)) := fun cdv A outer s H E hr => (dss_cons (ds_asg (i := 1) sc_law_name.nd rfl (dp_fz dp_str)) (dss_cons (ds_while PassesOwn.never (dt_ge (dp_var (i := 0)) dp_int) (dss_cons (ds_asg (i := 1) sc_law_name.nd rfl (dp_fz (dp_add (dp_ix dp_str (dp_mod (dp_int1 T.b_int (da_cons (dp_var (i := 0)) da_nil)) dp_int)) (dp_var (i := 1))))) (dss_one (ds_asg (i := 0) sc_law_name.nd rfl (dp_fz (dp_sub (dp_div (dp_var (i := 0)) dp_int) dp_int)))))) (dss_one (ds_ret (dp_var (i := 1))))))
theorem b_law_names (h_law_draw : CalR P w K mg base "_law_draw" 2 (F_law_draw cs) [] 2) (h_law_name : CalR P w K mg base "_law_name" 1 (F_law_name cs) [] 1) (T : Tt K mg cs) : ∀ (cdv : Value) (A : Around) (outer : List PySem.Env) (s : Shared) (H : Hp) (E : XK), R.Room 2 (A.deeper (envOfC "_law_names" (defScope s_law_names) s.heap.objs.size f cdv)) → PSs (cxOf CX0 P w K mg base N_law_names "_law_names" (defScope s_law_names) f cdv A outer s H E).nox (defBody s_law_names) (LS K exT [] (m_law_names cs)) := fun cdv A outer s H E hr => (dss_cons (ds_asg (i := 2) sc_law_names.nd rfl (dp_fz (dp_ix (dp_lst (da_cons dp_int (da_cons dp_int (da_cons dp_int (da_cons dp_int da_nil))))) (dp_cal h_law_draw hr (by first | decide | omega) (da_cons (dp_var (i := 0)) (da_cons dp_int da_nil)))))) (dss_cons (ds_asg (i := 3) sc_law_names.nd rfl (dp_fz (dp_ix (dp_lst (da_cons dp_int (da_cons dp_int (da_cons dp_int (da_cons dp_int da_nil))))) (dp_cal h_law_draw hr (by first | decide | omega) (da_cons (dp_var (i := 0)) (da_cons dp_int da_nil)))))) (dss_cons (ds_if (dt_eq (hu_R hr) (dp_mod (dp_int1 T.b_int (da_cons (dp_var (i := 1)) da_nil)) (dp_var (i := 3))) dp_int) (dss_one (ds_asg (i := 3) sc_law_names.nd rfl (dp_fz dp_int))) dss_nil) (dss_one (ds_ret (dp_lc (own := [("_law_at", 4)]) rfl sc_law_names.nd (di_rng1 T.b_range (dp_var (i := 1))) (blkOk_by (own := [("_law_at", 4)]) (N := N_law_names) (sc := defScope s_law_names) (by decide +kernel)) (fun _ _ _ _ _ => (dg_name (i := 4) sc_law_names.nd rfl)) (fun _ _ _ _ _ => dts_nil) (fun _ _ _ _ _ => (dp_cal h_law_name hr (by first | decide | omega) (da_cons (dp_add (dp_var (i := 2)) (dp_mod (dp_int1 T.b_int (da_cons (dp_mul (dp_var (i := 4)) (dp_var (i := 3))) da_nil)) (dp_var (i := 1)))) da_nil)))))))))
theorem b_law_row (h_law_pick : CalR P w K mg base "_law_pick" 2 (F_law_pick cs) [] 3) (h_law_draw : CalR P w K mg base "_law_draw" 2 (F_law_draw cs) [] 2) (T : Tt K mg cs) : ∀ (cdv : Value) (A : Around) (outer : List PySem.Env) (s : Shared) (H : Hp) (E : XK), R.Room 3 (A.deeper (envOfC "_law_row" (defScope s_law_row) s.heap.objs.size f cdv)) → PSs (cxOf CX0 P w K mg base N_law_row "_law_row" (defScope s_law_row) f cdv A outer s H E).nox (defBody s_law_row) (LS K exT [] (m_law_row cs)) := fun cdv A outer s H E hr => (dss_cons (ds_asg (i := 2) sc_law_row.nd rfl (dp_fz (dp_cal h_law_pick hr (by first | decide | omega) (da_cons (dp_var (i := 0)) (da_cons (dp_lst (da_cons dp_int (da_cons dp_int (da_cons dp_int (da_cons dp_int (da_cons dp_int da_nil)))))) da_nil))))) (dss_cons (ds_asg (i := 3) sc_law_row.nd rfl (dp_lst da_nil)) (dss_cons (ds_asg (i := 4) sc_law_row.nd rfl (dp_fz (dp_var (i := 1)))) (dss_cons (ds_for PassesOwn.never rfl (di_rng1 T.b_range (dp_add dp_int (dp_cal h_law_draw hr (by first | decide | omega) (da_cons (dp_var (i := 0)) (da_cons (dp_ix (dp_lst (da_cons dp_int (da_cons dp_int (da_cons dp_int da_nil)))) (dp_cal h_law_draw hr (by first | decide | omega) (da_cons (dp_var (i := 0)) (da_cons dp_int da_nil)))) da_nil))))) (dg_name (i := 5) sc_law_row.nd rfl) (dss_cons (ds_asg (i := 6) sc_law_row.nd rfl (dp_fz (dp_add dp_int (dp_cal h_law_draw hr (by first | decide | omega) (da_cons (dp_var (i := 0)) (da_cons (dp_min3 rfl T.b_min (da_cons (dp_var (i := 2)) (da_cons (dp_add (dp_var (i := 4)) dp_int) (da_cons dp_int da_nil)))) da_nil)))))) (dss_cons (ds_append (dpl_name (i := 3)) (dp_var (i := 6))) (dss_one (ds_asg (i := 4) sc_law_row.nd rfl (dp_fz (dp_add (dp_sub (dp_var (i := 4)) (dp_var (i := 6))) dp_int))))))) (dss_one (ds_fz (h := (ds_ret (dp_tup (da_cons (dp_var (i := 3)) (da_cons (dp_lc (own := [("_law_size", 6)]) rfl sc_law_row.nd (di_list (dp_sl (dp_var (i := 3)) do_none (do_some (dp_neg dp_int)))) (blkOk_by (own := [("_law_size", 6)]) (N := N_law_row) (sc := defScope s_law_row) (by decide +kernel)) (fun _ _ _ _ _ => (dg_name (i := 6) sc_law_row.nd rfl)) (fun _ _ _ _ _ => dts_nil) (fun _ _ _ _ _ => (dp_cal h_law_draw hr (by first | decide | omega) (da_cons (dp_var (i := 0)) (da_cons (dp_var (i := 6)) da_nil))))) da_nil)))))))))))
theorem b_law_member_count (h_law_draw : CalR P w K mg base "_law_draw" 2 (F_law_draw cs) [] 2) (T : Tt K mg cs) : ∀ (cdv : Value) (A : Around) (outer : List PySem.Env) (s : Shared) (H : Hp) (E : XK), R.Room 2 (A.deeper (envOfC "_law_member_count" (defScope s_law_member_count) s.heap.objs.size f cdv)) → PSs (cxOf CX0 P w K mg base N_law_member_count "_law_member_count" (defScope s_law_member_count) f cdv A outer s H E).nox (defBody s_law_member_count) (LS K exT [] (m_law_member_count cs)) := fun cdv A outer s H E hr => (dss_cons (ds_asg (i := 2) sc_law_member_count.nd rfl (dp_fz (dp_add (dp_sub (dp_sum rfl T.b_sum (da_cons (dp_var (i := 1)) da_nil)) (dp_len T.b_len (da_cons (dp_var (i := 1)) da_nil))) dp_int))) (dss_one (ds_ret (dp_add (dp_var (i := 2)) (dp_cal h_law_draw hr (by first | decide | omega) (da_cons (dp_var (i := 0)) (da_cons (dp_ix (dp_lst (da_cons dp_int (da_cons (dp_min2 rfl T.b_min (da_cons dp_int (da_cons (dp_sub dp_int (dp_var (i := 2))) da_nil))) (da_cons (dp_sub dp_int (dp_var (i := 2))) da_nil)))) (dp_cal h_law_draw hr (by first | decide | omega) (da_cons (dp_var (i := 0)) (da_cons dp_int da_nil)))) da_nil)))))))
theorem b_law_step  (T : Tt K mg cs) : ∀ (cdv : Value) (A : Around) (outer : List PySem.Env) (s : Shared) (H : Hp) (E : XK), R.Room 0 (A.deeper (envOfC "_law_step" (defScope s_law_step) s.heap.objs.size f cdv)) → PSs (cxOf CX0 P w K mg base N_law_step "_law_step" (defScope s_law_step) f cdv A outer s H E).nox (defBody s_law_step) (LS K exT [] (m_law_step cs)) := fun cdv A outer s H E hr => (dss_cons (ds_asg (i := 3) sc_law_step.nd rfl (dp_list T.b_list (da_cons (dp_ix (dp_var (i := 2)) dp_int) da_nil))) (dss_cons (ds_setLc (i := 4) (own := [("_law_row_here", 7)]) rfl sc_law_step.nd rfl rfl (sw_true rfl rfl rfl (by decide +kernel)) (di_list (dp_ix (dp_var (i := 2)) dp_int)) (blkOk_by (own := [("_law_row_here", 7)]) (N := N_law_step) (sc := defScope s_law_step) (by decide +kernel)) (fun _ _ _ _ _ => (dg_name (i := 7) sc_law_step.nd rfl)) (fun _ _ _ _ _ => dts_nil) (fun _ _ _ _ _ => (dp_list T.b_list (da_cons (dp_var (i := 7)) da_nil)))) (dss_cons (ds_appPop (j := 3) (dpl_ix (dpl_name (i := 4)) dp_int) (pe_var (i := 3) rfl (by first | exact Or.inl rfl | exact Or.inr (Or.inl rfl) | exact Or.inr (Or.inr rfl)) (by decide) (by decide)) dp_int) (dss_cons (ds_for PassesOwn.never rfl (di_enum T.b_enumerate (dp_var (i := 0))) (dg_tup rfl (dgs_cons (dg_name (i := 5) sc_law_step.nd rfl) (dgs_cons (dg_name (i := 6) sc_law_step.nd rfl) dgs_nil))) (dss_cons (ds_if (dt_lt (dp_len T.b_len (da_cons (dp_ix (dp_var (i := 4)) (dp_var (i := 5))) da_nil)) (dp_var (i := 6))) (dss_one (ds_fz (h := (ds_fz (h := (ds_ret (dp_tup (da_cons (dp_tup (da_cons (dp_var (i := 3)) (da_cons (dp_var (i := 4)) da_nil))) (da_cons dp_non da_nil))))))))) dss_nil) (dss_cons (ds_take (j := 7) sc_law_step.nd rfl (dpl_ix (dpl_name (i := 4)) (dp_var (i := 5)))) (dss_cons (ds_setI (dpl_name (i := 4)) (dp_var (i := 5)) (dp_lst da_nil)) (dss_cons (ds_if (dt_eq (hu_R hr) (dp_var (i := 5)) (dp_sub (dp_len T.b_len (da_cons (dp_var (i := 0)) da_nil)) dp_int)) (dss_one (ds_fz (h := (ds_fz (h := (ds_ret (dp_tup (da_cons (dp_tup (da_cons (dp_add (dp_var (i := 3)) (dp_var (i := 7))) (da_cons (dp_var (i := 4)) da_nil))) (da_cons (dp_var (i := 7)) da_nil))))))))) dss_nil) (dss_cons (ds_append (dpl_ix (dpl_name (i := 4)) (dp_add (dp_var (i := 5)) dp_int)) (dp_ix (dp_var (i := 7)) (dp_ix (dp_var (i := 1)) (dp_var (i := 5))))) (dss_one (ds_asg (i := 3) sc_law_step.nd rfl (dp_add (dp_add (dp_var (i := 3)) (dp_sl (dp_var (i := 7)) do_none (do_some (dp_ix (dp_var (i := 1)) (dp_var (i := 5)))))) (dp_sl (dp_var (i := 7)) (do_some (dp_add (dp_ix (dp_var (i := 1)) (dp_var (i := 5))) dp_int)) do_none)))))))))) (dss_one (ds_ret dp_non))))))
theorem b_law_queues (h_law_step : CalR P w K mg base "_law_step" 3 (F_law_step cs) [] 1) (T : Tt K mg cs) : ∀ (cdv : Value) (A : Around) (outer : List PySem.Env) (s : Shared) (H : Hp) (E : XK), R.Room 1 (A.deeper (envOfC "_law_queues" (defScope s_law_queues) s.heap.objs.size f cdv)) → PSs (cxOf CX0 P w K mg base N_law_queues "_law_queues" (defScope s_law_queues) f cdv A outer s H E).nox (defBody s_law_queues) (LS K exT [] (m_law_queues cs)) := fun cdv A outer s H E hr => (dss_cons (ds_asg (i := 4) sc_law_queues.nd rfl (dp_fz (dp_tup (da_cons (dp_var (i := 2)) (da_cons (dp_lc (own := [("_law_size", 9)]) rfl sc_law_queues.nd (di_list (dp_var (i := 0))) (blkOk_by (own := [("_law_size", 9)]) (N := N_law_queues) (sc := defScope s_law_queues) (by decide +kernel)) (fun _ _ _ _ _ => (dg_name (i := 9) sc_law_queues.nd rfl)) (fun _ _ _ _ _ => dts_nil) (fun _ _ _ _ _ => (dp_lst da_nil))) da_nil))))) (dss_cons (ds_asg (i := 5) sc_law_queues.nd rfl (dp_lst (da_cons (dp_var (i := 2)) da_nil))) (dss_cons (ds_asg (i := 6) sc_law_queues.nd rfl (dp_mul (dp_lst (da_cons dp_int da_nil)) (dp_len T.b_len (da_cons (dp_var (i := 0)) da_nil)))) (dss_cons (ds_for PassesOwn.never rfl (di_rng1 T.b_range (dp_var (i := 3))) (dg_name (i := 7) sc_law_queues.nd rfl) (dss_cons (ds_asg (i := 8) sc_law_queues.nd rfl (dp_fz dp_int)) (dss_cons (ds_while PassesOwn.never (PW.pt (dw_and (dt_lt (dp_var (i := 8)) (dp_len T.b_len (da_cons (dp_var (i := 0)) da_nil))) (dw_and1 (dt_eq (hu_R hr) (dp_add (dp_len T.b_len (da_cons (dp_ix (dp_ix (dp_var (i := 4)) dp_int) (dp_var (i := 8))) da_nil)) dp_int) (dp_ix (dp_var (i := 0)) (dp_var (i := 8))))))) (dss_cons (ds_setI (dpl_name (i := 6)) (dp_var (i := 8)) (dp_add (dp_ix (dp_var (i := 6)) (dp_var (i := 8))) dp_int)) (dss_one (ds_asg (i := 8) sc_law_queues.nd rfl (dp_fz (dp_add (dp_var (i := 8)) dp_int)))))) (dss_cons (ds_asg (i := 4) sc_law_queues.nd rfl (dp_fz (dp_ix (dp_cal h_law_step hr (by first | decide | omega) (da_cons (dp_var (i := 0)) (da_cons (dp_var (i := 1)) (da_cons (dp_var (i := 4)) da_nil)))) dp_int))) (dss_one (ds_append (dpl_name (i := 5)) (dp_ix (dp_var (i := 4)) dp_int))))))) (dss_one (ds_fz (h := (ds_fz (h := (ds_ret (dp_tup (da_cons (dp_var (i := 5)) (da_cons (dp_var (i := 6)) da_nil)))))))))))))
theorem b_law_simple_row (h_law_row : CalR P w K mg base "_law_row" 2 (F_law_row cs) [] 4) (h_law_pick : CalR P w K mg base "_law_pick" 2 (F_law_pick cs) [] 3) (h_law_draw : CalR P w K mg base "_law_draw" 2 (F_law_draw cs) [] 2) (T : Tt K mg cs) : ∀ (cdv : Value) (A : Around) (outer : List PySem.Env) (s : Shared) (H : Hp) (E : XK), R.Room 4 (A.deeper (envOfC "_law_simple_row" (defScope s_law_simple_row) s.heap.objs.size f cdv)) → PSs (cxOf CX0 P w K mg base N_law_simple_row "_law_simple_row" (defScope s_law_simple_row) f cdv A outer s H E).nox (defBody s_law_simple_row) (LS K exT [] (m_law_simple_row cs)) := fun cdv A outer s H E hr => (dss_cons (ds_asgG (dp_cal h_law_row hr (by first | decide | omega) (da_cons (dp_var (i := 0)) (da_cons dp_int da_nil))) (dg_tup rfl (dgs_cons (dg_name (i := 1) sc_law_simple_row.nd rfl) (dgs_cons (dg_name (i := 2) sc_law_simple_row.nd rfl) dgs_nil)))) (dss_cons (ds_setLcF (i := 1) (own := [("_law_size", 3)]) rfl sc_law_simple_row.nd rfl rfl (sw_true rfl rfl rfl (by decide +kernel)) (di_list (dp_var (i := 1))) (blkOk_by (own := [("_law_size", 3)]) (N := N_law_simple_row) (sc := defScope s_law_simple_row) (by decide +kernel)) (fun _ _ _ _ _ => (dg_name (i := 3) sc_law_simple_row.nd rfl)) (fun _ _ _ _ _ => (dts_one (dt_gt (dp_var (i := 3)) dp_int))) (fun _ _ _ _ _ => (dp_var (i := 3)))) (dss_cons (ds_if (dt_eq (hu_R hr) (dp_var (i := 1)) (dp_lst da_nil)) (dss_one (ds_asg (i := 1) sc_law_simple_row.nd rfl (dp_fz (dp_lst (da_cons (dp_cal h_law_pick hr (by first | decide | omega) (da_cons (dp_var (i := 0)) (da_cons (dp_lst (da_cons dp_int (da_cons dp_int (da_cons dp_int (da_cons dp_int da_nil))))) da_nil))) da_nil))))) dss_nil) (dss_cons (ds_setLc (i := 2) (own := [("_law_size", 3)]) rfl sc_law_simple_row.nd rfl rfl (sw_true rfl rfl rfl (by decide +kernel)) (di_list (dp_sl (dp_var (i := 1)) do_none (do_some (dp_neg dp_int)))) (blkOk_by (own := [("_law_size", 3)]) (N := N_law_simple_row) (sc := defScope s_law_simple_row) (by decide +kernel)) (fun _ _ _ _ _ => (dg_name (i := 3) sc_law_simple_row.nd rfl)) (fun _ _ _ _ _ => dts_nil) (fun _ _ _ _ _ => (dp_cal h_law_draw hr (by first | decide | omega) (da_cons (dp_var (i := 0)) (da_cons (dp_var (i := 3)) da_nil))))) (dss_cons (ds_if (PW.pt (dw_and (dt_gt (dp_ix (dp_var (i := 1)) (dp_neg dp_int)) dp_int) (dw_and (dt_lt (dp_len T.b_len (da_cons (dp_var (i := 1)) da_nil)) dp_int) (dw_and1 (dt_eq (hu_R hr) (dp_cal h_law_draw hr (by first | decide | omega) (da_cons (dp_var (i := 0)) (da_cons dp_int da_nil))) dp_int))))) (dss_cons (ds_append (dpl_name (i := 2)) (dp_cal h_law_draw hr (by first | decide | omega) (da_cons (dp_var (i := 0)) (da_cons (dp_sub (dp_ix (dp_var (i := 1)) (dp_neg dp_int)) dp_int) da_nil)))) (dss_one (ds_asg (i := 1) sc_law_simple_row.nd rfl (dp_fz (dp_add (dp_var (i := 1)) (dp_lst (da_cons dp_int da_nil))))))) dss_nil) (dss_one (ds_fz (h := (ds_ret (dp_tup (da_cons (dp_var (i := 1)) (da_cons (dp_var (i := 2)) da_nil))))))))))))
theorem b_law_expected  (T : Tt K mg cs) : ∀ (cdv : Value) (A : Around) (outer : List PySem.Env) (s : Shared) (H : Hp) (E : XK), R.Room 0 (A.deeper (envOfC "_law_expected" (defScope s_law_expected) s.heap.objs.size f cdv)) → PSs (cxOf CX0 P w K mg base N_law_expected "_law_expected" (defScope s_law_expected) f cdv A outer s H E).nox (defBody s_law_expected) (LS K exT [] (m_law_expected cs)) := fun cdv A outer s H E hr => (dss_cons (ds_asg (i := 3) sc_law_expected.nd rfl (dp_fz (dp_len T.b_len (da_cons (dp_lc (own := [("_law_times", 4)]) rfl sc_law_expected.nd (di_list (dp_var (i := 2))) (blkOk_by (own := [("_law_times", 4)]) (N := N_law_expected) (sc := defScope s_law_expected) (by decide +kernel)) (fun _ _ _ _ _ => (dg_name (i := 4) sc_law_expected.nd rfl)) (fun _ _ _ _ _ => (dts_one (dt_gt (dp_var (i := 4)) dp_int))) (fun _ _ _ _ _ => (dp_var (i := 4)))) da_nil)))) (dss_one (ds_ret (dp_tup (da_cons (dp_sl (dp_var (i := 0)) do_none (do_some (dp_var (i := 3)))) (da_cons (dp_sl (dp_var (i := 1)) do_none (do_some (dp_var (i := 3)))) (da_cons (dp_eq (hu_R hr) (dp_var (i := 3)) (dp_len T.b_len (da_cons (dp_var (i := 0)) da_nil))) da_nil)))))))
theorem b_law_with_unit_cups  (T : Tt K mg cs) : ∀ (cdv : Value) (A : Around) (outer : List PySem.Env) (s : Shared) (H : Hp) (E : XK), R.Room 0 (A.deeper (envOfC "_law_with_unit_cups" (defScope s_law_with_unit_cups) s.heap.objs.size f cdv)) → PSs (cxOf CX0 P w K mg base N_law_with_unit_cups "_law_with_unit_cups" (defScope s_law_with_unit_cups) f cdv A outer s H E).nox (defBody s_law_with_unit_cups) (LS K exT [] (m_law_with_unit_cups cs)) := fun cdv A outer s H E hr => (dss_cons (ds_if (dt_gt (dp_len T.b_len (da_cons (dp_var (i := 0)) da_nil)) dp_int) (dss_one (ds_ret (dp_tup (da_cons (dp_add (dp_add (dp_add (dp_lst (da_cons dp_int da_nil)) (dp_sl (dp_var (i := 0)) do_none (do_some dp_int))) (dp_lst (da_cons dp_int da_nil))) (dp_sl (dp_var (i := 0)) (do_some dp_int) do_none)) (da_cons (dp_add (dp_add (dp_add (dp_lst (da_cons dp_int da_nil)) (dp_sl (dp_var (i := 1)) do_none (do_some dp_int))) (dp_lst (da_cons dp_int da_nil))) (dp_sl (dp_var (i := 1)) (do_some dp_int) do_none)) da_nil))))) dss_nil) (dss_one (ds_ret (dp_tup (da_cons (dp_add (dp_lst (da_cons dp_int da_nil)) (dp_var (i := 0))) (da_cons (dp_lst (da_cons dp_int da_nil)) da_nil))))))
theorem b_law_lists_are_new  (T : Tt K mg cs) : ∀ (cdv : Value) (A : Around) (outer : List PySem.Env) (s : Shared) (H : Hp) (E : XK), R.Room 0 (A.deeper (envOfC "_law_lists_are_new" (defScope s_law_lists_are_new) s.heap.objs.size f cdv)) → PSs (cxOf CX0 P w K mg base N_law_lists_are_new "_law_lists_are_new" (defScope s_law_lists_are_new) f cdv A outer s H E).nox (defBody s_law_lists_are_new) (LS K exT [0] (m_law_lists_are_new cs)) := fun cdv A outer s H E hr => (dss_cons (ds_asg (i := 1) sc_law_lists_are_new.nd rfl (dp_fz (dp_list T.b_list (da_cons (dp_ix (dp_var (i := 0)) dp_int) da_nil)))) (dss_cons (ds_append (dpl_ixT (dpl_name (i := 0)) dp_int) dp_int) (dss_cons (ds_if (PW.pt (dw_or (dt_ne (hu_R hr) (dp_ix (dp_var (i := 0)) dp_int) (dp_var (i := 1))) (dw_or1 (dt_not (dt_val (dp_is (n := "bool") T.b_isinstance T.b_bool (by decide) (by decide +kernel) (dp_ix (dp_var (i := 0)) dp_int))))))) (dss_one (ds_ret dp_bl)) dss_nil) (dss_cons (ds_append (dpl_ixT (dpl_name (i := 0)) dp_int) dp_int) (dss_one (ds_ret dp_bl))))))
theorem b_law (h_law_source : CalR P w K mg base "_law_source" 2 (F_law_source cs) [] 2) (h_law_simple_row : CalR P w K mg base "_law_simple_row" 1 (F_law_simple_row cs) [] 5) (h_law_names : CalR P w K mg base "_law_names" 2 (F_law_names cs) [] 3) (h_law_member_count : CalR P w K mg base "_law_member_count" 2 (F_law_member_count cs) [] 3) (h_law_draw : CalR P w K mg base "_law_draw" 2 (F_law_draw cs) [] 2) (h_law_queues : CalR P w K mg base "_law_queues" 4 (F_law_queues cs) [] 2) (h_infer_cups : CalR P w K mg base "infer_cups" 1 (F_infer_cups cs) [] 4) (h_law_expected : CalR P w K mg base "_law_expected" 3 (F_law_expected cs) [] 1) (h_law_lists_are_new : CalIO P w K mg base "_law_lists_are_new" 1 (F_law_lists_are_new cs) [] 1) (h_law_with_unit_cups : CalR P w K mg base "_law_with_unit_cups" 2 (F_law_with_unit_cups cs) [] 1) (T : Tt K mg cs) : ∀ (cdv : Value) (A : Around) (outer : List PySem.Env) (s : Shared) (H : Hp) (E : XK), R.Room 5 (A.deeper (envOfC "law" (defScope s_law) s.heap.objs.size f cdv)) → PSs (cxOf CX0 P w K mg base N_law "law" (defScope s_law) f cdv A outer s H E).nox (defBody s_law) (LS K exT [] (m_law cs)) := fun cdv A outer s H E hr => (dss_cons (ds_for PassesOwn.never rfl (di_rng1 T.b_range (dp_max2 rfl T.b_max (da_cons dp_int (da_cons (dp_min2 rfl T.b_min (da_cons dp_int (da_cons (dp_len T.b_len (da_cons (dp_var (i := 0)) da_nil)) da_nil))) da_nil)))) (dg_name (i := 1) sc_law.nd rfl) (dss_cons (ds_asg (i := 2) sc_law.nd rfl (dp_fz (dp_cal h_law_source hr (by first | decide | omega) (da_cons (dp_var (i := 0)) (da_cons (dp_var (i := 1)) da_nil))))) (dss_cons (ds_asgG (dp_fz (dp_cal h_law_simple_row hr (by first | decide | omega) (da_cons (dp_var (i := 2)) da_nil))) (dg_tup rfl (dgs_cons (dg_name (i := 3) sc_law.nd rfl) (dgs_cons (dg_name (i := 4) sc_law.nd rfl) dgs_nil)))) (dss_cons (ds_asg (i := 5) sc_law.nd rfl (dp_fz (dp_cal h_law_names hr (by first | decide | omega) (da_cons (dp_var (i := 2)) (da_cons (dp_cal h_law_member_count hr (by first | decide | omega) (da_cons (dp_var (i := 2)) (da_cons (dp_var (i := 3)) da_nil))) da_nil))))) (dss_cons (ds_asg (i := 6) sc_law.nd rfl (dp_fz (dp_cal h_law_draw hr (by first | decide | omega) (da_cons (dp_var (i := 2)) (da_cons (dp_ix (dp_lst (da_cons dp_int (da_cons dp_int (da_cons dp_int da_nil)))) (dp_cal h_law_draw hr (by first | decide | omega) (da_cons (dp_var (i := 2)) (da_cons dp_int da_nil)))) da_nil))))) (dss_cons (ds_if (PW.pt (dw_and (dt_eq (hu_R hr) (dp_var (i := 1)) dp_int) (dw_and1 (dt_eq (hu_R hr) (dp_cal h_law_draw hr (by first | decide | omega) (da_cons (dp_var (i := 2)) (da_cons dp_int da_nil))) dp_int)))) (dss_one (ds_asg (i := 6) sc_law.nd rfl (dp_fz dp_int))) dss_nil) (dss_cons (ds_asgG (dp_fz (dp_cal h_law_queues hr (by first | decide | omega) (da_cons (dp_var (i := 3)) (da_cons (dp_var (i := 4)) (da_cons (dp_var (i := 5)) (da_cons (dp_var (i := 6)) da_nil)))))) (dg_tup rfl (dgs_cons (dg_name (i := 7) sc_law.nd rfl) (dgs_cons (dg_name (i := 8) sc_law.nd rfl) dgs_nil)))) (dss_cons (ds_setLcF (i := 9) (own := [("_law_row_here", 16)]) rfl sc_law.nd rfl rfl (sw_true rfl rfl rfl (by decide +kernel)) (di_list (dp_var (i := 7))) (blkOk_by (own := [("_law_row_here", 16)]) (N := N_law) (sc := defScope s_law) (by decide +kernel)) (fun _ _ _ _ _ => (dg_name (i := 16) sc_law.nd rfl)) (fun _ _ _ _ _ => dts_nil) (fun _ _ _ _ _ => (dp_list T.b_list (da_cons (dp_var (i := 16)) da_nil)))) (dss_cons (ds_asg (i := 10) sc_law.nd rfl (dp_cal h_infer_cups hr (by first | decide | omega) (da_cons (dp_var (i := 9)) da_nil))) (dss_cons (ds_if (PW.pt (dw_or (dt_ne (hu_R hr) (dp_var (i := 10)) (dp_cal h_law_expected hr (by first | decide | omega) (da_cons (dp_var (i := 3)) (da_cons (dp_var (i := 4)) (da_cons (dp_var (i := 8)) da_nil))))) (dw_or1 (dt_ne (hu_R hr) (dp_var (i := 9)) (dp_var (i := 7)))))) (dss_one (ds_ret dp_bl)) dss_nil) (dss_cons (ds_ifOrN (dm_cal h_law_lists_are_new hr (by first | decide | omega) (dva_cons (dva_nil da_nil) (pe_var (i := 10) rfl (by first | exact Or.inl rfl | exact Or.inr (Or.inl rfl) | exact Or.inr (Or.inr rfl)) (by decide) (by decide)))) (dp_cal1N h_law_lists_are_new hr (by first | decide | omega) (dp_cal h_infer_cups hr (by first | decide | omega) (da_cons (dp_sl (dp_var (i := 7)) do_none (do_some dp_int)) da_nil))) (dss_one (ds_ret dp_bl)) dss_nil) (dss_cons (ds_if (dt_ne (hu_R hr) (dp_cal h_infer_cups hr (by first | decide | omega) (da_cons (dp_var (i := 7)) da_nil)) (dp_cal h_law_expected hr (by first | decide | omega) (da_cons (dp_var (i := 3)) (da_cons (dp_var (i := 4)) (da_cons (dp_var (i := 8)) da_nil))))) (dss_one (ds_ret dp_bl)) dss_nil) (dss_cons (ds_if (dt_lt (dp_len T.b_len (da_cons (dp_var (i := 3)) da_nil)) dp_int) (dss_cons (ds_asgG (dp_fz (dp_cal h_law_with_unit_cups hr (by first | decide | omega) (da_cons (dp_var (i := 3)) (da_cons (dp_var (i := 4)) da_nil)))) (dg_tup rfl (dgs_cons (dg_name (i := 11) sc_law.nd rfl) (dgs_cons (dg_name (i := 12) sc_law.nd rfl) dgs_nil)))) (dss_one (ds_if (dt_ne (hu_R hr) (dp_ix (dp_cal h_law_queues hr (by first | decide | omega) (da_cons (dp_var (i := 11)) (da_cons (dp_var (i := 12)) (da_cons (dp_var (i := 5)) (da_cons (dp_var (i := 6)) da_nil))))) dp_int) (dp_var (i := 7))) (dss_one (ds_ret dp_bl)) dss_nil))) dss_nil) (dss_cons (ds_asg (i := 13) sc_law.nd rfl (dp_fz (dp_cal h_law_draw hr (by first | decide | omega) (da_cons (dp_var (i := 2)) (da_cons (dp_add (dp_var (i := 6)) dp_int) da_nil))))) (dss_cons (ds_asg (i := 14) sc_law.nd rfl (dp_fz (dp_cal h_infer_cups hr (by first | decide | omega) (da_cons (dp_sl (dp_var (i := 7)) do_none (do_some (dp_add (dp_var (i := 13)) dp_int))) da_nil)))) (dss_cons (ds_asg (i := 15) sc_law.nd rfl (dp_fz (dp_cal h_law_expected hr (by first | decide | omega) (da_cons (dp_var (i := 3)) (da_cons (dp_var (i := 4)) (da_cons (dp_ix (dp_cal h_law_queues hr (by first | decide | omega) (da_cons (dp_var (i := 3)) (da_cons (dp_var (i := 4)) (da_cons (dp_var (i := 5)) (da_cons (dp_var (i := 13)) da_nil))))) dp_int) da_nil)))))) (dss_one (ds_if (PW.pt (dw_or (dt_ne (hu_R hr) (dp_var (i := 14)) (dp_var (i := 15))) (dw_or1 (dt_ne (hu_R hr) (dp_sl (dp_var (i := 3)) do_none (do_some (dp_len T.b_len (da_cons (dp_ix (dp_var (i := 14)) dp_int) da_nil)))) (dp_ix (dp_var (i := 14)) dp_int))))) (dss_one (ds_ret dp_bl)) dss_nil)))))))))))))))))) (dss_one (ds_ret dp_bl)))
end
abbrev csK (K : PySem.W.Frag) : Cs := ⟨He.ga K "CupLadderError", He.ga K "InvalidState", He.ga K "CupFinder", 0, 0, 0⟩
theorem ob_eq (s : PySem.W.SharedT) : ob s = hk.obs s.abs := R.obsY_eq (HandSHeadRun.getT_eq s)
theorem facts {P : Program} {w : World} {K : PySem.W.Frag} {h : Heap} {mg : PySem.Str → Option Value} {f : Addr} (X : K.In h) (G : h.Ns mainGlobals mg) (hfa : mg ("law" : PySem.Str) = some (.ref f)) (cX : He.SaysX fa fn [] tf (R.exB isl esl ksl tf oxl) w h K) : ∃ (cs : Cs) (fd : FuncData), (∀ (s : Shared) (v : Value), BindsTo s fd ⟨[v], []⟩ [("_law_script", v)]) ∧ ∀ base : Heap, K.In base → base.Ns mainGlobals mg → (∀ p ∈ tf.map (He.cT K), LamX.TabB base mg p.1 p.2) → R.FnOk P w K mg base CX0 6 f fd ["_law_script"] (spR K 1 (F_law cs).io) := by
  have c := cX.t.d
  have ci := exB_is cX.more
  obtain ⟨fd0, FD0⟩ := c.def_ 0 (d := dD_is_name) rfl
  obtain ⟨fd1, FD1⟩ := c.def_ 1 (d := dD_is_name_list) rfl
  obtain ⟨fd2, FD2⟩ := c.def_ 2 (d := dD_require) rfl
  obtain ⟨fd3, FD3⟩ := c.def_ 3 (d := dD_CupFinder_init) rfl
  obtain ⟨fd4, FD4⟩ := c.def_ 4 (d := dD_CupFinder_observe) rfl
  obtain ⟨fd5, FD5⟩ := c.def_ 5 (d := dD_CupFinder_empty_known_cup) rfl
  obtain ⟨fd6, FD6⟩ := c.def_ 6 (d := dD_CupFinder_learn_cup) rfl
  obtain ⟨fd7, FD7⟩ := c.def_ 7 (d := dD_CupFinder_check_limits) rfl
  obtain ⟨fd8, FD8⟩ := c.def_ 8 (d := dD_infer_cups) rfl
  obtain ⟨fd9, FD9⟩ := c.def_ 9 (d := dD_law_cell_at) rfl
  obtain ⟨fd10, FD10⟩ := c.def_ 10 (d := dD_law_mixed) rfl
  obtain ⟨fd11, FD11⟩ := c.def_ 11 (d := dD_law_source) rfl
  obtain ⟨fd12, FD12⟩ := c.def_ 12 (d := dD_law_draw) rfl
  obtain ⟨fd13, FD13⟩ := c.def_ 13 (d := dD_law_pick) rfl
  obtain ⟨fd14, FD14⟩ := c.def_ 14 (d := dD_law_name) rfl
  obtain ⟨fd15, FD15⟩ := c.def_ 15 (d := dD_law_names) rfl
  obtain ⟨fd16, FD16⟩ := c.def_ 16 (d := dD_law_row) rfl
  obtain ⟨fd17, FD17⟩ := c.def_ 17 (d := dD_law_member_count) rfl
  obtain ⟨fd18, FD18⟩ := c.def_ 18 (d := dD_law_step) rfl
  obtain ⟨fd19, FD19⟩ := c.def_ 19 (d := dD_law_queues) rfl
  obtain ⟨fd20, FD20⟩ := c.def_ 20 (d := dD_law_simple_row) rfl
  obtain ⟨fd21, FD21⟩ := c.def_ 21 (d := dD_law_expected) rfl
  obtain ⟨fd22, FD22⟩ := c.def_ 22 (d := dD_law_with_unit_cups) rfl
  obtain ⟨fd23, FD23⟩ := c.def_ 23 (d := dD_law_lists_are_new) rfl
  obtain ⟨fd24, FD24⟩ := c.def_ 24 (d := dD_law) rfl
  have T : Tt K mg (csK K) := ⟨He.free_ok X G (c.fact 3 (f := .free "all") rfl),
    He.free_ok X G (c.fact 4 (f := .free "bool") rfl),
    He.free_ok X G (c.fact 5 (f := .free "enumerate") rfl),
    He.free_ok X G (c.fact 6 (f := .free "int") rfl),
    He.free_ok X G (c.fact 7 (f := .free "isinstance") rfl),
    He.free_ok X G (c.fact 8 (f := .free "len") rfl),
    He.free_ok X G (c.fact 9 (f := .free "list") rfl),
    He.free_ok X G (c.fact 10 (f := .free "max") rfl),
    He.free_ok X G (c.fact 11 (f := .free "min") rfl),
    He.free_ok X G (c.fact 12 (f := .free "range") rfl),
    He.free_ok X G (c.fact 13 (f := .free "set") rfl),
    He.free_ok X G (c.fact 14 (f := .free "str") rfl),
    He.free_ok X G (c.fact 15 (f := .free "sum") rfl),
    He.str_ok X G (c.fact 16 (f := .str "LETTERS" "abcdefghijklmnopqrstuvwxyz") rfl),
    He.int_ok X G (c.fact 17 (f := .int "MAX_CUPS" 30) rfl),
    He.int_ok X G (c.fact 18 (f := .int "MAX_EXTRA" 30) rfl),
    He.int_ok X G (c.fact 19 (f := .int "MAX_LETTERS" 8) rfl),
    He.int_ok X G (c.fact 20 (f := .int "MAX_MEMBERS" 40) rfl),
    He.int_ok X G (c.fact 21 (f := .int "MAX_QUEUES" 400) rfl),
    He.int_ok X G (c.fact 22 (f := .int "MAX_SIZE" 9) rfl),
    He.cls_ok (c.fact 23 (f := .cls "CupFinder") rfl),
    He.noat_ok (c.fact 24 (f := .noat "CupFinder" "complete") rfl),
    He.noat_ok (c.fact 25 (f := .noat "CupFinder" "contents") rfl),
    He.noat_ok (c.fact 26 (f := .noat "CupFinder" "known_indices") rfl),
    He.noat_ok (c.fact 27 (f := .noat "CupFinder" "known_sizes") rfl),
    He.noat_ok (c.fact 28 (f := .noat "CupFinder" "queue") rfl)⟩
  have e := hfa.symm.trans (He.glo_ok X G (c.fact 53 (f := .glo "law") rfl))
  cases e
  have bL := FunD.bindsA (ps := ["_law_script"]) FD24 fun _ _ _ _ _ _ us hl => match us, hl with | [_], _ => rfl
  refine ⟨csK K, fd24, fun s v => bL s [v] rfl, fun base _ _ hTB => ?_⟩
  have ok_law_mixed : R.FnOk P w K mg base CX0 1 _ fd10 P_law_mixed (spR K 2 (F_law_mixed (csK K)).io) := fn_R FD10 sc_law_mixed rfl (b_law_mixed  T) (fun ss Q _ q => wp_law_mixed (csK K) ss Q q)
  have h_law_mixed : CalR P w K mg base "_law_mixed" 2 (F_law_mixed (csK K)) [] 1 := by
      exact ⟨_, fd10, P_law_mixed, [], [], ok_law_mixed, He.glo_ok X G (c.fact 29 (f := .glo "_law_mixed") rfl), FD10.kp, (FunD.bindsN (ps := P_law_mixed) FD10 fun _ _ _ _ _ _ us hl => match us, hl with | [_, _], _ => rfl), .nil, fun _ => .nil⟩
  have ok_law_cell_at : R.FnOk P w K mg base CX0 1 _ fd9 P_law_cell_at (spR K 2 (F_law_cell_at (csK K)).io) := fn_R FD9 sc_law_cell_at rfl (b_law_cell_at  T) (fun ss Q _ q => wp_law_cell_at (csK K) ss Q q)
  have h_law_cell_at : CalR P w K mg base "_law_cell_at" 2 (F_law_cell_at (csK K)) [] 1 := by
      exact ⟨_, fd9, P_law_cell_at, [], [], ok_law_cell_at, He.glo_ok X G (c.fact 30 (f := .glo "_law_cell_at") rfl), FD9.kp, (FunD.bindsN (ps := P_law_cell_at) FD9 fun _ _ _ _ _ _ us hl => match us, hl with | [_, _], _ => rfl), .nil, fun _ => .nil⟩
  have ok_law_source : R.FnOk P w K mg base CX0 2 _ fd11 P_law_source (spR K 2 (F_law_source (csK K)).io) := fn_R FD11 sc_law_source rfl (b_law_source h_law_mixed h_law_cell_at T) (fun ss Q _ q => wp_law_source (csK K) ss Q q)
  have h_law_source : CalR P w K mg base "_law_source" 2 (F_law_source (csK K)) [] 2 := by
      exact ⟨_, fd11, P_law_source, [], [], ok_law_source, He.glo_ok X G (c.fact 31 (f := .glo "_law_source") rfl), FD11.kp, (FunD.bindsN (ps := P_law_source) FD11 fun _ _ _ _ _ _ us hl => match us, hl with | [_, _], _ => rfl), .nil, fun _ => .nil⟩
  have ok_law_draw : R.FnOk P w K mg base CX0 2 _ fd12 P_law_draw (spR K 2 (F_law_draw (csK K)).io) := fn_R FD12 sc_law_draw rfl (b_law_draw h_law_mixed T) (fun ss Q _ q => wp_law_draw (csK K) ss Q q)
  have h_law_draw : CalR P w K mg base "_law_draw" 2 (F_law_draw (csK K)) [] 2 := by
      exact ⟨_, fd12, P_law_draw, [], [], ok_law_draw, He.glo_ok X G (c.fact 32 (f := .glo "_law_draw") rfl), FD12.kp, (FunD.bindsN (ps := P_law_draw) FD12 fun _ _ _ _ _ _ us hl => match us, hl with | [_, _], _ => rfl), .nil, fun _ => .nil⟩
  have ok_law_pick : R.FnOk P w K mg base CX0 3 _ fd13 P_law_pick (spR K 2 (F_law_pick (csK K)).io) := fn_R FD13 sc_law_pick rfl (b_law_pick h_law_draw T) (fun ss Q _ q => wp_law_pick (csK K) ss Q q)
  have h_law_pick : CalR P w K mg base "_law_pick" 2 (F_law_pick (csK K)) [] 3 := by
      exact ⟨_, fd13, P_law_pick, [], [], ok_law_pick, He.glo_ok X G (c.fact 33 (f := .glo "_law_pick") rfl), FD13.kp, (FunD.bindsN (ps := P_law_pick) FD13 fun _ _ _ _ _ _ us hl => match us, hl with | [_, _], _ => rfl), .nil, fun _ => .nil⟩
  have ok_law_row : R.FnOk P w K mg base CX0 4 _ fd16 P_law_row (spR K 2 (F_law_row (csK K)).io) := fn_R FD16 sc_law_row rfl (b_law_row h_law_pick h_law_draw T) (fun ss Q _ q => wp_law_row (csK K) ss Q q)
  have h_law_row : CalR P w K mg base "_law_row" 2 (F_law_row (csK K)) [] 4 := by
      exact ⟨_, fd16, P_law_row, [], [], ok_law_row, He.glo_ok X G (c.fact 34 (f := .glo "_law_row") rfl), FD16.kp, (FunD.bindsN (ps := P_law_row) FD16 fun _ _ _ _ _ _ us hl => match us, hl with | [_, _], _ => rfl), .nil, fun _ => .nil⟩
  have ok_law_simple_row : R.FnOk P w K mg base CX0 5 _ fd20 P_law_simple_row (spR K 1 (F_law_simple_row (csK K)).io) := fn_R FD20 sc_law_simple_row rfl (b_law_simple_row h_law_row h_law_pick h_law_draw T) (fun ss Q _ q => wp_law_simple_row (csK K) ss Q q)
  have h_law_simple_row : CalR P w K mg base "_law_simple_row" 1 (F_law_simple_row (csK K)) [] 5 := by
      exact ⟨_, fd20, P_law_simple_row, [], [], ok_law_simple_row, He.glo_ok X G (c.fact 35 (f := .glo "_law_simple_row") rfl), FD20.kp, (FunD.bindsN (ps := P_law_simple_row) FD20 fun _ _ _ _ _ _ us hl => match us, hl with | [_], _ => rfl), .nil, fun _ => .nil⟩
  have ok_law_name : R.FnOk P w K mg base CX0 1 _ fd14 P_law_name (spR K 1 (F_law_name (csK K)).io) := fn_R FD14 sc_law_name rfl (b_law_name  T) (fun ss Q _ q => wp_law_name (csK K) ss Q q)
  have h_law_name : CalR P w K mg base "_law_name" 1 (F_law_name (csK K)) [] 1 := by
      exact ⟨_, fd14, P_law_name, [], [], ok_law_name, He.glo_ok X G (c.fact 36 (f := .glo "_law_name") rfl), FD14.kp, (FunD.bindsN (ps := P_law_name) FD14 fun _ _ _ _ _ _ us hl => match us, hl with | [_], _ => rfl), .nil, fun _ => .nil⟩
  have ok_law_names : R.FnOk P w K mg base CX0 3 _ fd15 P_law_names (spR K 2 (F_law_names (csK K)).io) := fn_R FD15 sc_law_names rfl (b_law_names h_law_draw h_law_name T) (fun ss Q _ q => wp_law_names (csK K) ss Q q)
  have h_law_names : CalR P w K mg base "_law_names" 2 (F_law_names (csK K)) [] 3 := by
      exact ⟨_, fd15, P_law_names, [], [], ok_law_names, He.glo_ok X G (c.fact 37 (f := .glo "_law_names") rfl), FD15.kp, (FunD.bindsN (ps := P_law_names) FD15 fun _ _ _ _ _ _ us hl => match us, hl with | [_, _], _ => rfl), .nil, fun _ => .nil⟩
  have ok_law_member_count : R.FnOk P w K mg base CX0 3 _ fd17 P_law_member_count (spR K 2 (F_law_member_count (csK K)).io) := fn_R FD17 sc_law_member_count rfl (b_law_member_count h_law_draw T) (fun ss Q _ q => wp_law_member_count (csK K) ss Q q)
  have h_law_member_count : CalR P w K mg base "_law_member_count" 2 (F_law_member_count (csK K)) [] 3 := by
      exact ⟨_, fd17, P_law_member_count, [], [], ok_law_member_count, He.glo_ok X G (c.fact 38 (f := .glo "_law_member_count") rfl), FD17.kp, (FunD.bindsN (ps := P_law_member_count) FD17 fun _ _ _ _ _ _ us hl => match us, hl with | [_, _], _ => rfl), .nil, fun _ => .nil⟩
  have ok_law_step : R.FnOk P w K mg base CX0 1 _ fd18 P_law_step (spR K 3 (F_law_step (csK K)).io) := fn_R FD18 sc_law_step rfl (b_law_step  T) (fun ss Q _ q => wp_law_step (csK K) ss Q q)
  have h_law_step : CalR P w K mg base "_law_step" 3 (F_law_step (csK K)) [] 1 := by
      exact ⟨_, fd18, P_law_step, [], [], ok_law_step, He.glo_ok X G (c.fact 39 (f := .glo "_law_step") rfl), FD18.kp, (FunD.bindsN (ps := P_law_step) FD18 fun _ _ _ _ _ _ us hl => match us, hl with | [_, _, _], _ => rfl), .nil, fun _ => .nil⟩
  have ok_law_queues : R.FnOk P w K mg base CX0 2 _ fd19 P_law_queues (spR K 4 (F_law_queues (csK K)).io) := fn_R FD19 sc_law_queues rfl (b_law_queues h_law_step T) (fun ss Q _ q => wp_law_queues (csK K) ss Q q)
  have h_law_queues : CalR P w K mg base "_law_queues" 4 (F_law_queues (csK K)) [] 2 := by
      exact ⟨_, fd19, P_law_queues, [], [], ok_law_queues, He.glo_ok X G (c.fact 40 (f := .glo "_law_queues") rfl), FD19.kp, (FunD.bindsN (ps := P_law_queues) FD19 fun _ _ _ _ _ _ us hl => match us, hl with | [_, _, _, _], _ => rfl), .nil, fun _ => .nil⟩
  have ok_require : R.FnOk P w K mg base CX0 1 _ fd2 P_require (spR K 1 (F_require (csK K)).io) := fn_R FD2 sc_require rfl (b_require  T) (fun ss Q _ q => wp_require (csK K) ss Q q)
  have h_require : CalR P w K mg base "require" 1 (F_require (csK K)) [] 1 := by
      exact ⟨_, fd2, P_require, [], [], ok_require, He.glo_ok X G (c.fact 41 (f := .glo "require") rfl), FD2.kp, (FunD.bindsN (ps := P_require) FD2 fun _ _ _ _ _ _ us hl => match us, hl with | [_], _ => rfl), .nil, fun _ => .nil⟩
  have ok_is_name : R.FnOk P w K mg base CX0 1 _ fd0 P_is_name (spR K 1 (F_is_name (csK K)).io) := fn_R FD0 sc_is_name rfl (b_is_name  T) (fun ss Q _ q => wp_is_name (csK K) ss Q q)
  have h_is_name : CalR P w K mg base "is_name" 1 (F_is_name (csK K)) [] 1 := by
      exact ⟨_, fd0, P_is_name, [], [], ok_is_name, He.glo_ok X G (c.fact 42 (f := .glo "is_name") rfl), FD0.kp, (FunD.bindsN (ps := P_is_name) FD0 fun _ _ _ _ _ _ us hl => match us, hl with | [_], _ => rfl), .nil, fun _ => .nil⟩
  have ok_is_name_list : R.FnOk P w K mg base CX0 2 _ fd1 P_is_name_list (spR K 1 (F_is_name_list (csK K)).io) := fn_R FD1 sc_is_name_list rfl (b_is_name_list h_is_name T) (fun ss Q _ q => wp_is_name_list (csK K) ss Q q)
  have h_is_name_list : CalR P w K mg base "is_name_list" 1 (F_is_name_list (csK K)) [] 2 := by
      exact ⟨_, fd1, P_is_name_list, [], [], ok_is_name_list, He.glo_ok X G (c.fact 43 (f := .glo "is_name_list") rfl), FD1.kp, (FunD.bindsN (ps := P_is_name_list) FD1 fun _ _ _ _ _ _ us hl => match us, hl with | [_], _ => rfl), .nil, fun _ => .nil⟩
  have ok_CupFinder_init : R.FnOk P w K mg base CX0 1 _ fd3 P_CupFinder_init (spR K 2 (F_CupFinder_init (csK K))) := fn_R FD3 sc_CupFinder_init rfl (b_CupFinder_init  T) (fun ss Q _ q => wp_CupFinder_init (csK K) ss Q q)
  have h_CupFinder_init : MakR P w K mg base "CupFinder" (csK K).CupFinder 2 (F_CupFinder_init (csK K)) [] 1 := by
      exact ⟨_, fd3, P_CupFinder_init, [], [], He.mkr_ok (c.fact 44 (f := .mkr "CupFinder") rfl), ok_CupFinder_init, He.glo_ok X G (c.fact 2 (f := .glo "CupFinder") rfl), (FunD.bindsN (ps := P_CupFinder_init) FD3 fun _ _ _ _ _ _ us hl => match us, hl with | [_, _], _ => rfl), .nil, fun _ => .nil⟩
  have ok_CupFinder_empty_known_cup : R.FnOk P w K mg base CX0 1 _ fd5 P_CupFinder_empty_known_cup (spR K 2 (F_CupFinder_empty_known_cup (csK K))) := fn_R FD5 sc_CupFinder_empty_known_cup rfl (b_CupFinder_empty_known_cup  T) (fun ss Q _ q => wp_CupFinder_empty_known_cup (csK K) ss Q q)
  have h_CupFinder_empty_known_cup : MetIO P w K mg base (csK K).CupFinder "empty_known_cup" 2 (F_CupFinder_empty_known_cup (csK K)) [] 1 := by
      exact ⟨_, fd5, P_CupFinder_empty_known_cup, [], [], T.k_CupFinder, He.meth_ok (c.fact 45 (f := .meth "CupFinder" "empty_known_cup") rfl), ok_CupFinder_empty_known_cup, (FunD.bindsN (ps := P_CupFinder_empty_known_cup) FD5 fun _ _ _ _ _ _ us hl => match us, hl with | [_, _], _ => rfl), .nil, fun _ => .nil⟩
  have ok_CupFinder_learn_cup : R.FnOk P w K mg base CX0 2 _ fd6 P_CupFinder_learn_cup (spR K 2 (F_CupFinder_learn_cup (csK K))) := fn_R FD6 sc_CupFinder_learn_cup rfl (b_CupFinder_learn_cup h_require T) (fun ss Q _ q => wp_CupFinder_learn_cup (csK K) ss Q q)
  have h_CupFinder_learn_cup : MetIO P w K mg base (csK K).CupFinder "learn_cup" 2 (F_CupFinder_learn_cup (csK K)) [] 2 := by
      exact ⟨_, fd6, P_CupFinder_learn_cup, [], [], T.k_CupFinder, He.meth_ok (c.fact 46 (f := .meth "CupFinder" "learn_cup") rfl), ok_CupFinder_learn_cup, (FunD.bindsN (ps := P_CupFinder_learn_cup) FD6 fun _ _ _ _ _ _ us hl => match us, hl with | [_, _], _ => rfl), .nil, fun _ => .nil⟩
  have ok_CupFinder_observe : R.FnOk P w K mg base CX0 3 _ fd4 P_CupFinder_observe (spR K 2 (F_CupFinder_observe (csK K))) := fn_R FD4 sc_CupFinder_observe rfl (b_CupFinder_observe h_require h_CupFinder_empty_known_cup h_CupFinder_learn_cup T) (fun ss Q _ q => wp_CupFinder_observe (csK K) ss Q q)
  have h_CupFinder_observe : MetIO P w K mg base (csK K).CupFinder "observe" 2 (F_CupFinder_observe (csK K)) [] 3 := by
      exact ⟨_, fd4, P_CupFinder_observe, [], [], T.k_CupFinder, He.meth_ok (c.fact 47 (f := .meth "CupFinder" "observe") rfl), ok_CupFinder_observe, (FunD.bindsN (ps := P_CupFinder_observe) FD4 fun _ _ _ _ _ _ us hl => match us, hl with | [_, _], _ => rfl), .nil, fun _ => .nil⟩
  have ok_CupFinder_check_limits : R.FnOk P w K mg base CX0 2 _ fd7 P_CupFinder_check_limits (spR K 2 (F_CupFinder_check_limits (csK K)).io) := fn_R FD7 sc_CupFinder_check_limits rfl (b_CupFinder_check_limits h_require T) (fun ss Q _ q => wp_CupFinder_check_limits (csK K) ss Q q)
  have h_CupFinder_check_limits : MetR P w K mg base (csK K).CupFinder "check_limits" 2 (F_CupFinder_check_limits (csK K)) [] 2 := by
      exact ⟨_, fd7, P_CupFinder_check_limits, [], [], T.k_CupFinder, He.meth_ok (c.fact 48 (f := .meth "CupFinder" "check_limits") rfl), ok_CupFinder_check_limits, (FunD.bindsN (ps := P_CupFinder_check_limits) FD7 fun _ _ _ _ _ _ us hl => match us, hl with | [_, _], _ => rfl), .nil, fun _ => .nil⟩
  have ok_infer_cups : R.FnOk P w K mg base CX0 4 _ fd8 P_infer_cups (spR K 1 (F_infer_cups (csK K)).io) := fn_R FD8 sc_infer_cups rfl (b_infer_cups h_require h_is_name_list h_CupFinder_init h_CupFinder_observe h_CupFinder_check_limits T) (fun ss Q _ q => wp_infer_cups (csK K) ss Q q)
  have h_infer_cups : CalR P w K mg base "infer_cups" 1 (F_infer_cups (csK K)) [] 4 := by
      exact ⟨_, fd8, P_infer_cups, [], [], ok_infer_cups, He.glo_ok X G (c.fact 49 (f := .glo "infer_cups") rfl), FD8.kp, (FunD.bindsN (ps := P_infer_cups) FD8 fun _ _ _ _ _ _ us hl => match us, hl with | [_], _ => rfl), .nil, fun _ => .nil⟩
  have ok_law_expected : R.FnOk P w K mg base CX0 1 _ fd21 P_law_expected (spR K 3 (F_law_expected (csK K)).io) := fn_R FD21 sc_law_expected rfl (b_law_expected  T) (fun ss Q _ q => wp_law_expected (csK K) ss Q q)
  have h_law_expected : CalR P w K mg base "_law_expected" 3 (F_law_expected (csK K)) [] 1 := by
      exact ⟨_, fd21, P_law_expected, [], [], ok_law_expected, He.glo_ok X G (c.fact 50 (f := .glo "_law_expected") rfl), FD21.kp, (FunD.bindsN (ps := P_law_expected) FD21 fun _ _ _ _ _ _ us hl => match us, hl with | [_, _, _], _ => rfl), .nil, fun _ => .nil⟩
  have ok_law_lists_are_new : R.FnOk P w K mg base CX0 1 _ fd23 P_law_lists_are_new (spR K 1 (F_law_lists_are_new (csK K))) := fn_R FD23 sc_law_lists_are_new rfl (b_law_lists_are_new  T) (fun ss Q _ q => wp_law_lists_are_new (csK K) ss Q q)
  have h_law_lists_are_new : CalIO P w K mg base "_law_lists_are_new" 1 (F_law_lists_are_new (csK K)) [] 1 := by
      exact ⟨_, fd23, P_law_lists_are_new, [], [], ok_law_lists_are_new, He.glo_ok X G (c.fact 51 (f := .glo "_law_lists_are_new") rfl), FD23.kp, (FunD.bindsN (ps := P_law_lists_are_new) FD23 fun _ _ _ _ _ _ us hl => match us, hl with | [_], _ => rfl), .nil, fun _ => .nil⟩
  have ok_law_with_unit_cups : R.FnOk P w K mg base CX0 1 _ fd22 P_law_with_unit_cups (spR K 2 (F_law_with_unit_cups (csK K)).io) := fn_R FD22 sc_law_with_unit_cups rfl (b_law_with_unit_cups  T) (fun ss Q _ q => wp_law_with_unit_cups (csK K) ss Q q)
  have h_law_with_unit_cups : CalR P w K mg base "_law_with_unit_cups" 2 (F_law_with_unit_cups (csK K)) [] 1 := by
      exact ⟨_, fd22, P_law_with_unit_cups, [], [], ok_law_with_unit_cups, He.glo_ok X G (c.fact 52 (f := .glo "_law_with_unit_cups") rfl), FD22.kp, (FunD.bindsN (ps := P_law_with_unit_cups) FD22 fun _ _ _ _ _ _ us hl => match us, hl with | [_, _], _ => rfl), .nil, fun _ => .nil⟩
  have ok_law : R.FnOk P w K mg base CX0 6 _ fd24 P_law (spR K 1 (F_law (csK K)).io) := fn_R FD24 sc_law rfl (b_law h_law_source h_law_simple_row h_law_names h_law_member_count h_law_draw h_law_queues h_infer_cups h_law_expected h_law_lists_are_new h_law_with_unit_cups T) (fun ss Q _ q => wp_law (csK K) ss Q q)
  exact ok_law
end Cl
open PySem PySem.W PySem.Calls PyProof.Rows
theorem PySem.Challenge.cw_cupladder_k70_cups_inferred_from_queues_holds : PySem.Challenge.rw_cupladder_k70_cups_inferred_from_queues.Holds := by
  w_on; o_law
  refine HandSHeadRun.head_any (r := OpenLaw.row PySem.Challenge.rw_cupladder_k70_cups_inferred_from_queues) (q := view (OpenLaw.row PySem.Challenge.rw_cupladder_k70_cups_inferred_from_queues).prog [33]) (H := Cl.hk) (ob := Cl.ob) (M := 9000) (loose := Cl.names) (d := HandSHeadRun.topDef (OpenLaw.row PySem.Challenge.rw_cupladder_k70_cups_inferred_from_queues).prog 33) (kwd := []) Cl.ob_eq
    (by kernel_rfl) (fun s => by kernel_rfl) Cl.run (by kernel_rfl) (by kernel_rfl) (by kernel_rfl) (by rfl) (by first | assumption | decide +kernel) (by decide +kernel) ⟨rfl, rfl, rfl, rfl, rfl, by decide +kernel⟩ ?hw ?hc
  case hw => w_witness2
  case hc =>
    refine R.walk_ofG (l := PySem.Challenge.rw_cupladder_k70_cups_inferred_from_queues) (n := 63) (k := 6) (x := "_law_script") (CX := fun _ => L2.CX0) rfl (by decide) (by kernel_rfl) ⟨⟨rfl, by decide, by decide⟩, rfl⟩ ?F (fun _ _ _ _ _ z => z)
    intro w mg fa h Y G hmg0
    obtain ⟨K, KX, cX⟩ := Y
    have hmg : mg ("law" : PySem.Str) = some (.ref fa) := by
      have e : (HandSHeadRun.topDef (OpenLaw.row PySem.Challenge.rw_cupladder_k70_cups_inferred_from_queues).prog 33).name = ("law" : PySem.Str) := by kernel_rfl
      rw [← e]
      exact hmg0
    obtain ⟨cs, fd, hb, hF⟩ := Cl.facts (P := (PySem.Challenge.rw_cupladder_k70_cups_inferred_from_queues).prog) (w := w) KX G hmg cX
    exact ⟨K, fd, R.spR K 1 (Cl.F_law cs).io, Cl.tf.map (He.cT K), KX, fun b => R.tabs_at KX cX b, hb, fun H a ns hl hO hS => R.sp_end (fun P q e => by obtain ⟨p, hp, rfl⟩ := R.exB_tab cX.more e; exact hO p hp) hS fun Q q => ⟨ns, rfl, hl, q⟩, hF⟩


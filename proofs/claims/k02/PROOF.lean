import PyProof.Rows.All
import Wide.All
import OpenK.AllK
import Wide.FinOn
import PySem.Challenge.RW_cupladder_k02_invalid_cup_rows
import KE.KStateDown
import Lean
import HandS.ForMost
import HandS.WordsExc
import HandS.Defaults
import HandS.IsInst
import HandS.Wide
import HandS.DictTup
import HandS.Zip
import HandS.Set
import HandS.Strs
import HandS.OwnEq
import HandS.MakeKw
import HandS.Flow
import HandS.Flt
import HandS.Conv
import HandS.MakeKwOnly
import HandS.WordsDict
import KE.KTupSum
import KE.KDictZip
import HandS.Head0
import HandS.Head1
import HandS.Head2
import HandS.HeadEnd
import HandS.HeadHook1
import HandS.HeadHook2
import HandS.Style
import HandS.RaiseMore
import HandS.Iter
import KE.GoesEnum
import HandS.Remove
import HandS.SortKw
import HandS.TupAny
import HandS.NoneIn
import HandS.SetKeys
import KE.DataMinMax
import HandS.More
import HandS.Lambda
import HandS.EndTab
import HandS.HeadHook3
import HandS.HeadHook4
import HandS.ExcIs
import HandS.TryOnly
import KE.KSortKeySt
import HandS.ExcInit
import HandS.ExcField
import KE.SortData
set_option Elab.async false
set_option linter.all false
set_option maxRecDepth 100000
set_option maxHeartbeats 4000000
namespace R
open PySem PySem.Spec PyProof.Rows L2
def lamMakers : List Str := ["_law_outcomes", "law", "_law_check_steps", "_law_check", "_law_check_errors", "_law_latest_first", "_law_right", "_law_simulations_checked", "_law_queues_checked", "_law_names_right", "_law_events_right"]
def tabEntry (K : PySem.W.Frag) : Addr × Obj → Option (Addr × Str)
  | (_, ⟨_, _, .fields vs, _⟩) => match (vs[1]? : Option Value), vs.getD 11 .none with
    | some (.str q _), .ref P => if lamMakers.contains q && (K.lookup P).isNone then some (P, q ++ ".<locals>." ++ "<lambda>") else none
    | _, _ => none
  | _ => none
def lamTab (K : PySem.W.Frag) : List (Addr × Str) := K.filterMap (tabEntry K)
def tyNs : List String := ["NoneType", "bool", "int", "str", "list", "tuple", "dict"]
def isB (K : PySem.W.Frag) (x : Str) : Bool := He.eqO (PySem.W.findIn K (.ref (He.ga K x)) "__class__") (some (some (.builtin "object.__class__"))) && (He.eqO (PySem.W.specialIn K (.builtin "object.__class__") "__get__") (some (some (.builtin "getset_descriptor.__get__"))) &&
  (decide (PySem.W.takesIn K (.builtin "object.__class__") = some true) && (decide (PySem.W.mroIn K (He.ga K x) (.type "object") = some true) && (He.eqO (PySem.W.findIn K (.ref (He.ga K x)) "__ne__") (some (some (.builtin "object.__ne__"))) &&
  tyNs.all fun t => decide (PySem.W.kitOne K (.type t) (.ref (He.ga K x)) = some false) && decide (PySem.W.subIn K (.type t) (.ref (He.ga K x)) = some false)))))
def errB (K : PySem.W.Frag) (D : Addr) : Bool := He.eqO (PySem.W.findIn K (.ref D) "__getattribute__") (some (some (.builtin "BaseException.__getattribute__"))) && (He.eqO (PySem.W.findIn K (.ref D) "__getattr__") (some none) && (decide (PySem.W.subIn K (.ref D) (.type "BaseException") = some true) && (PySem.W.hasDictIn K D &&
  (He.eqO (PySem.W.findIn K (.ref D) "__class__") (some (some (.builtin "object.__class__"))) && (He.eqO (PySem.W.specialIn K (.builtin "object.__class__") "__get__") (some (some (.builtin "getset_descriptor.__get__"))) && (decide (PySem.W.takesIn K (.builtin "object.__class__") = some true) && decide (PySem.W.mroIn K D (.type "object") = some true)))))))
def fldOf : Nat → Option (Str × Str)
  | 7 => some ("part", "cups")
  | 8 => some ("part", "sizes")
  | 9 => some ("part", "forward")
  | 10 => some ("what", "cups")
  | 11 => some ("what", "members")
  | _ => none
def clsK (k : Nat) : Nat := if k = 7 ∨ k = 8 ∨ k = 9 then 0 else if k = 10 ∨ k = 11 then 6 else k
def errIB (K : PySem.W.Frag) (ad : Nat → Addr) (n k : Nat) : Bool := errB K (ad k) && (((List.range n).all (fun j => decide (PySem.W.kitOne K (.ref (ad k)) (.ref (ad j)) = some (clsK k == j))) && decide (PySem.W.kitOne K (.ref (ad k)) (.type "ValueError") = some true)) && (match fldOf k with
  | some p => He.eqO (PySem.W.findIn K (.ref (ad k)) p.1) (some none)
  | none => true))
def iniB (K : PySem.W.Frag) (C : Addr) (f : Str) : Bool := (match K.lookup C with
  | some ⟨.type "type", _, .cls cd, sl⟩ => (match cd.mro, sl.toList with
    | .ref C2 :: bm, [_, _, _, _, some (.builtin n), _] => C2 == C && (n == "ValueError.__new__" && (!cd.hasDel && (cd.hasDict && PySem.HandSPX.refsVE bm)))
    | _, _ => false)
  | _ => false) && (He.eqO (PySem.W.findIn K (.ref C) "__setattr__") (some (some (.builtin "object.__setattr__"))) && (decide (PySem.W.subIn K (.ref C) (.type "BaseException") = some true) && (decide (PySem.W.typeIn K (.ref C) = some (.type "type")) && (PySem.W.keepIn K (.ref C) && (He.eqO (PySem.W.findIn K (.ref C) f) (some none) &&
  (He.eqO (PySem.W.findIn K (.ref C) "__init__") (some (some (.ref (He.ma K C "__init__")))) && decide (PySem.W.typeIn K (.ref (He.ma K C "__init__")) = some (.type "function"))))))))
def basB (K : PySem.W.Frag) (D : Addr) : Bool := PySem.W.keepIn K (.ref D) && (He.eqO (PySem.W.specialIn K (.ref D) "__getattribute__") (some (some (.builtin "type.__getattribute__"))) && (PySem.W.readsIn K D (.type "type") && (match PySem.W.findCls K (.ref D) (.type "type") "__init__" with
  | some (.val (.builtin n)) => n == "ValueError.__init__"
  | _ => false)))
def exB (is es : List Str) (ks : List Nat) (tf : List He.Defn) (ox : List (Str × Str)) (K : PySem.W.Frag) : Bool := is.all (isB K) && (ks.all (errIB K (fun k => He.ga K (es.getD k "")) 7) && ((lamTab K).all (fun e => tf.any fun p => (He.cT K p).2 == e.1) && ((tf.all fun p => decide ((lamTab K).lookup (He.cT K p).2 = some ((p.1 ++ ".<locals>.") ++ "<lambda>"))) && ox.all fun p => iniB K (He.ga K p.1) p.2 && basB K (He.ga K "CupLadderError"))))
end R
namespace R
open PySem PySem.Spec PyProof.Rows L2
def asY (g : Addr → Option Obj) (n : Nat) : List Addr := He.asD g n ++ [PySem.cStatics]
def obsY (n : Nat) (fa : List He.Fa) (fn : List He.DefD) (ts : List He.Tab) (tf : List He.Defn) (ex : PySem.W.Frag → Bool) (g : Addr → Option Obj) : He.AlX := (He.obsT fa fn ts (He.frT g (asY g n)), ex (He.frT g (asY g n)) && He.tabsB g tf (He.frT g (asY g n)))
theorem saysY_of {n : Nat} {fa : List He.Fa} {fn : List He.DefD} {ts : List He.Tab} {tf : List He.Defn} {ex : PySem.W.Frag → Bool} {w : World} {h : Heap} (e : obsY n fa fn ts tf ex h.get? = He.valX fn ts w) : He.SaysX fa fn ts tf ex w h (He.frT h.get? (asY h.get? n)) := by
  obtain ⟨e1, e2⟩ := Prod.mk.inj e
  obtain ⟨h1, h2⟩ := Bool.and_eq_true_iff.mp e2
  have tab : ∀ p ∈ tf, PySem.W.codeHdIn (He.frT h.get? (asY h.get? n)) (He.cT (He.frT h.get? (asY h.get? n)) p).1 (He.cT (He.frT h.get? (asY h.get? n)) p).2 = true ∧ ∃ o, h.get? (He.cT (He.frT h.get? (asY h.get? n)) p).2 = some o ∧ He.emptyTab o = true := fun p m => by
    obtain ⟨a, b⟩ := Bool.and_eq_true_iff.mp (List.all_eq_true.mp h2 p m)
    refine ⟨a, ?_⟩
    split at b
    · exact ⟨_, by assumption, b⟩
    · cases b
  refine ⟨e1, h1, fun p m => (tab p m).1, fun p m => ?_, fun p m => ?_⟩
  · obtain ⟨_, o, q, z⟩ := tab p m
    exact He.frT_none q z
  · obtain ⟨_, o, q, z⟩ := tab p m
    rw [q, He.emptyTab_eq z]
def hookY (n : Nat) (fa : List He.Fa) (fn : List He.DefD) (ts : List He.Tab) (tf : List He.Defn) (ex : PySem.W.Frag → Bool) : PySem.W.Hook where
  α := He.AlX
  obs := fun s => obsY n fa fn ts tf ex s.heap.get?
  val := fun w => He.valX fn ts w
  says := fun w h => ∃ K : PySem.W.Frag, K.In h ∧ He.SaysX fa fn ts tf ex w h K
  of := fun _ _ e => ⟨_, He.frT_in, saysY_of e⟩
  keeps := fun _ _ _ ⟨K, hK, c⟩ k => ⟨K, PySem.W.Frag.In.keeps hK k, ⟨c.t, c.more, c.hd, c.out, fun p hp => k _ _ (c.empty p hp)⟩⟩
theorem obsY_eq {n : Nat} {fa : List He.Fa} {fn : List He.DefD} {ts : List He.Tab} {tf : List He.Defn} {ex : PySem.W.Frag → Bool} {g : Addr → Option Obj} {s : Shared} (h : ∀ a, g a = s.heap.get? a) : obsY n fa fn ts tf ex g = (hookY n fa fn ts tf ex).obs s := by
  have e : g = s.heap.get? := funext h
  rw [e] <;> rfl
end R
section
namespace Cl
open PySem PySem.Spec PyProof.Rows L2 R
def topS (i : Nat) : Stmt := PySem.Challenge.pw_cupladder_k02_invalid_cup_rows.main.body.getD i (.Pass ⟨0, 0, 0, 0⟩)
abbrev s_common_divisor : Stmt := topS 2
abbrev s_common_multiple : Stmt := topS 3
abbrev s_InvalidCups_init : Stmt := inClass (topS 6) 0
abbrev s_is_integer : Stmt := topS 17
abbrev s_are_sizes : Stmt := topS 18
abbrev s_are_forward_indices : Stmt := topS 19
abbrev s_CupRow_init : Stmt := inClass (topS 20) 0
abbrev s_CupRow_round_length : Stmt := inClass (topS 20) 4
abbrev s_CupRow_min_members : Stmt := inClass (topS 20) 5
abbrev s_require_cups : Stmt := topS 21
abbrev s_cycles_of : Stmt := topS 40
abbrev s_Blocks_init : Stmt := inClass (topS 42) 0
abbrev s_Blocks_entering : Stmt := inClass (topS 42) 1
abbrev s_Blocks_filling : Stmt := inClass (topS 42) 2
abbrev s_Blocks_whole_round : Stmt := inClass (topS 42) 3
abbrev s_require_count : Stmt := topS 44
abbrev s_round_order : Stmt := topS 46
abbrev s_round_cycles : Stmt := topS 47
abbrev s_period : Stmt := topS 48
abbrev s_state_count : Stmt := topS 49
abbrev s_law_script_value : Stmt := topS 64
abbrev s_law_mix : Stmt := topS 65
abbrev s_law_draw_source : Stmt := topS 66
abbrev s_law_draw : Stmt := topS 67
abbrev s_law_draw_cups : Stmt := topS 70
abbrev s_law_outcome : Stmt := topS 71
abbrev s_law_invalid_sizes : Stmt := topS 72
abbrev s_law_invalid_indices : Stmt := topS 73
abbrev s_law_outcomes : Stmt := topS 74
abbrev s_law : Stmt := topS 75
abbrev s_G_are_forward_indices : Stmt := topS 19
abbrev s_G_are_sizes : Stmt := topS 18
abbrev s_G_is_integer : Stmt := topS 17
abbrev s_X_Simulation_init : Stmt := inClass (topS 58) 0
abbrev s_X_block_order : Stmt := topS 45
abbrev s_X_counter_value : Stmt := topS 38
abbrev s_X_first_difference : Stmt := topS 62
abbrev s_X_next_state : Stmt := topS 36
abbrev s_X_orbit_count : Stmt := topS 50
abbrev s_X_period : Stmt := topS 48
abbrev s_X_require_cups : Stmt := topS 21
abbrev s_X_round_cycles : Stmt := topS 47
abbrev s_X_round_order : Stmt := topS 46
abbrev s_X_simplify : Stmt := topS 61
abbrev s_X_state_before : Stmt := topS 51
abbrev s_X_state_count : Stmt := topS 49
section
variable {P : Program} {w : World} {K : PySem.W.Frag} {mg : PySem.Str → Option Value} {base : Heap} {f : Addr} {cs : Cs}
end
section
variable {P : Program} {w : World} {K : PySem.W.Frag} {mg : PySem.Str → Option Value} {base : Heap} {cs : Cs}
end

abbrev dD_common_divisor : He.DefD := ⟨("common_divisor", none), "common_divisor", "common_divisor", defArgs s_common_divisor, defBody s_common_divisor, defScope s_common_divisor, [], []⟩
abbrev dD_common_multiple : He.DefD := ⟨("common_multiple", none), "common_multiple", "common_multiple", defArgs s_common_multiple, defBody s_common_multiple, defScope s_common_multiple, [], []⟩
abbrev dD_InvalidCups_init : He.DefD := ⟨("InvalidCups", some "__init__"), "__init__", "InvalidCups.__init__", defArgs s_InvalidCups_init, defBody s_InvalidCups_init, defScope s_InvalidCups_init, [], []⟩
abbrev dD_is_integer : He.DefD := ⟨("is_integer", none), "is_integer", "is_integer", defArgs s_is_integer, defBody s_is_integer, defScope s_is_integer, [.int 0], []⟩
abbrev dD_are_sizes : He.DefD := ⟨("are_sizes", none), "are_sizes", "are_sizes", defArgs s_are_sizes, defBody s_are_sizes, defScope s_are_sizes, [], []⟩
abbrev dD_are_forward_indices : He.DefD := ⟨("are_forward_indices", none), "are_forward_indices", "are_forward_indices", defArgs s_are_forward_indices, defBody s_are_forward_indices, defScope s_are_forward_indices, [], []⟩
abbrev dD_CupRow_init : He.DefD := ⟨("CupRow", some "__init__"), "__init__", "CupRow.__init__", defArgs s_CupRow_init, defBody s_CupRow_init, defScope s_CupRow_init, [], [("forward", .non)]⟩
abbrev dD_CupRow_round_length : He.DefD := ⟨("CupRow", some "round_length"), "round_length", "CupRow.round_length", defArgs s_CupRow_round_length, defBody s_CupRow_round_length, defScope s_CupRow_round_length, [], []⟩
abbrev dD_CupRow_min_members : He.DefD := ⟨("CupRow", some "min_members"), "min_members", "CupRow.min_members", defArgs s_CupRow_min_members, defBody s_CupRow_min_members, defScope s_CupRow_min_members, [], []⟩
abbrev dD_require_cups : He.DefD := ⟨("require_cups", none), "require_cups", "require_cups", defArgs s_require_cups, defBody s_require_cups, defScope s_require_cups, [], []⟩
abbrev dD_cycles_of : He.DefD := ⟨("cycles_of", none), "cycles_of", "cycles_of", defArgs s_cycles_of, defBody s_cycles_of, defScope s_cycles_of, [], []⟩
abbrev dD_Blocks_init : He.DefD := ⟨("Blocks", some "__init__"), "__init__", "Blocks.__init__", defArgs s_Blocks_init, defBody s_Blocks_init, defScope s_Blocks_init, [], []⟩
abbrev dD_Blocks_entering : He.DefD := ⟨("Blocks", some "entering"), "entering", "Blocks.entering", defArgs s_Blocks_entering, defBody s_Blocks_entering, defScope s_Blocks_entering, [], []⟩
abbrev dD_Blocks_filling : He.DefD := ⟨("Blocks", some "filling"), "filling", "Blocks.filling", defArgs s_Blocks_filling, defBody s_Blocks_filling, defScope s_Blocks_filling, [], []⟩
abbrev dD_Blocks_whole_round : He.DefD := ⟨("Blocks", some "whole_round"), "whole_round", "Blocks.whole_round", defArgs s_Blocks_whole_round, defBody s_Blocks_whole_round, defScope s_Blocks_whole_round, [], []⟩
abbrev dD_require_count : He.DefD := ⟨("require_count", none), "require_count", "require_count", defArgs s_require_count, defBody s_require_count, defScope s_require_count, [], []⟩
abbrev dD_round_order : He.DefD := ⟨("round_order", none), "round_order", "round_order", defArgs s_round_order, defBody s_round_order, defScope s_round_order, [], []⟩
abbrev dD_round_cycles : He.DefD := ⟨("round_cycles", none), "round_cycles", "round_cycles", defArgs s_round_cycles, defBody s_round_cycles, defScope s_round_cycles, [], []⟩
abbrev dD_period : He.DefD := ⟨("period", none), "period", "period", defArgs s_period, defBody s_period, defScope s_period, [], []⟩
abbrev dD_state_count : He.DefD := ⟨("state_count", none), "state_count", "state_count", defArgs s_state_count, defBody s_state_count, defScope s_state_count, [], []⟩
abbrev dD_law_script_value : He.DefD := ⟨("_law_script_value", none), "_law_script_value", "_law_script_value", defArgs s_law_script_value, defBody s_law_script_value, defScope s_law_script_value, [], []⟩
abbrev dD_law_mix : He.DefD := ⟨("_law_mix", none), "_law_mix", "_law_mix", defArgs s_law_mix, defBody s_law_mix, defScope s_law_mix, [], []⟩
abbrev dD_law_draw_source : He.DefD := ⟨("_law_draw_source", none), "_law_draw_source", "_law_draw_source", defArgs s_law_draw_source, defBody s_law_draw_source, defScope s_law_draw_source, [], []⟩
abbrev dD_law_draw : He.DefD := ⟨("_law_draw", none), "_law_draw", "_law_draw", defArgs s_law_draw, defBody s_law_draw, defScope s_law_draw, [], []⟩
abbrev dD_law_draw_cups : He.DefD := ⟨("_law_draw_cups", none), "_law_draw_cups", "_law_draw_cups", defArgs s_law_draw_cups, defBody s_law_draw_cups, defScope s_law_draw_cups, [], []⟩
abbrev dD_law_outcome : He.DefD := ⟨("_law_outcome", none), "_law_outcome", "_law_outcome", defArgs s_law_outcome, defBody s_law_outcome, defScope s_law_outcome, [], []⟩
abbrev dD_law_invalid_sizes : He.DefD := ⟨("_law_invalid_sizes", none), "_law_invalid_sizes", "_law_invalid_sizes", defArgs s_law_invalid_sizes, defBody s_law_invalid_sizes, defScope s_law_invalid_sizes, [], []⟩
abbrev dD_law_invalid_indices : He.DefD := ⟨("_law_invalid_indices", none), "_law_invalid_indices", "_law_invalid_indices", defArgs s_law_invalid_indices, defBody s_law_invalid_indices, defScope s_law_invalid_indices, [], []⟩
abbrev dD_law_outcomes : He.DefD := ⟨("_law_outcomes", none), "_law_outcomes", "_law_outcomes", defArgs s_law_outcomes, defBody s_law_outcomes, defScope s_law_outcomes, [], []⟩
abbrev dD_law : He.DefD := ⟨("law", none), "law", "law", defArgs s_law, defBody s_law, defScope s_law, [], []⟩
abbrev dD_G_are_forward_indices : He.DefD := ⟨("are_forward_indices", none), "are_forward_indices", "are_forward_indices", defArgs s_G_are_forward_indices, defBody s_G_are_forward_indices, defScope s_G_are_forward_indices, [], []⟩
abbrev dD_G_are_sizes : He.DefD := ⟨("are_sizes", none), "are_sizes", "are_sizes", defArgs s_G_are_sizes, defBody s_G_are_sizes, defScope s_G_are_sizes, [], []⟩
abbrev dD_G_is_integer : He.DefD := ⟨("is_integer", none), "is_integer", "is_integer", defArgs s_G_is_integer, defBody s_G_is_integer, defScope s_G_is_integer, [.int 0], []⟩
abbrev dD_X_Simulation_init : He.DefD := ⟨("Simulation", some "__init__"), "__init__", "Simulation.__init__", defArgs s_X_Simulation_init, defBody s_X_Simulation_init, defScope s_X_Simulation_init, [], [("events", .non)]⟩
abbrev dD_X_block_order : He.DefD := ⟨("block_order", none), "block_order", "block_order", defArgs s_X_block_order, defBody s_X_block_order, defScope s_X_block_order, [], []⟩
abbrev dD_X_counter_value : He.DefD := ⟨("counter_value", none), "counter_value", "counter_value", defArgs s_X_counter_value, defBody s_X_counter_value, defScope s_X_counter_value, [], []⟩
abbrev dD_X_first_difference : He.DefD := ⟨("first_difference", none), "first_difference", "first_difference", defArgs s_X_first_difference, defBody s_X_first_difference, defScope s_X_first_difference, [], []⟩
abbrev dD_X_next_state : He.DefD := ⟨("next_state", none), "next_state", "next_state", defArgs s_X_next_state, defBody s_X_next_state, defScope s_X_next_state, [], []⟩
abbrev dD_X_orbit_count : He.DefD := ⟨("orbit_count", none), "orbit_count", "orbit_count", defArgs s_X_orbit_count, defBody s_X_orbit_count, defScope s_X_orbit_count, [], []⟩
abbrev dD_X_period : He.DefD := ⟨("period", none), "period", "period", defArgs s_X_period, defBody s_X_period, defScope s_X_period, [], []⟩
abbrev dD_X_require_cups : He.DefD := ⟨("require_cups", none), "require_cups", "require_cups", defArgs s_X_require_cups, defBody s_X_require_cups, defScope s_X_require_cups, [], []⟩
abbrev dD_X_round_cycles : He.DefD := ⟨("round_cycles", none), "round_cycles", "round_cycles", defArgs s_X_round_cycles, defBody s_X_round_cycles, defScope s_X_round_cycles, [], []⟩
abbrev dD_X_round_order : He.DefD := ⟨("round_order", none), "round_order", "round_order", defArgs s_X_round_order, defBody s_X_round_order, defScope s_X_round_order, [], []⟩
abbrev dD_X_simplify : He.DefD := ⟨("simplify", none), "simplify", "simplify", defArgs s_X_simplify, defBody s_X_simplify, defScope s_X_simplify, [], []⟩
abbrev dD_X_state_before : He.DefD := ⟨("state_before", none), "state_before", "state_before", defArgs s_X_state_before, defBody s_X_state_before, defScope s_X_state_before, [], []⟩
abbrev dD_X_state_count : He.DefD := ⟨("state_count", none), "state_count", "state_count", defArgs s_X_state_count, defBody s_X_state_count, defScope s_X_state_count, [], []⟩
def fn : List He.DefD := [dD_common_divisor, dD_common_multiple, dD_InvalidCups_init, dD_is_integer, dD_are_sizes, dD_are_forward_indices, dD_CupRow_init, dD_CupRow_round_length, dD_CupRow_min_members, dD_require_cups, dD_cycles_of, dD_Blocks_init, dD_Blocks_entering, dD_Blocks_filling, dD_Blocks_whole_round, dD_require_count, dD_round_order, dD_round_cycles, dD_period, dD_state_count, dD_law_script_value, dD_law_mix, dD_law_draw_source, dD_law_draw, dD_law_draw_cups, dD_law_outcome, dD_law_invalid_sizes, dD_law_invalid_indices, dD_law_outcomes, dD_law, dD_G_are_forward_indices, dD_G_are_sizes, dD_G_is_integer, dD_X_Simulation_init, dD_X_block_order, dD_X_counter_value, dD_X_first_difference, dD_X_next_state, dD_X_orbit_count, dD_X_period, dD_X_require_cups, dD_X_round_cycles, dD_X_round_order, dD_X_simplify, dD_X_state_before, dD_X_state_count]
def fa : List He.Fa := [.glo "CupLadderError", .glo "InvalidCups", .glo "InvalidState", .glo "InvalidStep", .glo "InvalidEvents", .glo "InvalidMember", .glo "InvalidCup", .glo "Incomparable", .glo "CupRow", .glo "Blocks", .glo "Simulation", .free "ValueError", .free "all", .free "bool", .free "int", .free "isinstance", .free "len", .free "list", .free "max", .free "min", .free "range", .free "repr", .free "sum", .free "tuple", .free "zip", .int "MAX_CUPS" 30, .int "MAX_EXTRA" 30, .int "MAX_MEMBERS" 40, .int "MAX_SIZE" 9, .cls "CupRow", .cls "Blocks", .noat "Blocks" "cups", .noat "Blocks" "orders", .noat "Blocks" "visits", .noat "CupRow" "forward_tuple", .noat "CupRow" "size_tuple", .noat "CupRow" "weights", .exm "InvalidCups" "CupLadderError" true, .glo "_law_outcome", .glo "_law_mix", .glo "_law_script_value", .glo "_law_draw_source", .glo "_law_draw", .glo "_law_draw_cups", .glo "_law_invalid_indices", .glo "_law_invalid_sizes", .glo "is_integer", .glo "are_sizes", .glo "are_forward_indices", .mkr "CupRow", .glo "require_cups", .glo "next_state", .glo "counter_value", .glo "state_before", .mkr "Simulation", .glo "block_order", .glo "round_order", .glo "cycles_of", .glo "require_count", .meth "CupRow" "min_members", .meth "Blocks" "entering", .meth "Blocks" "filling", .meth "Blocks" "whole_round", .mkr "Blocks", .glo "round_cycles", .glo "common_divisor", .glo "common_multiple", .meth "CupRow" "round_length", .glo "period", .glo "state_count", .glo "orbit_count", .glo "simplify", .glo "first_difference", .glo "_law_outcomes", .glo "law"]
def names0 : List PySem.Str := ["_wall", "common_divisor", "common_multiple", "CupLadderError", "InvalidCups", "InvalidState", "InvalidStep", "InvalidEvents", "InvalidMember", "InvalidCup", "Incomparable", "MAX_CUPS", "MAX_SIZE", "MAX_EXTRA", "is_integer", "are_sizes", "are_forward_indices", "CupRow", "require_cups", "require_cup", "LETTERS", "MAX_LETTERS", "MAX_MEMBERS", "is_name", "is_name_list", "all_members", "copy_state", "is_state", "require_state", "require_step"]
def names1 : List PySem.Str := ["empty_full_cups", "apply_step", "next_state", "counter_of", "counter_value", "cycles_of", "apply_order", "Blocks", "require_count", "block_order", "round_order", "round_cycles", "period", "state_count", "orbit_count", "state_before", "MAX_EVENT_STEP", "is_event", "events_by_step", "apply_event", "Simulation", "simplified", "simplify", "first_difference", "_law_script_value", "_law_mix", "_law_draw_source", "_law_draw", "_law_name_for", "_law_draw_names"]
def names2 : List PySem.Str := ["_law_draw_cups", "_law_outcome", "_law_invalid_sizes", "_law_invalid_indices", "_law_outcomes"]
def names : List PySem.Str := names0 ++ names1 ++ names2
def isl : List PySem.Str := ["CupRow"]
abbrev rowR : PySem.W.OpenRow := PySem.W.OpenLaw.row PySem.Challenge.rw_cupladder_k02_invalid_cup_rows
def esl : List PySem.Str := ["InvalidCups", "InvalidState", "InvalidStep", "InvalidEvents", "InvalidMember", "InvalidCup", "Incomparable", "InvalidCups", "InvalidCups", "InvalidCups", "Incomparable", "Incomparable"]
def oxl : List (PySem.Str × PySem.Str) := [("InvalidCups", "part")]
def ksl : List Nat := [7, 8, 9]
def tf : List He.Defn := [("_law_outcomes", none), ("law", none)]
abbrev hk : PySem.W.Hook := R.hookY 5 fa fn [] tf (R.exB isl esl ksl tf oxl)
def ob (s : PySem.W.SharedT) : He.AlX := R.obsY 5 fa fn [] tf (R.exB isl esl ksl tf oxl) (HandSHeadRun.getT s)
abbrev qv := PySem.W.view rowR.prog [75]
theorem run (w : World) : HandSHeadRun.RunEq rowR qv hk ob 9000 names w := by
  intro os
  kernel_rfl
end Cl
open PySem PySem.W PySem.Calls PyProof.Rows
end
namespace R
open PySem
inductive D where
  | non | bl (b : Bool) | int (i : Int) | str (s : Str)
  | lst (xs : List D) | tup (xs : List D)
  | rol (xs : List D)
  | ins (C : Nat) (ks : List Str) (vs : List D)
  | vol (k : Nat) (ps : List D)
  | dct (ks : List L2.Key) (ds : List D)
  | any
  | adr (a : Nat)
  | exn (k : Nat)
  | cod (q : Str)
  | obj (o : Nat → Nat → L2.HO) (p : Nat → L2.HO)
inductive OT where
  | leaf (d : D) | lst (ts : List OT) | tup (ts : List OT) | ins (C : Nat) (ks : List Str) (ts : List OT) | d0
  | dk (ks : List L2.Key) (ts : List OT)
  | xo (a d : Nat) (f v : Str)
inductive Rs where
  | fz (d : D) | nw (t : OT) | br (t : OT) | ex (t : OT)
abbrev Env := List (Option Rs)
abbrev DE := Env → (Rs → Prop) → Prop
abbrev DT := Env → (Bool → Prop) → Prop
abbrev DA := Env → (List Rs → Prop) → Prop
structure DK where
  nx : Env → Prop
  rt : Rs → Env → Prop
  bk : Env → Prop := fun _ => False
  ct : Env → Prop := fun _ => False
abbrev DS := Env → DK → Prop
abbrev DI := Env → (Bool → List Rs → Prop) → Prop
abbrev Spec := Env → (Rs → Env → Prop) → Prop

mutual
inductive Fz : OT → D → Prop where
  | leaf (d : D) : Fz (.leaf d) d
  | lst {ts : List OT} {ds : List D} : FzAll ts ds → Fz (.lst ts) (.lst ds)
  | tup {ts : List OT} {ds : List D} : FzAll ts ds → Fz (.tup ts) (.tup ds)
  | ins {C : Nat} {ks : List Str} {ts : List OT} {ds : List D} : FzAll ts ds → Fz (.ins C ks ts) (.ins C ks ds)
  | d0 (k : Nat) (ps : List D) : Fz .d0 (.vol (k + 1) ps)
  | dk {ks : List L2.Key} {ts : List OT} {ds : List D} : FzAll ts ds → Fz (.dk ks ts) (.dct ks ds)
inductive FzAll : List OT → List D → Prop where
  | nil : FzAll [] []
  | cons {t : OT} {d : D} {ts : List OT} {ds : List D} : Fz t d → FzAll ts ds → FzAll (t :: ts) (d :: ds)
end
theorem FzAll.leafs : ∀ ds : List D, FzAll (ds.map OT.leaf) ds
  | [] => .nil
  | d :: ds => .cons (.leaf d) (FzAll.leafs ds)
def OT.kids : OT → Option (List OT)
  | .leaf (.lst ds) => some (ds.map .leaf)
  | .leaf (.tup ds) => some (ds.map .leaf)
  | .leaf (.rol ds) => some (ds.map .leaf)
  | .lst ts => some ts
  | .tup ts => some ts
  | _ => none
def leaves : List OT → Option (List D)
  | [] => some []
  | .leaf d :: r => (leaves r).map (d :: ·)
  | _ :: _ => none
theorem leaves_map : ∀ ds : List D, leaves (ds.map OT.leaf) = some ds
  | [] => rfl
  | d :: r => by
    show (leaves (r.map OT.leaf)).map (d :: ·) = _
    rw [leaves_map r] <;> rfl
def Rs.t : Rs → OT
  | .fz d => .leaf d
  | .nw t => t
  | .br t => t
  | .ex t => t
def brOf : OT → Rs
  | .leaf d => .fz d
  | t => .br t
def exOf : OT → Rs
  | .leaf d => .fz d
  | t => .ex t
def nwOf : OT → Rs
  | .leaf d => .fz d
  | t => .nw t
def Rs.arg : Rs → Rs
  | .fz d => .fz d
  | .nw t => .ex t
  | .br t => .ex t
  | .ex t => .ex t
def Rs.rd : Rs → Rs
  | .fz d => .fz d
  | .nw t => .br t
  | .br t => .br t
  | .ex t => .ex t
def Rs.kid (r : Rs) (t : OT) : Rs := match r with
  | .ex _ => exOf t
  | _ => brOf t
def Rs.own : Rs → Prop
  | .fz _ => True
  | .nw _ => True
  | _ => False
def Rs.slot : Rs → Prop
  | .br _ => False
  | _ => True
def Rs.item : Rs → Option OT
  | .fz d => some (.leaf d)
  | .nw t => some t
  | _ => none
def items : List Rs → Option (List OT)
  | [] => some []
  | r :: rs => r.item.bind fun t => (items rs).map (t :: ·)
def Rs.els (r : Rs) (isL : Bool) : Option (List D) := match r with
  | .fz (.lst ds) => if isL then some ds else none
  | .fz (.tup ds) => if isL then none else some ds
  | .br (.lst ts) => if isL then leaves ts else none
  | .ex (.lst ts) => if isL then leaves ts else none
  | .br (.tup ts) => if isL then none else leaves ts
  | .ex (.tup ts) => if isL then none else leaves ts
  | _ => none
mutual
def OT.fzd : OT → Option D
  | .leaf d => some d
  | .lst ts => (fzdAll ts).map .lst
  | .tup ts => (fzdAll ts).map .tup
  | .ins C ks ts => (fzdAll ts).map (.ins C ks)
  | .d0 => none
  | .xo _ _ _ _ => none
  | .dk ks ts => (fzdAll ts).map (.dct ks)
def fzdAll : List OT → Option (List D)
  | [] => some []
  | t :: ts => t.fzd.bind fun d => (fzdAll ts).map (d :: ·)
end
mutual
theorem Fz.of : ∀ {t : OT} {d : D}, t.fzd = some d → Fz t d
  | .leaf d, e, h => by
    have h : some d = some e := h
    cases h
    exact .leaf d
  | .lst ts, e, h => by
    have h : (fzdAll ts).map .lst = some e := by rw [OT.fzd] at h; exact h
    cases q : fzdAll ts with
    | none => rw [q] at h; cases h
    | some ds => rw [q] at h; cases h; exact .lst (FzAll.of q)
  | .tup ts, e, h => by
    have h : (fzdAll ts).map .tup = some e := by rw [OT.fzd] at h; exact h
    cases q : fzdAll ts with
    | none => rw [q] at h; cases h
    | some ds => rw [q] at h; cases h; exact .tup (FzAll.of q)
  | .ins C ks ts, e, h => by
    have h : (fzdAll ts).map (.ins C ks) = some e := by rw [OT.fzd] at h; exact h
    cases q : fzdAll ts with
    | none => rw [q] at h; cases h
    | some ds => rw [q] at h; cases h; exact .ins (FzAll.of q)
  | .d0, _, h => by rw [OT.fzd] at h; cases h
  | .xo _ _ _ _, _, h => by rw [OT.fzd] at h; cases h
  | .dk ks ts, e, h => by
    have h : (fzdAll ts).map (.dct ks) = some e := by rw [OT.fzd] at h; exact h
    cases q : fzdAll ts with
    | none => rw [q] at h; cases h
    | some ds => rw [q] at h; cases h; exact .dk (FzAll.of q)
theorem FzAll.of : ∀ {ts : List OT} {ds : List D}, fzdAll ts = some ds → FzAll ts ds
  | [], _, h => by rw [fzdAll] at h; cases h; exact .nil
  | t :: ts, e, h => by
    rw [fzdAll] at h
    cases q : t.fzd with
    | none => rw [q] at h; cases h
    | some d =>
      rw [q] at h
      cases q2 : fzdAll ts with
      | none => rw [q2] at h; cases h
      | some ds => rw [q2] at h; cases h; exact .cons (Fz.of q) (FzAll.of q2)
end
theorem fzdAll_map : ∀ ds : List D, fzdAll (ds.map OT.leaf) = some ds
  | [] => by rw [List.map_nil, fzdAll]
  | d :: ds => by rw [List.map_cons, fzdAll, fzdAll_map ds, OT.fzd] <;> rfl
theorem fzd_lst (ds : List D) : (OT.lst (ds.map .leaf)).fzd = some (.lst ds) := by rw [OT.fzd, fzdAll_map] <;> rfl
theorem fzd_tup (ds : List D) : (OT.tup (ds.map .leaf)).fzd = some (.tup ds) := by rw [OT.fzd, fzdAll_map] <;> rfl
def Rs.ffz : Rs → Rs
  | .nw t => match t.fzd with
    | some d => .fz d
    | none => .nw t
  | r => r
def ixN' (n : Nat) (i : Int) : Option Nat := if 0 ≤ i then (if i < n then some i.toNat else none) else if -(n : Int) ≤ i then some (i + n).toNat else none
def at' {α : Type} (xs : List α) (i : Int) : Option α := (ixN' xs.length i).bind fun j => xs[j]?
theorem at_nat {α : Type} {xs : List α} {j : Nat} {v : α} (h : xs[j]? = some v) : at' xs (j : Int) = some v := by
  have hj : j < xs.length := (List.getElem?_eq_some_iff.mp h).1
  unfold at' ixN'
  rw [if_pos (by omega), if_pos (by omega)]
  simpa using h
theorem at_map {α β : Type} (f : α → β) (xs : List α) (i : Int) : at' (xs.map f) i = (at' xs i).map f := by
  unfold at'
  rw [List.length_map]
  cases ixN' xs.length i with
  | none => rfl
  | some j => simp
end R
namespace R
open PySem
def mVar (i : Nat) : DE := fun env Q => ∃ r, env[i]? = some (some r) ∧ Q r.rd
def mC (d : D) : DE := fun _ Q => Q (.fz d)
def i2 (C : Int → Int → Prop) (g : Int → Int → D) : Rs → Rs → (Rs → Prop) → Prop
  | .fz (.int i), .fz (.int j), Q => C i j ∧ Q (.fz (g i j))
  | _, _, _ => False
def mOp (R : Rs → Rs → (Rs → Prop) → Prop) (a b : DE) : DE := fun env Q => a env fun x => b env fun y => R x.ffz y.ffz Q
def mUn (R : Rs → (Rs → Prop) → Prop) (a : DE) : DE := fun env Q => a env fun x => R x.ffz Q
def oSub := i2 (fun _ _ => True) fun i j => .int (i - j)
def oMod := i2 (fun _ j => 0 < j) fun i j => .int (i % j)
def oDiv := i2 (fun _ j => 0 < j ∧ j.natAbs.log2 < 9000) fun i j => .int (i / j)
def oPow := i2 (fun i j => 0 ≤ j ∧ j ≤ 1000000 ∧ i.natAbs < 2 ^ 64) fun i j => .int (i ^ j.toNat)
def oLt := i2 (fun _ _ => True) fun i j => .bl (decide (i < j))
def oLe := i2 (fun _ _ => True) fun i j => .bl (decide (i ≤ j))
def oGt := i2 (fun _ _ => True) fun i j => .bl (decide (j < i))
def oGe := i2 (fun _ _ => True) fun i j => .bl (decide (j ≤ i))
def sizeL : Nat := 16777216
def oAdd : Rs → Rs → (Rs → Prop) → Prop
  | .fz (.int i), .fz (.int j), Q => Q (.fz (.int (i + j)))
  | .fz (.str i), .fz (.str j), Q => i.length + j.length ≤ sizeL ∧ Q (.fz (.str (i ++ j)))
  | x, y, Q => (∃ ds es, x.els true = some ds ∧ y.els true = some es ∧ ds.length + es.length ≤ sizeL ∧ Q (.nw (.lst ((ds ++ es).map .leaf)))) ∨
    ∃ ds es, x.els false = some ds ∧ y.els false = some es ∧ ds ≠ [] ∧ es ≠ [] ∧ ds.length + es.length ≤ sizeL ∧ Q (.nw (.tup ((ds ++ es).map .leaf)))
def oMul : Rs → Rs → (Rs → Prop) → Prop
  | .fz (.int i), .fz (.int j), Q => ((-(2 ^ 64) < i ∧ i < 2 ^ 64) ∨ (-(2 ^ 64) < j ∧ j < 2 ^ 64)) ∧ Q (.fz (.int (i * j)))
  | x, .fz (.int k), Q => ∃ ds, x.els true = some ds ∧ -(2 ^ 63) ≤ k ∧ k < 2 ^ 63 ∧ ds.length * k.toNat ≤ sizeL ∧ Q (.nw (.lst ((List.replicate k.toNat ds).flatten.map .leaf)))
  | _, _, _ => False
def oNeg : Rs → (Rs → Prop) → Prop
  | .fz (.int i), Q => Q (.fz (.int (-i)))
  | _, _ => False
def mT (a : DE) : DT := fun env Q => a env fun
  | .fz (.bl b) => Q b
  | _ => False
def mAnd (t u : DT) : DT := fun env Q => t env fun c => if c = true then u env Q else Q false
def mOr (t u : DT) : DT := fun env Q => t env fun c => if c = true then Q true else u env Q
def mNot (t : DT) : DT := fun env Q => t env fun c => Q (!c)
def mAndV (a b : DE) : DE := fun env Q => a env fun
  | .fz (.bl c) => if c = true then b env Q else Q (.fz (.bl false))
  | _ => False
def mOrV (a b : DE) : DE := fun env Q => a env fun
  | .fz (.bl c) => if c = true then Q (.fz (.bl true)) else b env Q
  | _ => False
def mNotV (a : DE) : DE := fun env Q => a env fun
  | .fz (.bl c) => Q (.fz (.bl (!c)))
  | _ => False
def mIf (t : DT) (a b : DE) : DE := fun env Q => t env fun c => if c = true then a env Q else b env Q
def Rs.isNon (r : Rs) : Bool := match r.t with
  | .leaf .non => true
  | _ => false
def oIsN (neg : Bool) (r : Rs) (Q : Rs → Prop) : Prop := Q (.fz (.bl (r.isNon != neg)))
def mNil : DA := fun _ Q => Q []
def mCons (a : DE) (r : DA) : DA := fun env Q => a env fun x => r env fun xs => Q (x :: xs)
def mLst (a : DA) : DE := fun env Q => a env fun rs => ∃ ts, items rs = some ts ∧ ts.length ≤ sizeL ∧ Q (.nw (.lst ts))
def mTup (a : DA) : DE := fun env Q => a env fun rs => ∃ ts, items rs = some ts ∧ ts.length ≤ sizeL ∧ Q (.nw (.tup ts))
def mFz (a : DE) : DE := fun env Q => a env fun
  | .fz d => Q (.fz d)
  | .nw t => ∃ d, Fz t d ∧ Q (.fz d)
  | _ => False
def oIx : Rs → Rs → (Rs → Prop) → Prop
  | .fz (.lst ds), .fz (.int i), Q => ∃ d, at' ds i = some d ∧ Q (.fz d)
  | .fz (.tup ds), .fz (.int i), Q => ∃ d, at' ds i = some d ∧ Q (.fz d)
  | .fz (.rol ds), .fz (.int i), Q => ∃ d, at' ds i = some d ∧ Q (.fz d)
  | .fz (.str z), .fz (.int i), Q => z.length ≤ sizeL ∧ ∃ c, at' z.cps.toList i = some c ∧ Q (.fz (.str ⟨#[c]⟩))
  | .fz (.vol 0 _), .fz (.int i), Q => 0 ≤ i ∧ i < 3 ∧ ∀ x, Q (.fz (.int x))
  | r, .fz (.int i), Q => ∃ ts t, r.t.kids = some ts ∧ at' ts i = some t ∧ Q (r.kid t)
  | _, _, _ => False
end R
namespace R
open PySem
abbrev DO := Env → (Option Int → Prop) → Prop
def mNoP : DO := fun _ Q => Q none
def mPart (a : DE) : DO := fun env Q => a env fun
  | .fz (.int i) => Q (some i)
  | _ => False
def sIx' (n d : Nat) : Option Int → Nat
  | none => d
  | some v => if v < 0 then (v + (n : Int)).toNat else min v.toNat n
def cut' {α : Type} (xs : List α) (lo hi : Option Int) : List α := (xs.drop (sIx' xs.length 0 lo)).take (sIx' xs.length xs.length hi - sIx' xs.length 0 lo)
def oSl (r : Rs) (lo hi : Option Int) (Q : Rs → Prop) : Prop := match r with
  | .fz (.tup ds) => (cut' ds lo hi).length < ds.length ∧ Q (.fz (.tup (cut' ds lo hi)))
  | r => ∃ ds, r.els true = some ds ∧ Q (.nw (.lst ((cut' ds lo hi).map .leaf)))
def mSl (a : DE) (lo hi : DO) : DE := fun env Q => a env fun x => lo env fun l => hi env fun h => oSl x.ffz l h Q
def mB (R : List Rs → (Rs → Prop) → Prop) (a : DA) : DE := fun env Q => a env fun xs => R (xs.map Rs.ffz) Q
def oLen : List Rs → (Rs → Prop) → Prop
  | [.fz (.str z)], Q => z.length ≤ sizeL ∧ Q (.fz (.int z.length))
  | [r], Q => ∃ ts, r.t.kids = some ts ∧ Q (.fz (.int ts.length))
  | _, _ => False
def oInt1 : List Rs → (Rs → Prop) → Prop
  | [.fz (.int i)], Q => Q (.fz (.int i))
  | [.fz (.bl b)], Q => Q (.fz (.int (if b then 1 else 0)))
  | _, _ => False
def oMin2 : List Rs → (Rs → Prop) → Prop
  | [.fz (.int i), .fz (.int j)], Q => Q (.fz (.int (min i j)))
  | _, _ => False
def oMin3 : List Rs → (Rs → Prop) → Prop
  | [.fz (.int i), .fz (.int j), .fz (.int k)], Q => Q (.fz (.int (min (min i j) k)))
  | _, _ => False
def oMax2 : List Rs → (Rs → Prop) → Prop
  | [.fz (.int i), .fz (.int j)], Q => Q (.fz (.int (max i j)))
  | _, _ => False
def D.int? : D → Option Int
  | .int i => some i
  | _ => none
def D.bl? : D → Option Bool
  | .bl i => some i
  | _ => none
def D.str? : D → Option Str
  | .str i => some i
  | _ => none
def allOf {α : Type} (f : D → Option α) : List D → Option (List α)
  | [] => some []
  | d :: ds => (f d).bind fun x => (allOf f ds).map (x :: ·)
theorem allOf_map {α : Type} {f : D → Option α} {g : α → D} (h : ∀ x, f (g x) = some x) : ∀ xs : List α, allOf f (xs.map g) = some xs
  | [] => rfl
  | x :: xs => by
    rw [List.map_cons, allOf, h, allOf_map h xs] <;> rfl
theorem ints_of (xs : List Int) : allOf D.int? (xs.map D.int) = some xs := allOf_map (f := D.int?) (g := D.int) (fun _ => rfl) xs
theorem bls_of (xs : List Bool) : allOf D.bl? (xs.map D.bl) = some xs := allOf_map (f := D.bl?) (g := D.bl) (fun _ => rfl) xs
theorem int?_inv {d : D} {x : Int} (h : d.int? = some x) : d = .int x := by cases d <;> cases h <;> rfl
theorem bl?_inv {d : D} {x : Bool} (h : d.bl? = some x) : d = .bl x := by cases d <;> cases h <;> rfl
theorem str?_inv {d : D} {x : Str} (h : d.str? = some x) : d = .str x := by cases d <;> cases h <;> rfl
theorem allOf_inv {α : Type} {f : D → Option α} {g : α → D} (h : ∀ {d x}, f d = some x → d = g x) : ∀ {ds : List D} {xs : List α}, allOf f ds = some xs → ds = xs.map g
  | [], xs, e => by cases e <;> rfl
  | d :: ds, xs, e => by
    rw [allOf] at e
    cases q : f d with
    | none => rw [q] at e; cases e
    | some x =>
      rw [q] at e
      cases q2 : allOf f ds with
      | none => rw [q2] at e; cases e
      | some ys =>
        rw [q2] at e
        cases e
        rw [h q, allOf_inv h q2] <;> rfl
def oSum : List Rs → (Rs → Prop) → Prop
  | [.fz (.tup ds)], Q => ∃ ns, allOf D.int? ds = some ns ∧ Q (.fz (.int ns.sum))
  | [r], Q => ∃ ds ns, r.els true = some ds ∧ allOf D.int? ds = some ns ∧ Q (.fz (.int ns.sum))
  | _, _ => False
def oAll : List Rs → (Rs → Prop) → Prop
  | [r], Q => ∃ ds bs, r.els true = some ds ∧ allOf D.bl? ds = some bs ∧ Q (.fz (.bl (bs.all id)))
  | _, _ => False
def oTuple : List Rs → (Rs → Prop) → Prop
  | [.fz (.tup ds)], Q => Q (.fz (.tup ds))
  | [r], Q => ∃ ds, r.els true = some ds ∧ Q (.fz (.tup ds))
  | _, _ => False
end R
namespace R
open PySem
def mSeq (a b : DS) : DS := fun env D => a env { D with nx := fun e => b e D }
def mNext : DS := fun env D => D.nx env
def mIfS (t : DT) (a b : DS) : DS := fun env D => t env fun c => if c = true then a env D else b env D
def mRet (a : DE) : DS := fun env D => a env fun r => r.own ∧ D.rt r env
def mRetN : DS := fun env D => D.rt (.fz .non) env
def mDrop (a : DE) : DS := fun env D => a env fun _ => D.nx env
def mBreak : DS := fun env D => D.bk env
def mCont : DS := fun env D => D.ct env
def mNever : DS := fun _ _ => False
def mFzS (i : Nat) (a : DS) : DS := fun env D => ∃ t d, env[i]? = some (some (.nw t)) ∧ Fz t d ∧ a (env.set i (some (.fz d))) D
def mAug (i : Nat) (R : Rs → Rs → (Rs → Prop) → Prop) (a : DE) : DS := fun env D => ∃ x, env[i]? = some (some (.fz x)) ∧ a env fun y => R (.fz x) y.ffz fun r => r.slot ∧ D.nx (env.set i (some r))
def mWhile (t : DT) (a : DS) : DS := fun env D => ∃ Wm : Nat → Env → Prop, (∃ m, Wm m env) ∧ ∀ m e, Wm m e → t e fun c =>
  if c = true then a e { D with nx := fun e' => ∃ m', m' < m ∧ Wm m' e', ct := fun e' => ∃ m', m' < m ∧ Wm m' e', bk := D.nx } else D.nx e
abbrev DG := Env → Rs → (Env → Prop) → Prop
def gN (i : Nat) : DG := fun env r Q => r.slot ∧ Q (env.set i (some r))
def gsN : List DG → List Rs → Env → (Env → Prop) → Prop
  | [], [], env, Q => Q env
  | g :: gs, r :: rs, env, Q => g env r fun e => gsN gs rs e Q
  | _, _, _, _ => False
def Rs.parts : Rs → Option (List Rs)
  | .fz (.tup ds) => some (ds.map .fz)
  | .nw (.tup ts) => some (ts.map nwOf)
  | .ex (.tup ts) => some (ts.map exOf)
  | _ => none
def gT (gs : List DG) : DG := fun env r Q => ∃ rs, r.parts = some rs ∧ rs.length = gs.length ∧ gsN gs rs env Q
def mAsgG (g : DG) (a : DE) : DS := fun env D => a env fun r => g env r D.nx
def Rs.stays : Rs → Bool
  | .fz _ => true
  | .ex _ => true
  | _ => false
def mItL (a : DE) : DI := fun env Q => a env fun r => ∃ ts, r.ffz.t.kids = some ts ∧ Q r.ffz.stays (ts.map (Rs.kid r.ffz))
def rng (lo : Int) (n : Nat) : List Rs := (List.range n).map fun (i : Nat) => Rs.fz (.int (lo + (i : Int)))
def mItR1 (a : DE) : DI := fun env Q => a env fun
  | .fz (.int n) => -(2 ^ 62) ≤ n ∧ n < 2 ^ 62 ∧ Q true (rng 0 n.toNat)
  | _ => False
def mItR2 (a b : DE) : DI := fun env Q => a env fun x => b env fun y => match x, y with
  | .fz (.int i), .fz (.int j) => -(2 ^ 62) ≤ i ∧ i < 2 ^ 62 ∧ -(2 ^ 62) ≤ j ∧ j < 2 ^ 62 ∧ Q true (rng i (j - i).toNat)
  | _, _ => False
def mFor (it : DI) (g : DG) (a : DS) : DS := fun env D => it env fun st xs => st = true ∧ ∃ Pv : Nat → Env → Prop, Pv 0 env ∧
  (∀ i r e, xs[i]? = some r → Pv i e → g e r fun e' => a e' { D with nx := Pv (i + 1), ct := Pv (i + 1), bk := D.nx }) ∧ ∀ e, Pv xs.length e → D.nx e
def Env.wipe (env : Env) : List Nat → Env
  | [] => env
  | i :: is => (Env.wipe env is).set i none
def Env.lent (env : Env) : Env := env.map (Option.map Rs.arg)
def mYes : DT := fun _ Q => Q true
def mLc (it : DI) (g : DG) (t : DT) (e : DE) (ws : List Nat) : DE := fun env Q => it env fun _ xs => ∃ Pv : Nat → List OT → Prop, Pv 0 [] ∧
  (∀ i r acc, xs[i]? = some r → Pv i acc → acc.length < sizeL ∧ g (Env.wipe (Env.lent env) ws) r.arg fun e1 => e1.length = env.length ∧ t e1 fun b => if b = true then e e1 fun y => ∃ ty, y.item = some ty ∧ Pv (i + 1) (acc ++ [ty]) else Pv (i + 1) acc) ∧
  ∀ acc, Pv xs.length acc → Q (.nw (.lst acc))
abbrev Spec1 := Env → (Rs → Prop) → Prop
def Spec1.io (F : Spec1) : Spec := fun ss Q => F ss fun r => Q r (ss.map fun _ => none)
def Rs.lend (r : Rs) : Rs := r.ffz.arg
def args (rs : List Rs) (dv : List D) : Env := rs.map (fun r => some r.lend) ++ dv.map fun d => some (.fz d)
def mCall (n : Nat) (F : Spec1) (a : DA) (dv : List D) : DE := fun env Q => a env fun rs => (args rs dv).length = n ∧ F (args rs dv) fun r => r.own ∧ Q r
def OT.inst : OT → Option (Nat × List Str × List OT)
  | .leaf (.ins C ks ds) => some (C, ks, ds.map .leaf)
  | .ins C ks ts => some (C, ks, ts)
  | _ => none
def mMeth (n : Nat) (C : Nat) (m : Str) (F : Spec1) (o : DE) (a : DA) (dv : List D) : DE := fun env Q => o env fun x => ∃ ks ts, x.ffz.t.inst = some (C, ks, ts) ∧ ks.contains m = false ∧ a env fun rs => (args rs dv).length + 1 = n ∧ F (some x.lend :: args rs dv) fun r => r.own ∧ Q r
def mMake (n : Nat) (C : Nat) (F : Spec) (a : DA) (dv : List D) : DE := fun env Q => a env fun rs => (args rs dv).length + 1 = n ∧ F (some (.nw (.ins C [] [])) :: args rs dv) fun r ss => r = .fz .non ∧ ∃ t, ss.head? = some (some (.nw t)) ∧ Q (.nw t)
def assoc (f : Str) : List Str → List OT → Option OT
  | k :: ks, t :: ts => if k = f then some t else assoc f ks ts
  | _, _ => none
def mFld (C : Nat) (f : Str) (o : DE) : DE := fun env Q => o env fun x => ∃ ks ts t, x.ffz.t.inst = some (C, ks, ts) ∧ assoc f ks ts = some t ∧ Q (x.ffz.kid t)
def outs (pr : List Nat) (n : Nat) (e : Env) : Env := (List.range n).map fun i => if i ∈ pr then (e[i]?).join else none
abbrev DP := Env → (Nat → List Nat → Prop) → Prop
def OT.kid? : OT → Nat → Option OT
  | .lst ts, j => ts[j]?
  | .tup ts, j => ts[j]?
  | .ins _ _ ts, j => ts[j]?
  | .dk _ ts, j => ts[j]?
  | _, _ => none
def OT.set? : OT → Nat → OT → OT
  | .lst ts, j, c => .lst (ts.set j c)
  | .tup ts, j, c => .tup (ts.set j c)
  | .ins C ks ts, j, c => .ins C ks (ts.set j c)
  | .dk ks ts, j, c => .dk ks (ts.set j c)
  | t, _, _ => t
def OT.at? : OT → List Nat → Option OT
  | t, [] => some t
  | t, j :: js => (t.kid? j).bind fun c => c.at? js
def OT.put : OT → List Nat → OT → OT
  | _, [], s => s
  | t, j :: js, s => match t.kid? j with
    | some c => t.set? j (c.put js s)
    | none => t
def tree (env : Env) (i : Nat) (p : List Nat) : Option OT := match env[i]? with
  | some (some (.nw t)) => t.at? p
  | _ => none
def put (env : Env) (i : Nat) (p : List Nat) (s : OT) : Env := match env[i]? with
  | some (some (.nw t)) => env.set i (some (.nw (t.put p s)))
  | _ => env
def plN (i : Nat) : DP := fun env Q => (∃ t, env[i]? = some (some (.nw t))) ∧ Q i []
def idx (f : Str) : List Str → Option Nat
  | [] => none
  | k :: ks => if k = f then some 0 else (idx f ks).map (· + 1)
def plF (C : Nat) (f : Str) (a : DP) : DP := fun env Q => a env fun i p => ∃ ks ts j, tree env i p = some (.ins C ks ts) ∧ idx f ks = some j ∧ Q i (p ++ [j])
def mAppend (a : DP) (e : DE) : DS := fun env D => a env fun i p => ∃ ts, tree env i p = some (.lst ts) ∧ ts.length < sizeL ∧ e env fun r => ∃ t, r.item = some t ∧ D.nx (put env i p (.lst (ts ++ [t])))
def mSetVol (s k e : DE) : DS := fun env D => e env fun
  | .fz (.int _) => s env fun
    | .fz (.vol 0 _) => k env fun
      | .fz (.int n) => 0 ≤ n ∧ n < 3 ∧ D.nx env
      | _ => False
    | _ => False
  | _ => False
def mSrc (a : DE) : DE := fun env Q => a env fun
  | .nw (.lst [.leaf (.int _), .leaf (.int _), .leaf (.int _)]) => Q (.fz (.vol 0 []))
  | _ => False
def putK (f : Str) (t : OT) : List Str → List OT → List Str × List OT
  | k :: ks, u :: us => if k = f then (k :: ks, t :: us) else ((k :: (putK f t ks us).1), (u :: (putK f t ks us).2))
  | _, _ => ([f], [t])
end R
namespace R
open PySem
def D.pd : Nat → D → Option PyData
  | _, .non => some .none
  | _, .bl b => some (.bool b)
  | _, .int i => some (.int i)
  | _, .str x => if PyData.strOk x = true then some (.str x) else none
  | n + 1, .lst ds => (allOf (D.pd n) ds).map .list
  | n + 1, .tup ds => (allOf (D.pd n) ds).map .tuple
  | n + 1, .rol ds => (allOf (D.pd n) ds).map .list
  | _, _ => none
def allOfT {α : Type} (f : OT → Option α) : List OT → Option (List α)
  | [] => some []
  | t :: ts => (f t).bind fun x => (allOfT f ts).map (x :: ·)
def OT.pd : Nat → OT → Option PyData
  | n, .leaf d => d.pd n
  | n + 1, .lst ts => (allOfT (OT.pd n) ts).map .list
  | n + 1, .tup ts => (allOfT (OT.pd n) ts).map .tuple
  | _, _ => none
def oEq (neg : Bool) (x y : Rs) (Q : Rs → Prop) : Prop := ∃ p q, x.t.pd 8 = some p ∧ y.t.pd 8 = some q ∧ Q (.fz (.bl (PyData.eqv p q != neg)))
end R
namespace R
open PySem
def nI (n : Nat) : D := .int (n : Int)
def nL (ns : List Nat) : D := .lst (ns.map nI)
def nT (ns : List Nat) : D := .tup (ns.map nI)
def pk (l : List Nat) (i : Nat) : Nat := l.getD i 0
def fillN (e : Nat → Nat × List Nat) : Nat → List Nat × List Nat → List Nat × List Nat
  | 0, p => p
  | n + 1, p => fillN e n (p.1 ++ [pk p.2 (e p.2.length).1], (e p.2.length).2.map (pk p.2))
def ent (sz fw : List Nat) : Nat → Nat → Nat × List Nat
  | 0, len => (0, List.range' 1 (len - 1))
  | c + 1, len => (pk (fillN (ent sz fw c) (pk sz c) ([], List.range len)).1 (pk fw c), (fillN (ent sz fw c) (pk sz c) ([], List.range len)).2 ++ (fillN (ent sz fw c) (pk sz c) ([], List.range len)).1.eraseIdx (pk fw c))
def fil (sz fw : List Nat) (c len : Nat) : List Nat × List Nat := fillN (ent sz fw c) (pk sz c) ([], List.range len)
def entD (sz fw : List Nat) (c len : Nat) : D := .tup [nI (ent sz fw c len).1, nT (ent sz fw c len).2]
def entL (sz fw : List Nat) (c len : Nat) : D := .tup [nI (ent sz fw c len).1, nL (ent sz fw c len).2]
def natOf : D → Nat
  | .int i => i.toNat
  | _ => 0
def natsOf : D → List Nat
  | .tup ds => ds.map natOf
  | _ => []
theorem natsOf_nT (ns : List Nat) : natsOf (nT ns) = ns := by
  show (ns.map nI).map natOf = ns
  rw [List.map_map]
  have e : (natOf ∘ nI) = id := by
    funext n
    show (n : Int).toNat = n
    exact Int.toNat_natCast n
  rw [e, List.map_id]
def bor (sz fw : List Nat) (c n : Nat) : List Nat := if c < sz.length then (ent sz fw c n).1 :: (ent sz fw c n).2 else (fil sz fw fw.length n).2 ++ (fil sz fw fw.length n).1
def addAt (l : List Nat) (i v : Nat) : List Nat := l.set i (pk l i + v)
def fstAt (l : List (Option Nat)) (i v : Nat) : List (Option Nat) := if l.getD i none = none then l.set i (some v) else l
def visIn (base : Nat) (own : List Nat) (early : List (Option Nat)) (rest : List Nat) : Nat → List Nat × List (Option Nat) → List Nat × List (Option Nat)
  | 0, s => s
  | k + 1, s => let s' := visIn base own early rest k s
    (addAt s'.1 (pk rest k) (pk own k), match early.getD k none with | some e => fstAt s'.2 (pk rest k) (base + e) | none => s'.2)
structure VSt where
  cnt : List Nat
  fst : List (Option Nat)
  rest : List Nat
  ins : List Nat
def visStep (steps size : Nat) (isT : Bool) (vs : Nat → List Nat × List (Option Nat)) (en : Nat → Nat × List Nat) (entry : Nat) (s : VSt) : VSt :=
  let v := vs s.rest.length
  let a := visIn (entry * steps) v.1 v.2 s.rest s.rest.length (s.cnt, s.fst)
  let e := en s.rest.length
  let x := pk s.rest e.1
  let b := if isT then s.ins.foldl (fun l m => addAt l m (steps - (if entry + 1 = size then 1 else 0))) a.1 else a.1
  let b2 := if isT && decide (entry + 1 < size) then addAt b x 1 else b
  let f2 := if isT && decide (entry + 1 < size) then fstAt a.2 x ((entry + 1) * steps) else a.2
  ⟨b2, f2, e.2.map (pk s.rest), s.ins ++ [x]⟩
def visLoop (steps size : Nat) (isT : Bool) (vs : Nat → List Nat × List (Option Nat)) (en : Nat → Nat × List Nat) : Nat → VSt → VSt
  | 0, s => s
  | k + 1, s => visStep steps size isT vs en k (visLoop steps size isT vs en k s)
def vis (sz fw : List Nat) (tg : Nat) : Nat → Nat → List Nat × List (Option Nat)
  | 0, n => (List.replicate n 0, List.replicate n none)
  | c + 1, n => if c + 1 ≤ tg then (List.replicate n 0, List.replicate n none) else
      let s := visLoop ((sz.take c).foldl (· * ·) 1) (pk sz c) (decide (c = tg)) (vis sz fw tg c) (ent sz fw c) (pk sz c) ⟨List.replicate n 0, List.replicate n none, List.range n, []⟩
      (s.cnt, s.fst)
def oD : Option Nat → D
  | none => .non
  | some n => nI n
def visD (sz fw : List Nat) (t c n : Nat) : D := .tup [nL (vis sz fw t c n).1, .lst ((vis sz fw t c n).2.map oD)]
def staD (sz fw : List Nat) (t c n : Nat) : D := .lst (List.zipWith (fun (a : Nat) (o : Option Nat) => D.tup [nI a, oD o]) (vis sz fw t c n).1 (vis sz fw t c n).2)
def memo : Nat → List D → List L2.Key → Option D
  | 0, [s, f], [.inl c, .inl n] => if 0 ≤ c ∧ c < 64 ∧ 0 ≤ n ∧ n < 64 then some (entD (natsOf s) (natsOf f) c.toNat n.toNat) else none
  | 1, [s, f], [.inl t, .inl c, .inl n] => if 0 ≤ t ∧ t < 64 ∧ 0 ≤ c ∧ c < 64 ∧ 0 ≤ n ∧ n < 64 then some (visD (natsOf s) (natsOf f) t.toNat c.toNat n.toNat) else none
  | 2, [s, f], [.inl c, .inl n] => if 0 ≤ c ∧ c < 64 ∧ 0 ≤ n ∧ n < 64 then some (entL (natsOf s) (natsOf f) c.toNat n.toNat) else none
  | 3, [s, f], [.inl c, .inl n] => if 0 ≤ c ∧ c < 64 ∧ 0 ≤ n ∧ n < 64 then some (nL (bor (natsOf s) (natsOf f) c.toNat n.toNat)) else none
  | 4, [s, f, .int t], [.inl c, .inl n] => if 0 ≤ c ∧ c < 64 ∧ 0 ≤ n ∧ n < 64 then some (staD (natsOf s) (natsOf f) t.toNat (c.toNat + 1) n.toNat) else none
  | _, _, _ => none
def keys2 (m : Nat) : List (List L2.Key) := (List.range (m * m)).map fun (k : Nat) => [Sum.inl ((k / m : Nat) : Int), Sum.inl ((k % m : Nat) : Int)]
def keys3 (m : Nat) : List (List L2.Key) := (List.range (m * m * m)).map fun (k : Nat) => [Sum.inl ((k / m / m : Nat) : Int), Sum.inl ((k / m % m : Nat) : Int), Sum.inl ((k % m : Nat) : Int)]
theorem keys_len (m : Nat) : (keys2 m ++ keys3 m).length = m * m + m * m * m := by
  rw [List.length_append]
  unfold keys2 keys3
  rw [List.length_map, List.length_range, List.length_map, List.length_range]
theorem keys_div {m a b : Nat} (hb : b < m) : (a * m + b) / m = a ∧ (a * m + b) % m = b := by
  rw [Nat.add_comm, Nat.add_mul_div_right _ _ (by omega), Nat.div_eq_of_lt hb, Nat.zero_add, Nat.add_mul_mod_self_right, Nat.mod_eq_of_lt hb]
  exact ⟨rfl, rfl⟩
theorem keys_lt {m a b n : Nat} (ha : a < n) (hb : b < m) : a * m + b < n * m := by
  have := Nat.mul_le_mul_right m (show a + 1 ≤ n from ha)
  rw [Nat.succ_mul] at this
  omega
theorem keys2_mem {m : Nat} {c n : Int} (h : 0 ≤ c ∧ c < m ∧ 0 ≤ n ∧ n < m) : [Sum.inl c, Sum.inl n] ∈ keys2 m := by
  obtain ⟨h1, h2, h3, h4⟩ := h
  have hd := keys_div (m := m) (a := c.toNat) (b := n.toNat) (by omega)
  unfold keys2
  refine List.mem_map.mpr ⟨c.toNat * m + n.toNat, List.mem_range.mpr (keys_lt (by omega) (by omega)), ?_⟩
  rw [hd.1, hd.2, Int.toNat_of_nonneg h1, Int.toNat_of_nonneg h3]
theorem keys3_mem {m : Nat} {t c n : Int} (h : 0 ≤ t ∧ t < m ∧ 0 ≤ c ∧ c < m ∧ 0 ≤ n ∧ n < m) : [Sum.inl t, Sum.inl c, Sum.inl n] ∈ keys3 m := by
  obtain ⟨h1, h2, h3, h4, h5, h6⟩ := h
  have hd := keys_div (m := m) (a := t.toNat * m + c.toNat) (b := n.toNat) (by omega)
  have hd2 := keys_div (m := m) (a := t.toNat) (b := c.toNat) (by omega)
  unfold keys3
  refine List.mem_map.mpr ⟨(t.toNat * m + c.toNat) * m + n.toNat, List.mem_range.mpr (keys_lt (keys_lt (by omega) (by omega)) (by omega)), ?_⟩
  rw [hd.1, hd.2, hd2.1, hd2.2, Int.toNat_of_nonneg h1, Int.toNat_of_nonneg h3, Int.toNat_of_nonneg h5]
theorem memo_fin (k : Nat) : ∃ L : List (List L2.Key), L.length < 16777216 ∧ ∀ ps key d, memo k ps key = some d → key ∈ L := by
  obtain ⟨m, hm⟩ : ∃ m : Nat, m = 64 := ⟨_, rfl⟩
  refine ⟨keys2 m ++ keys3 m, by rw [keys_len, hm]; decide, fun ps key d h => ?_⟩
  rw [List.mem_append]
  have mem : ∀ c n : Int, 0 ≤ c ∧ c < 64 ∧ 0 ≤ n ∧ n < 64 → [Sum.inl c, Sum.inl n] ∈ keys2 m := fun c n h => keys2_mem (by omega)
  have mem3 : ∀ t c n : Int, 0 ≤ t ∧ t < 64 ∧ 0 ≤ c ∧ c < 64 ∧ 0 ≤ n ∧ n < 64 → [Sum.inl t, Sum.inl c, Sum.inl n] ∈ keys3 m := fun t c n h => keys3_mem (by omega)
  clear hm
  unfold memo at h
  split at h
  · split at h
    · rename_i hh
      exact .inl (mem _ _ hh)
    · cases h
  · split at h
    · rename_i hh
      exact .inr (mem3 _ _ _ hh)
    · cases h
  · split at h
    · rename_i hh
      exact .inl (mem _ _ hh)
    · cases h
  · split at h
    · rename_i hh
      exact .inl (mem _ _ hh)
    · cases h
  · split at h
    · rename_i hh
      exact .inl (mem _ _ hh)
    · cases h
  · cases h
theorem memo_ent (sz fw : List Nat) {c n : Nat} (h : c < 64) (h2 : n < 64) : memo 0 [nT sz, nT fw] [.inl (c : Int), .inl (n : Int)] = some (entD sz fw c n) := by
  show (if _ then _ else _) = _
  rw [if_pos (by omega), natsOf_nT, natsOf_nT, Int.toNat_natCast, Int.toNat_natCast]
end R
namespace R
open PySem
def least (sz : List Nat) (c : Nat) : Nat := ((sz.take c).map (· - 1)).sum + 1
theorem pk_lt {l : List Nat} {i : Nat} (h : i < l.length) : pk l i = l[i] := by
  unfold pk
  rw [List.getD_eq_getElem?_getD, List.getElem?_eq_getElem h]
  rfl
theorem pk_mem {l : List Nat} {i : Nat} (h : i < l.length) : pk l i ∈ l := by rw [pk_lt h]; exact List.getElem_mem h
theorem pk_map {l : List Nat} {g : Nat → Nat} {i : Nat} (h : i < l.length) : pk (l.map g) i = g (pk l i) := by
  rw [pk_lt h, pk_lt (by rw [List.length_map]; exact h), List.getElem_map]
theorem map_pk_range (l : List Nat) : (List.range l.length).map (pk l) = l := by
  apply List.ext_getElem
  · rw [List.length_map, List.length_range]
  · intro i h1 h2
    rw [List.getElem_map, List.getElem_range, pk_lt h2]
theorem least_succ {sz : List Nat} {c : Nat} (h : c < sz.length) : least sz (c + 1) = least sz c + (pk sz c - 1) := by
  unfold least
  rw [List.take_add_one, List.getElem?_eq_getElem h, pk_lt h]
  simp only [Option.toList_some, List.map_append, List.map_cons, List.map_nil, List.sum_append, List.sum_cons, List.sum_nil]
  omega
def Pm (e : Nat × List Nat) (len : Nat) : Prop := (e.1 :: e.2).Perm (List.range len)
theorem Pm.lt {e : Nat × List Nat} {len : Nat} (h : Pm e len) : e.1 < len ∧ ∀ x ∈ e.2, x < len := by
  have k : ∀ x ∈ e.1 :: e.2, x < len := fun x m => List.mem_range.mp (h.mem_iff.mp m)
  exact ⟨k _ List.mem_cons_self, fun x m => k x (List.mem_cons_of_mem _ m)⟩
theorem Pm.len {e : Nat × List Nat} {len : Nat} (h : Pm e len) : e.2.length + 1 = len := by
  have := h.length_eq
  rw [List.length_cons, List.length_range] at this
  exact this
theorem Pm.app {e : Nat × List Nat} {l : List Nat} (h : Pm e l.length) : (pk l e.1 :: e.2.map (pk l)).Perm l := by
  have := h.map (pk l)
  rw [map_pk_range] at this
  exact this
theorem fillN_perm {e : Nat → Nat × List Nat} : ∀ (n : Nat) (p : List Nat × List Nat), (∀ k, k < n → Pm (e (p.2.length - k)) (p.2.length - k)) → n ≤ p.2.length → ((fillN e n p).1 ++ (fillN e n p).2).Perm (p.1 ++ p.2) ∧ (fillN e n p).1.length = p.1.length + n
  | 0, p, _, _ => ⟨.refl _, rfl⟩
  | n + 1, p, h, hl => by
    have h0 := h 0 (by omega)
    rw [Nat.sub_zero] at h0
    have hlen := h0.len
    have l2 : ((e p.2.length).2.map (pk p.2)).length = p.2.length - 1 := by rw [List.length_map]; omega
    obtain ⟨a, b⟩ := fillN_perm (e := e) n (p.1 ++ [pk p.2 (e p.2.length).1], (e p.2.length).2.map (pk p.2)) (fun k hk => by
      show Pm (e (((e p.2.length).2.map (pk p.2)).length - k)) (((e p.2.length).2.map (pk p.2)).length - k)
      rw [l2, Nat.sub_sub, Nat.add_comm 1 k]
      exact h (k + 1) (by omega)) (by rw [l2]; omega)
    refine ⟨a.trans ?_, by rw [fillN, b, List.length_append, List.length_singleton]; omega⟩
    rw [List.append_assoc]
    exact h0.app.append_left p.1
theorem erase_perm {l : List Nat} {i : Nat} (h : i < l.length) : (pk l i :: l.eraseIdx i).Perm l := by
  rw [pk_lt h]
  induction l generalizing i with
  | nil => simp at h
  | cons x l ih =>
    cases i with
    | zero => exact .refl _
    | succ i =>
      have h2 : i < l.length := by simpa using h
      rw [List.eraseIdx_cons_succ, List.getElem_cons_succ]
      exact (List.Perm.swap _ _ _).trans ((ih h2).cons x)
structure Cups (sz fw : List Nat) (c : Nat) : Prop where
  l1 : c ≤ sz.length
  s1 : ∀ i, i < c → 1 ≤ pk sz i
  f1 : ∀ i, i < c → pk fw i < pk sz i
theorem Cups.down {sz fw : List Nat} {c : Nat} (h : Cups sz fw (c + 1)) : Cups sz fw c := ⟨by have := h.l1; omega, fun i hi => h.s1 i (by omega), fun i hi => h.f1 i (by omega)⟩
theorem ent_perm {sz fw : List Nat} : ∀ {c : Nat} {len : Nat}, Cups sz fw c → least sz c ≤ len → Pm (ent sz fw c len) len
  | 0, len, _, h => by
    have h1 : 1 ≤ len := h
    obtain ⟨n, rfl⟩ : ∃ n, len = n + 1 := ⟨len - 1, by omega⟩
    show (0 :: List.range' 1 n).Perm (List.range (n + 1))
    rw [List.range_eq_range', List.range'_succ]
  | c + 1, len, C, h => by
    have hs := C.s1 c (by omega)
    have hf := C.f1 c (by omega)
    rw [least_succ (by have := C.l1; omega)] at h
    have hl1 : 1 ≤ least sz c := by unfold least; omega
    obtain ⟨a, b⟩ := fillN_perm (e := ent sz fw c) (pk sz c) ([], List.range len) (fun k hk => by
      show Pm (ent sz fw c ((List.range len).length - k)) ((List.range len).length - k)
      rw [List.length_range]
      exact ent_perm C.down (by omega)) (by show pk sz c ≤ (List.range len).length; rw [List.length_range]; omega)
    have a : ((fil sz fw c len).1 ++ (fil sz fw c len).2).Perm (List.range len) := a
    have b : (fil sz fw c len).1.length = pk sz c := by
      have b2 : (fil sz fw c len).1.length = 0 + pk sz c := b
      omega
    show (pk (fil sz fw c len).1 (pk fw c) :: ((fil sz fw c len).2 ++ (fil sz fw c len).1.eraseIdx (pk fw c))).Perm (List.range len)
    refine List.Perm.trans ?_ a
    have e := erase_perm (l := (fil sz fw c len).1) (i := pk fw c) (by omega)
    refine List.Perm.trans ?_ (e.append_right (fil sz fw c len).2)
    exact List.Perm.cons _ List.perm_append_comm
end R
namespace R
open PySem
def casc : List Nat → List Nat → List (List Nat) → Nat → List Nat → List (List Nat) × List Nat × Option Nat
  | s :: ss, f :: fs, c :: cs, m, q => if c.length + 1 = s then
      ([] :: (casc ss fs cs (pk (c ++ [m]) f) (q ++ (c ++ [m]).eraseIdx f)).1, (casc ss fs cs (pk (c ++ [m]) f) (q ++ (c ++ [m]).eraseIdx f)).2)
    else ((c ++ [m]) :: cs, q, none)
  | _, _, cs, m, q => (cs, q, some m)
inductive Run (ss fs : List Nat) : Nat → List (List Nat) → List Nat → Nat → List Nat → Prop where
  | done {cs cs' : List (List Nat)} {m x : Nat} {q q' : List Nat} : casc ss fs cs x q = (cs', q', some m) → (∀ c ∈ cs', c = []) → Run ss fs 1 cs (x :: q) m q'
  | step {cs cs' : List (List Nat)} {n m x : Nat} {q q1 q' : List Nat} : casc ss fs cs x q = (cs', q1, none) → Run ss fs n cs' q1 m q' → Run ss fs (n + 1) cs (x :: q) m q'
theorem casc_len : ∀ {ss fs : List Nat} {cs : List (List Nat)} {m : Nat} {q : List Nat}, (casc ss fs cs m q).1.length = cs.length
  | [], _, cs, m, q => by rw [casc]; intro _ _ _ _ _ _ e; cases e
  | _ :: _, [], cs, m, q => by rw [casc]; intro _ _ _ _ _ _ _ e; cases e
  | _ :: _, _ :: _, [], m, q => by rw [casc]; intro _ _ _ _ _ _ _ _ e; cases e
  | s :: ss, f :: fs, c :: cs, m, q => by
    rw [casc]
    split
    · rw [List.length_cons, casc_len, List.length_cons]
    · rfl
theorem casc_snoc {s f : Nat} {c : List Nat} : ∀ {ss fs : List Nat} {cs : List (List Nat)} {m : Nat} {q : List Nat}, ss.length = fs.length → ss.length = cs.length →
    casc (ss ++ [s]) (fs ++ [f]) (cs ++ [c]) m q = match (casc ss fs cs m q).2.2 with
      | none => ((casc ss fs cs m q).1 ++ [c], (casc ss fs cs m q).2.1, none)
      | some m' => if c.length + 1 = s then ((casc ss fs cs m q).1 ++ [[]], (casc ss fs cs m q).2.1 ++ (c ++ [m']).eraseIdx f, some (pk (c ++ [m']) f)) else ((casc ss fs cs m q).1 ++ [c ++ [m']], (casc ss fs cs m q).2.1, none)
  | [], [], [], m, q, _, _ => by
    show casc [s] [f] [c] m q = if c.length + 1 = s then ([[]], q ++ (c ++ [m]).eraseIdx f, some (pk (c ++ [m]) f)) else ([c ++ [m]], q, none)
    rw [casc]
    split
    · rfl
    · rfl
  | s1 :: ss, f1 :: fs, c1 :: cs, m, q, h1, h2 => by
    have ih := @casc_snoc s f c ss fs cs (pk (c1 ++ [m]) f1) (q ++ (c1 ++ [m]).eraseIdx f1) (by simpa using h1) (by simpa using h2)
    show casc (s1 :: (ss ++ [s])) (f1 :: (fs ++ [f])) (c1 :: (cs ++ [c])) m q = _
    rw [casc, casc]
    by_cases h : c1.length + 1 = s1
    · rw [if_pos h, if_pos h, ih]
      cases q2 : (casc ss fs cs (pk (c1 ++ [m]) f1) (q ++ (c1 ++ [m]).eraseIdx f1)).2.2 with
      | none => simp only [q2]; rfl
      | some m' =>
        simp only [q2]
        split
        · rfl
        · rfl
    · rw [if_neg h, if_neg h]
      rfl
  | [], _ :: _, _, _, _, h, _ => by simp at h
  | _ :: _, [], _, _, _, h, _ => by simp at h
  | [], [], _ :: _, _, _, _, h => by simp at h
  | _ :: _, _ :: _, [], _, _, _, h => by simp at h
theorem all_nil {cs : List (List Nat)} (h : ∀ c ∈ cs, c = []) : cs = List.replicate cs.length [] := List.eq_replicate_iff.mpr ⟨rfl, h⟩
theorem Run.more {ss fs : List Nat} {s f : Nat} {c : List Nat} (hl : ss.length = fs.length) {n : Nat} {cs : List (List Nat)} {q : List Nat} {m : Nat} {q' : List Nat} (r : Run ss fs n cs q m q') : ss.length = cs.length → c.length + 1 ≠ s →
    ∀ {N m2 : Nat} {q2 : List Nat}, Run (ss ++ [s]) (fs ++ [f]) N (List.replicate cs.length [] ++ [c ++ [m]]) q' m2 q2 → Run (ss ++ [s]) (fs ++ [f]) (n + N) (cs ++ [c]) q m2 q2 := by
  induction r with
  | @done cs cs' m x q q' e en =>
    intro h2 hs N m2 q2 r
    have e2 := @casc_snoc s f c ss fs cs x q hl h2
    have el := @casc_len ss fs cs x q
    rw [e] at e2 el
    simp only [if_neg hs] at e2
    rw [all_nil en, show cs'.length = cs.length from el] at e2
    rw [Nat.add_comm]
    exact .step e2 r
  | @step cs cs' n m x q q1 q' e r0 ih =>
    intro h2 hs N m2 q2 r
    have e2 := @casc_snoc s f c ss fs cs x q hl h2
    have el := @casc_len ss fs cs x q
    rw [e] at e2 el
    have el : cs'.length = cs.length := el
    rw [Nat.add_right_comm]
    exact .step e2 (ih (by omega) hs (by rw [el]; exact r))
theorem Run.last {ss fs : List Nat} {s f : Nat} {c : List Nat} (hl : ss.length = fs.length) {n : Nat} {cs : List (List Nat)} {q : List Nat} {m : Nat} {q' : List Nat} (r : Run ss fs n cs q m q') : ss.length = cs.length → c.length + 1 = s →
    Run (ss ++ [s]) (fs ++ [f]) n (cs ++ [c]) q (pk (c ++ [m]) f) (q' ++ (c ++ [m]).eraseIdx f) := by
  induction r with
  | @done cs cs' m x q q' e en =>
    intro h2 hs
    have e2 := @casc_snoc s f c ss fs cs x q hl h2
    rw [e] at e2
    simp only [if_pos hs] at e2
    refine .done e2 fun d m => ?_
    rcases List.mem_append.mp m with m | m
    · exact en d m
    · exact List.mem_singleton.mp m
  | @step cs cs' n m x q q1 q' e r0 ih =>
    intro h2 hs
    have e2 := @casc_snoc s f c ss fs cs x q hl h2
    have el := @casc_len ss fs cs x q
    rw [e] at e2 el
    have el : cs'.length = cs.length := el
    exact .step e2 (ih (by omega) hs)
theorem erase_map {α β : Type} (f : α → β) : ∀ (l : List α) (j : Nat), (l.eraseIdx j).map f = (l.map f).eraseIdx j
  | [], _ => rfl
  | _ :: _, 0 => rfl
  | x :: l, j + 1 => by rw [List.eraseIdx_cons_succ, List.map_cons, List.map_cons, List.eraseIdx_cons_succ, erase_map f l j]
def prodL (l : List Nat) : Nat := l.foldl (· * ·) 1
theorem prodL_snoc (l : List Nat) (s : Nat) : prodL (l ++ [s]) = prodL l * s := by
  unfold prodL
  rw [List.foldl_append]
  rfl
theorem take_snoc {l : List Nat} {c : Nat} (h : c < l.length) : l.take (c + 1) = l.take c ++ [pk l c] := by
  rw [List.take_add_one, List.getElem?_eq_getElem h, pk_lt h] <;> rfl
theorem map_pk_map {l x : List Nat} {g : Nat → Nat} (h : ∀ i ∈ x, i < l.length) : x.map (pk (l.map g)) = (x.map (pk l)).map g := by
  rw [List.map_map]
  refine List.map_congr_left fun i hi => ?_
  exact pk_map (h i hi)
theorem run_block {sz fw : List Nat} : ∀ {c : Nat}, Cups sz fw c → c ≤ fw.length → ∀ {q : List Nat}, least sz c ≤ q.length →
    Run (sz.take c) (fw.take c) (prodL (sz.take c)) (List.replicate c []) q (pk q (ent sz fw c q.length).1) ((ent sz fw c q.length).2.map (pk q))
  | 0, _, _, q, h => by
    have h1 : 1 ≤ q.length := h
    cases q with
    | nil => simp at h1
    | cons x q =>
      rw [List.take_zero, List.take_zero]
      have e : (ent sz fw 0 (x :: q).length).2.map (pk (x :: q)) = q := by
        show (List.range' 1 q.length).map (pk (x :: q)) = q
        apply List.ext_getElem
        · rw [List.length_map, List.length_range']
        · intro i h1 h2
          rw [List.getElem_map, List.getElem_range', pk_lt (by simpa [Nat.add_comm] using h2)]
          simp [Nat.add_comm]
      rw [e]
      exact Run.done (cs' := []) (m := x) rfl fun _ m => by cases m
  | c + 1, C, hf, q, h => by
    have hl := C.l1
    have hs := C.s1 c (by omega)
    rw [least_succ (by omega)] at h
    have h1 : 1 ≤ least sz c := by unfold least; omega
    rw [take_snoc (l := sz) (by omega), take_snoc (l := fw) (by omega), prodL_snoc, List.replicate_succ']
    have hll : (sz.take c).length = (fw.take c).length := by rw [List.length_take, List.length_take]; omega
    have hlc : (sz.take c).length = c := by rw [List.length_take]; omega
    -- the entries one by one
    have key : ∀ (k : Nat) (p : List Nat × List Nat), p.1.length + (k + 1) = pk sz c → (∀ i ∈ p.2, i < q.length) → least sz c + k ≤ p.2.length → 
        Run (sz.take c ++ [pk sz c]) (fw.take c ++ [pk fw c]) (prodL (sz.take c) * (k + 1)) (List.replicate c [] ++ [p.1.map (pk q)]) (p.2.map (pk q))
          (pk (((fillN (ent sz fw c) (k + 1) p).1).map (pk q)) (pk fw c)) ((fillN (ent sz fw c) (k + 1) p).2.map (pk q) ++ ((fillN (ent sz fw c) (k + 1) p).1.map (pk q)).eraseIdx (pk fw c)) := by
      intro k
      induction k with
      | zero =>
        intro p hp hi hk
        have pm := ent_perm (sz := sz) (fw := fw) C.down (len := p.2.length) (by omega)
        obtain ⟨l1, l2⟩ := pm.lt
        have r := run_block (sz := sz) (fw := fw) C.down (by omega) (q := p.2.map (pk q)) (by rw [List.length_map]; omega)
        rw [List.length_map, pk_map l1, map_pk_map l2] at r
        have r2 := r.last (s := pk sz c) (f := pk fw c) (c := p.1.map (pk q)) hll (by rw [List.length_replicate]; omega) (by rw [List.length_map]; omega)
        rw [Nat.zero_add, Nat.mul_one]
        show Run _ _ _ _ _ (pk ((p.1 ++ [pk p.2 (ent sz fw c p.2.length).1]).map (pk q)) (pk fw c)) (((ent sz fw c p.2.length).2.map (pk p.2)).map (pk q) ++ ((p.1 ++ [pk p.2 (ent sz fw c p.2.length).1]).map (pk q)).eraseIdx (pk fw c))
        rw [List.map_append, List.map_singleton]
        exact r2
      | succ k ih =>
        intro p hp hi hk
        have pm := ent_perm (sz := sz) (fw := fw) C.down (len := p.2.length) (by omega)
        obtain ⟨l1, l2⟩ := pm.lt
        have hlen := pm.len
        have r := run_block (sz := sz) (fw := fw) C.down (by omega) (q := p.2.map (pk q)) (by rw [List.length_map]; omega)
        rw [List.length_map, pk_map l1, map_pk_map l2] at r
        have nx := ih (p.1 ++ [pk p.2 (ent sz fw c p.2.length).1], (ent sz fw c p.2.length).2.map (pk p.2)) (by rw [List.length_append, List.length_singleton]; omega) (fun i m => by
          obtain ⟨j, hj, e⟩ := List.mem_map.mp m
          rw [← e]
          exact hi _ (pk_mem (l2 j hj))) (by rw [List.length_map]; omega)
        rw [Nat.mul_succ, Nat.add_comm]
        refine r.more (s := pk sz c) (f := pk fw c) (c := p.1.map (pk q)) hll (by rw [List.length_replicate]; omega) (by rw [List.length_map]; omega) ?_
        rw [List.length_replicate]
        have e2 : (p.1 ++ [pk p.2 (ent sz fw c p.2.length).1]).map (pk q) = p.1.map (pk q) ++ [pk q (pk p.2 (ent sz fw c p.2.length).1)] := by rw [List.map_append, List.map_singleton]
        rw [← e2]
        exact nx
    have k0 := key (pk sz c - 1) ([], List.range q.length) (by show 0 + _ = _; omega) (fun i m => List.mem_range.mp m) (by rw [List.length_range]; omega)
    have es : pk sz c - 1 + 1 = pk sz c := by omega
    rw [es] at k0
    have hf1 := C.f1 c (by omega)
    have eq0 : (List.range q.length).map (pk q) = q := map_pk_range q
    have b : (fil sz fw c q.length).1.length = pk sz c := by
      have := (fillN_perm (e := ent sz fw c) (pk sz c) ([], List.range q.length) (fun k hk => by
        show Pm (ent sz fw c ((List.range q.length).length - k)) ((List.range q.length).length - k)
        rw [List.length_range]
        exact ent_perm C.down (by omega)) (by show pk sz c ≤ (List.range q.length).length; rw [List.length_range]; omega)).2
      have b2 : (fil sz fw c q.length).1.length = 0 + pk sz c := this
      omega
    show Run _ _ _ _ _ (pk q (pk (fil sz fw c q.length).1 (pk fw c))) (((fil sz fw c q.length).2 ++ (fil sz fw c q.length).1.eraseIdx (pk fw c)).map (pk q))
    have k1 : Run (sz.take c ++ [pk sz c]) (fw.take c ++ [pk fw c]) (prodL (sz.take c) * pk sz c) (List.replicate c [] ++ [[]]) q (pk ((fil sz fw c q.length).1.map (pk q)) (pk fw c)) ((fil sz fw c q.length).2.map (pk q) ++ ((fil sz fw c q.length).1.map (pk q)).eraseIdx (pk fw c)) := by
      rw [show (([], List.range q.length) : List Nat × List Nat).2.map (pk q) = q from eq0] at k0
      exact k0
    rw [pk_map (by omega), ← erase_map, ← List.map_append] at k1
    exact k1
end R
namespace R
open PySem PySem.Spec PyProof.Rows L2
structure Wd where
  G : Hp
  S : Addr → Option (Nat × List D)
mutual
inductive Rep (K : PySem.W.Frag) (W : Wd) : V → D → Prop where
  | non : Rep K W .non .non
  | bl (b : Bool) : Rep K W (.bl b) (.bl b)
  | int (i : Int) : Rep K W (.int i) (.int i)
  | str (x : Str) : Rep K W (.str x) (.str x)
  | lst {a : Addr} {xs : List V} {ds : List D} : W.G a = some (.lst xs) → RepAll K W xs ds → Rep K W (.ref a) (.lst ds)
  | tup {a : Addr} {xs : List V} {ds : List D} : W.G a = some (.tup xs) → RepAll K W xs ds → Rep K W (.ref a) (.tup ds)
  | rol {a : Addr} {xs : List V} {ds : List D} : SqL K W.G a xs → RepAll K W xs ds → Rep K W (.ref a) (.rol ds)
  | ins {a : Addr} {C dx : Addr} {fs : List (Str × V)} {ds : List D} : W.G a = some (.ins C dx fs) → RepAll K W (fs.map (·.2)) ds → Rep K W (.ref a) (.ins C (fs.map (·.1)) ds)
  | vol {a : Addr} {k : Nat} {ps : List D} : W.S a = some (k, ps) → Rep K W (.ref a) (.vol k ps)
  | dct {a : Addr} {kvs : List (L2.Key × V)} {ds : List D} : W.G a = some (.dK kvs) → RepAll K W (kvs.map (·.2)) ds → Rep K W (.ref a) (.dct (kvs.map (·.1)) ds)
  | any (a : Addr) : Rep K W (.ref a) .any
  | adr (a : Addr) : Rep K W (.ref a) (.adr a)
  | cod {c : Addr} {q : Str} : W.G c = some (LamX.CodeO c q) → Rep K W (.ref c) (.cod q)
  | obj {c d : Addr} {o : Nat → Nat → HO} {p : Nat → HO} : W.G c = some (o d c) → W.G d = some (p d) → Rep K W (.ref c) (.obj o p)
inductive RepAll (K : PySem.W.Frag) (W : Wd) : List V → List D → Prop where
  | nil : RepAll K W [] []
  | cons {v : V} {vs : List V} {d : D} {ds : List D} : Rep K W v d → RepAll K W vs ds → RepAll K W (v :: vs) (d :: ds)
end
mutual
inductive Own (K : PySem.W.Frag) (W : Wd) (H : Hp) : V → OT → List Addr → Prop where
  | leaf {v : V} {d : D} : Rep K W v d → Own K W H v (.leaf d) []
  | lst {p : Addr} {vs : List V} {ts : List OT} {f : List Addr} : H p = some (.lst vs) → OwnAll K W H vs ts f → Own K W H (.ref p) (.lst ts) (p :: f)
  | tup {p : Addr} {vs : List V} {ts : List OT} {f : List Addr} : H p = some (.tup vs) → OwnAll K W H vs ts f → Own K W H (.ref p) (.tup ts) (p :: f)
  | ins {p : Addr} {C dx : Addr} {fs : List (Str × V)} {ts : List OT} {f : List Addr} : H p = some (.ins C dx fs) → OwnAll K W H (fs.map (·.2)) ts f → Own K W H (.ref p) (.ins C (fs.map (·.1)) ts) (p :: f)
  | d0 {p : Addr} : H p = some (.dT []) → Own K W H (.ref p) .d0 [p]
  | xo {a d : Addr} {f v : Str} : H d = some (.xd [(f, .str v)]) → Own K W H (.ref a) (.xo a d f v) [d]
  | dk {p : Addr} {kvs : List (L2.Key × V)} {ts : List OT} {f : List Addr} : H p = some (.dK kvs) → OwnAll K W H (kvs.map (·.2)) ts f → Own K W H (.ref p) (.dk (kvs.map (·.1)) ts) (p :: f)
inductive OwnAll (K : PySem.W.Frag) (W : Wd) (H : Hp) : List V → List OT → List Addr → Prop where
  | nil : OwnAll K W H [] [] []
  | cons {v : V} {vs : List V} {t : OT} {ts : List OT} {f g : List Addr} : Own K W H v t f → OwnAll K W H vs ts g → OwnAll K W H (v :: vs) (t :: ts) (f ++ g)
end
def VI (k : Nat) (ps : List D) (rep : V → D → Prop) (o : HO) : Prop := match k with
  | 0 => ∃ x y z : Int, o = .lst [.int x, .int y, .int z]
  | k + 1 => (∃ kvs : List (List Key × V), o = .dT kvs ∧ (kvs.map (·.1)).Nodup ∧ ∀ p ∈ kvs, ∃ d, memo k ps p.1 = some d ∧ rep p.2 d) ∨
      (k = 98 ∧ ∃ (q : Str) (cs : Array Value), ps = [.str q] ∧ o = .tbl cs ∧ TriplesOk cs.toList ∧ ∀ (pos : Pos) (cv : Value), codeAmong pos cs.toList = some cv → ∃ c, cv = .ref c ∧ rep (.ref c) (.cod q))
theorem VI.mono {k : Nat} {ps : List D} {rep rep2 : V → D → Prop} {o : HO} (h : VI k ps rep o) (l : ∀ v d, rep v d → rep2 v d) : VI k ps rep2 o := by
  cases k with
  | zero => exact h
  | succ k =>
    rcases h with ⟨kvs, q1, q2, q3⟩ | ⟨e, q, cs, e1, e2, e3, e4⟩
    · exact .inl ⟨kvs, q1, q2, fun p hp => let ⟨d, w1, w2⟩ := q3 p hp; ⟨d, w1, l _ _ w2⟩⟩
    · exact .inr ⟨e, q, cs, e1, e2, e3, fun pos cv h => let ⟨c, w1, w2⟩ := e4 pos cv h; ⟨c, w1, l _ _ w2⟩⟩
structure VolOk (K : PySem.W.Frag) (W : Wd) (H : Hp) : Prop where
  ok : ∀ a k ps, W.S a = some (k, ps) → W.G a = none ∧ ∃ o, H a = some o ∧ VI k ps (Rep K W) o
  tb : ∀ p q, (lamTab K).lookup p = some q → W.S p = some (99, [.str q]) ∧ ∃ cs, H p = some (.tbl cs)
instance {K : PySem.W.Frag} {W : Wd} {H : Hp} : CoeFun (VolOk K W H) fun _ => ∀ a k ps, W.S a = some (k, ps) → W.G a = none ∧ ∃ o, H a = some o ∧ VI k ps (Rep K W) o := ⟨VolOk.ok⟩
structure Sat (K : PySem.W.Frag) (W : Wd) (H : Hp) (fp xf : List Addr) : Prop where
  sub : ∀ a o, W.G a = some o → H a = some o
  vol : VolOk K W H
  nd : fp.Nodup
  off : ∀ a ∈ fp, W.G a = none ∧ W.S a = none ∧ H a ≠ none
  xof : ∀ a ∈ xf, a ∉ fp ∧ W.S a = none ∧ H a ≠ none
structure Stp (W : Wd) (H : Hp) (f : List Addr) (W' : Wd) (H' : Hp) : Prop where
  wx : ∀ a, H a ≠ none → a ∉ f → W'.G a = W.G a ∧ W'.S a = W.S a
  kp : ∀ a o, H a = some o → a ∉ f → W.S a = none → H' a = some o
  al : ∀ a, H a ≠ none → H' a ≠ none
inductive EnvOk (K : PySem.W.Frag) (W : Wd) (H : Hp) : L2.St → Env → List Addr → List Addr → Prop where
  | nil : EnvOk K W H [] [] [] []
  | no {x : Option V} {σ : L2.St} {e : Env} {fp xf : List Addr} : EnvOk K W H σ e fp xf → EnvOk K W H (x :: σ) (none :: e) fp xf
  | fz {v : V} {d : D} {σ : L2.St} {e : Env} {fp xf : List Addr} : Rep K W v d → EnvOk K W H σ e fp xf → EnvOk K W H (some v :: σ) (some (.fz d) :: e) fp xf
  | nw {v : V} {t : OT} {f : List Addr} {σ : L2.St} {e : Env} {fp xf : List Addr} : Own K W H v t f → EnvOk K W H σ e fp xf → EnvOk K W H (some v :: σ) (some (.nw t) :: e) (f ++ fp) xf
  | ex {v : V} {t : OT} {f : List Addr} {σ : L2.St} {e : Env} {fp xf : List Addr} : Own K W H v t f → EnvOk K W H σ e fp xf → EnvOk K W H (some v :: σ) (some (.ex t) :: e) fp (f ++ xf)
def ResOk (K : PySem.W.Frag) (H : Hp) (fp : List Addr) (W' : Wd) (H' : Hp) (v : V) : Rs → Prop
  | .fz d => Rep K W' v d
  | .nw t => ∃ f, Own K W' H' v t f ∧ f.Nodup ∧ ∀ a ∈ f, H a = none ∧ W'.G a = none ∧ W'.S a = none
  | .br t => ∃ f, Own K W' H' v t f ∧ ∀ a ∈ f, W'.S a = none
  | .ex t => ∃ f, Own K W' H' v t f ∧ ∀ a ∈ f, W'.S a = none ∧ a ∉ fp
inductive ResAll (K : PySem.W.Frag) (H : Hp) (fp : List Addr) (W' : Wd) (H' : Hp) : List V → List Rs → List Addr → Prop where
  | nil : ResAll K H fp W' H' [] [] []
  | fz {v : V} {d : D} {vs : List V} {rs : List Rs} {g : List Addr} : Rep K W' v d → ResAll K H fp W' H' vs rs g → ResAll K H fp W' H' (v :: vs) (.fz d :: rs) g
  | nw {v : V} {t : OT} {f : List Addr} {vs : List V} {rs : List Rs} {g : List Addr} : Own K W' H' v t f → ResAll K H fp W' H' vs rs g → ResAll K H fp W' H' (v :: vs) (.nw t :: rs) (f ++ g)
  | br {v : V} {t : OT} {f : List Addr} {vs : List V} {rs : List Rs} {g : List Addr} : Own K W' H' v t f → (∀ a ∈ f, W'.S a = none) → ResAll K H fp W' H' vs rs g → ResAll K H fp W' H' (v :: vs) (.br t :: rs) g
  | ex {v : V} {t : OT} {f : List Addr} {vs : List V} {rs : List Rs} {g : List Addr} : Own K W' H' v t f → (∀ a ∈ f, W'.S a = none ∧ a ∉ fp) → ResAll K H fp W' H' vs rs g → ResAll K H fp W' H' (v :: vs) (.ex t :: rs) g

structure Wd.Le (W W' : Wd) : Prop where
  g : ∀ a o, W.G a = some o → W'.G a = some o
  s : ∀ a k, W.S a = some k → W'.S a = some k
theorem Wd.Le.refl (W : Wd) : W.Le W := ⟨fun _ _ h => h, fun _ _ h => h⟩
theorem Wd.Le.trans {W W1 W2 : Wd} (a : W.Le W1) (b : W1.Le W2) : W.Le W2 := ⟨fun c o h => b.g c o (a.g c o h), fun c o h => b.s c o (a.s c o h)⟩
theorem SqL.mono {K : PySem.W.Frag} {G G' : Hp} {a : Addr} {xs : List V} (h : ∀ a o, G a = some o → G' a = some o) (q : SqL K G a xs) : SqL K G' a xs := by
  rcases q with (q | ⟨o, q⟩) | q
  · exact .inl (.inl (h _ _ q))
  · exact .inl (.inr ⟨o, h _ _ q⟩)
  · exact .inr q
section
variable {K : PySem.W.Frag} {W W' : Wd} {H H' : Hp}
mutual
theorem Rep.mono (l : W.Le W') : ∀ {v : V} {d : D}, Rep K W v d → Rep K W' v d
  | _, _, .non => .non
  | _, _, .bl b => .bl b
  | _, _, .int i => .int i
  | _, _, .str x => .str x
  | _, _, .lst h r => .lst (l.g _ _ h) (RepAll.mono l r)
  | _, _, .tup h r => .tup (l.g _ _ h) (RepAll.mono l r)
  | _, _, .rol h r => .rol (SqL.mono l.g h) (RepAll.mono l r)
  | _, _, .ins h r => .ins (l.g _ _ h) (RepAll.mono l r)
  | _, _, .vol h => .vol (l.s _ _ h)
  | _, _, .dct h r => .dct (l.g _ _ h) (RepAll.mono l r)
  | _, _, .any a => .any a
  | _, _, .adr a => .adr a
  | _, _, .cod h => .cod (l.g _ _ h)
  | _, _, .obj h k => .obj (l.g _ _ h) (l.g _ _ k)
theorem RepAll.mono (l : W.Le W') : ∀ {vs : List V} {ds : List D}, RepAll K W vs ds → RepAll K W' vs ds
  | _, _, .nil => .nil
  | _, _, .cons h r => .cons (Rep.mono l h) (RepAll.mono l r)
end
mutual
theorem Own.alloc : ∀ {v : V} {t : OT} {f : List Addr}, Own K W H v t f → ∀ a ∈ f, H a ≠ none
  | _, _, _, .leaf _, _, ha => by cases ha
  | _, _, _, .lst h r, a, ha => by
    rcases List.mem_cons.mp ha with e | ha
    · rw [e, h]; exact fun z => nomatch z
    · exact OwnAll.alloc r a ha
  | _, _, _, .tup h r, a, ha => by
    rcases List.mem_cons.mp ha with e | ha
    · rw [e, h]; exact fun z => nomatch z
    · exact OwnAll.alloc r a ha
  | _, _, _, .ins h r, a, ha => by
    rcases List.mem_cons.mp ha with e | ha
    · rw [e, h]; exact fun z => nomatch z
    · exact OwnAll.alloc r a ha
  | _, _, _, .d0 h, a, ha => by
    rw [List.mem_singleton.mp ha, h]; exact fun z => nomatch z
  | _, _, _, .xo h, a, ha => by
    rw [List.mem_singleton.mp ha, h]; exact fun z => nomatch z
  | _, _, _, .dk h r, a, ha => by
    rcases List.mem_cons.mp ha with e | ha
    · rw [e, h]; exact fun z => nomatch z
    · exact OwnAll.alloc r a ha
theorem OwnAll.alloc : ∀ {vs : List V} {ts : List OT} {f : List Addr}, OwnAll K W H vs ts f → ∀ a ∈ f, H a ≠ none
  | _, _, _, .nil, _, ha => by cases ha
  | _, _, _, .cons h r, a, ha => by
    rcases List.mem_append.mp ha with ha | ha
    · exact Own.alloc h a ha
    · exact OwnAll.alloc r a ha
end
mutual
theorem Own.mono (l : W.Le W') : ∀ {v : V} {t : OT} {f : List Addr}, Own K W H v t f → (∀ a ∈ f, ∀ o, H a = some o → H' a = some o) → Own K W' H' v t f
  | _, _, _, .leaf r, _ => .leaf (r.mono l)
  | _, _, _, .lst h r, k => .lst (k _ List.mem_cons_self _ h) (OwnAll.mono l r fun a ha => k a (List.mem_cons_of_mem _ ha))
  | _, _, _, .tup h r, k => .tup (k _ List.mem_cons_self _ h) (OwnAll.mono l r fun a ha => k a (List.mem_cons_of_mem _ ha))
  | _, _, _, .ins h r, k => .ins (k _ List.mem_cons_self _ h) (OwnAll.mono l r fun a ha => k a (List.mem_cons_of_mem _ ha))
  | _, _, _, .d0 h, k => .d0 (k _ List.mem_cons_self _ h)
  | _, _, _, .xo h, k => .xo (k _ List.mem_cons_self _ h)
  | _, _, _, .dk h r, k => .dk (k _ List.mem_cons_self _ h) (OwnAll.mono l r fun a ha => k a (List.mem_cons_of_mem _ ha))
theorem OwnAll.mono (l : W.Le W') : ∀ {vs : List V} {ts : List OT} {f : List Addr}, OwnAll K W H vs ts f → (∀ a ∈ f, ∀ o, H a = some o → H' a = some o) → OwnAll K W' H' vs ts f
  | _, _, _, .nil, _ => .nil
  | _, _, _, .cons h r, k => .cons (Own.mono l h fun a ha => k a (List.mem_append_left _ ha)) (OwnAll.mono l r fun a ha => k a (List.mem_append_right _ ha))
end
theorem EnvOk.mono (l : W.Le W') {σ : L2.St} {e : Env} {fp xf : List Addr} (h : EnvOk K W H σ e fp xf) : (∀ a, a ∈ fp ∨ a ∈ xf → ∀ o, H a = some o → H' a = some o) → EnvOk K W' H' σ e fp xf := by
  induction h with
  | nil => intro _; exact .nil
  | no _ ih => intro k; exact .no (ih k)
  | fz r _ ih => intro k; exact .fz (r.mono l) (ih k)
  | nw r _ ih => intro k; exact .nw (r.mono l fun a ha => k a (.inl (List.mem_append_left _ ha))) (ih fun a ha => k a (ha.imp (List.mem_append_right _) id))
  | ex r _ ih => intro k; exact .ex (r.mono l fun a ha => k a (.inr (List.mem_append_left _ ha))) (ih fun a ha => k a (ha.imp id (List.mem_append_right _)))
theorem ResAll.mono {H0 : Hp} {fp : List Addr} (l : W.Le W') {vs : List V} {rs : List Rs} {g : List Addr} (h : ResAll K H0 fp W H vs rs g) :
    (∀ a o, H a = some o → W.S a = none → H' a = some o) → (∀ a, H a ≠ none → W'.S a = W.S a) → (∀ a ∈ g, W.S a = none) → ResAll K H0 fp W' H' vs rs g := by
  have key : ∀ {v : V} {t : OT} {f : List Addr}, Own K W H v t f → ∀ a ∈ f, H a ≠ none := by
    intro v t f o
    exact (Own.alloc o)
  induction h with
  | nil => intro _ _ _; exact .nil
  | fz r _ ih => intro k s q; exact .fz (r.mono l) (ih k s q)
  | nw r _ ih => intro k s q; exact .nw (r.mono l fun a ha o e => k a o e (q a (List.mem_append_left _ ha))) (ih k s fun a ha => q a (List.mem_append_right _ ha))
  | br r z _ ih => intro k s q; exact .br (r.mono l fun a ha o e => k a o e (z a ha)) (fun a ha => (s a (key r a ha)).trans (z a ha)) (ih k s q)
  | ex r z _ ih => intro k s q; exact .ex (r.mono l fun a ha o e => k a o e (z a ha).1) (fun a ha => ⟨(s a (key r a ha)).trans (z a ha).1, (z a ha).2⟩) (ih k s q)
end
section
variable {K : PySem.W.Frag} {W W1 W2 W' : Wd} {H H1 H2 H' : Hp} {f f1 fp xf : List Addr}
theorem Stp.refl : Stp W H f W H := ⟨fun _ _ _ => ⟨rfl, rfl⟩, fun _ _ h _ _ => h, fun _ h => h⟩
theorem Stp.le (s : Sat K W H fp xf) (t : Stp W H f W' H') (h : ∀ a ∈ f, a ∈ fp ∨ H a = none) : W.Le W' := by
  have key : ∀ a, (W.G a ≠ none ∨ W.S a ≠ none) → H a ≠ none ∧ a ∉ f := by
    intro a z
    have ha : H a ≠ none := by
      rcases z with z | z
      · cases q : W.G a with
        | none => exact absurd q z
        | some o => rw [s.sub a o q]; exact fun z => nomatch z
      · cases q : W.S a with
        | none => exact absurd q z
        | some o =>
          obtain ⟨k, ps⟩ := o
          obtain ⟨_, o, e, _⟩ := s.vol a k ps q
          rw [e]; exact fun z => nomatch z
    refine ⟨ha, fun m => ?_⟩
    rcases h a m with m | m
    · obtain ⟨g1, g2, _⟩ := s.off a m
      rcases z with z | z
      · exact z g1
      · exact z g2
    · exact ha m
  refine ⟨fun a o e => ?_, fun a o e => ?_⟩
  · obtain ⟨k1, k2⟩ := key a (.inl (by rw [e]; exact fun z => nomatch z))
    rw [(t.wx a k1 k2).1]; exact e
  · obtain ⟨k1, k2⟩ := key a (.inr (by rw [e]; exact fun z => nomatch z))
    rw [(t.wx a k1 k2).2]; exact e
theorem Stp.trans (a : Stp W H f W1 H1) (b : Stp W1 H1 f1 W2 H2) (h : ∀ a ∈ f1, a ∈ f ∨ H a = none) : Stp W H f W2 H2 := by
  have nf : ∀ c, H c ≠ none → c ∉ f → c ∉ f1 := fun c hc hf m => (h c m).elim hf hc
  refine ⟨fun c hc hf => ?_, fun c o e hf hs => ?_, fun c hc => b.al c (a.al c hc)⟩
  · obtain ⟨x1, x2⟩ := a.wx c hc hf
    obtain ⟨y1, y2⟩ := b.wx c (a.al c hc) (nf c hc hf)
    exact ⟨y1.trans x1, y2.trans x2⟩
  · have hc : H c ≠ none := by rw [e]; exact fun z => nomatch z
    exact b.kp c o (a.kp c o e hf hs) (nf c hc hf) ((a.wx c hc hf).2.trans hs)
theorem Stp.tr0 (a : Stp W H [] W1 H1) (b : Stp W1 H1 [] W2 H2) : Stp W H [] W2 H2 := a.trans b fun _ m => by cases m
theorem Stp.up (a : Stp W H [] W1 H1) : Stp W H f W1 H1 := ⟨fun c h _ => a.wx c h (by simp), fun c o e _ s => a.kp c o e (by simp) s, a.al⟩
theorem EnvOk.keep {σ : L2.St} {e : Env} (h : EnvOk K W H σ e fp xf) (s : Sat K W H fp xf) (t : Stp W H [] W' H') : EnvOk K W' H' σ e fp xf :=
  h.mono (t.le s fun _ m => by cases m) fun a m o q => t.kp a o q (by simp) (m.elim (fun z => (s.off a z).2.1) fun z => (s.xof a z).2.1)
theorem some_ne {α : Type} {a : α} {o : Option α} (h : o = some a) : o ≠ none := by rw [h]; exact fun z => nomatch z
theorem Stp.new {p : Addr} {o : HO} (h : H p = none) : Stp W H [] W (upd H p o) :=
  ⟨fun _ _ _ => ⟨rfl, rfl⟩, fun a u e _ _ => by rw [upd_ne (ne_of_none e h)]; exact e, fun a z => by
    by_cases e : a = p
    · rw [e, h] at z; exact absurd rfl z
    · rw [upd_ne e]; exact z⟩
theorem Sat.new {p : Addr} {o : HO} (s : Sat K W H fp xf) (h : H p = none) : Sat K W (upd H p o) fp xf := by
  have n : ∀ a, H a ≠ none → upd H p o a = H a := fun a z => upd_ne fun e => z (by rw [e]; exact h)
  have nn : ∀ a, H a ≠ none → upd H p o a ≠ none := fun a z => by rw [n a z]; exact z
  refine ⟨fun a u e => ?_, ⟨fun a k ps e => ?_, fun p q e => let ⟨x, cs, y⟩ := s.vol.tb p q e; ⟨x, cs, by rw [n p (some_ne y)]; exact y⟩⟩, s.nd, fun a m => ?_, fun a m => ?_⟩
  · have q := s.sub a u e
    rw [n a (some_ne q)]; exact q
  · obtain ⟨g, u, q, v⟩ := s.vol a k ps e
    exact ⟨g, u, by rw [n a (some_ne q)]; exact q, v⟩
  · obtain ⟨a1, a2, a3⟩ := s.off a m
    exact ⟨a1, a2, nn a a3⟩
  · obtain ⟨a1, a2, a3⟩ := s.xof a m
    exact ⟨a1, a2, nn a a3⟩
theorem Sat.free (s : Sat K W H fp xf) {p : Addr} (h : H p = none) : W.G p = none ∧ W.S p = none := by
  constructor
  · cases q : W.G p with
    | none => rfl
    | some o => rw [s.sub p o q] at h; cases h
  · cases q : W.S p with
    | none => rfl
    | some o =>
      obtain ⟨k, ps⟩ := o
      obtain ⟨_, o, e, _⟩ := s.vol p k ps q
      rw [e] at h; cases h

structure Frz (K : PySem.W.Frag) (W : Wd) (H : Hp) (f : List Addr) (W' : Wd) : Prop where
  out : ∀ a, a ∉ f → W'.G a = W.G a ∧ W'.S a = W.S a
  g : ∀ a ∈ f, ∀ o, W'.G a = some o → H a = some o
  s : ∀ a ∈ f, ∀ k ps, W'.S a = some (k, ps) → W'.G a = none ∧ H a = some (.dT []) ∧ k ≠ 0
theorem Frz.le (z : Frz K W H f W') (h : ∀ a ∈ f, W.G a = none ∧ W.S a = none) : W.Le W' := by
  refine ⟨fun a o e => ?_, fun a o e => ?_⟩
  · have n : a ∉ f := fun m => by rw [(h a m).1] at e; cases e
    rw [(z.out a n).1]; exact e
  · have n : a ∉ f := fun m => by rw [(h a m).2] at e; cases e
    rw [(z.out a n).2]; exact e
theorem Frz.trans {g : List Addr} (a : Frz K W H f W1) (b : Frz K W1 H g W2) (d : ∀ x ∈ f, x ∉ g) : Frz K W H (f ++ g) W2 := by
  refine ⟨fun x n => ?_, fun x m o e => ?_, fun x m k ps e => ?_⟩
  · have n1 : x ∉ f := fun z => n (List.mem_append_left _ z)
    have n2 : x ∉ g := fun z => n (List.mem_append_right _ z)
    exact ⟨(b.out x n2).1.trans (a.out x n1).1, (b.out x n2).2.trans (a.out x n1).2⟩
  · rcases List.mem_append.mp m with m | m
    · rw [(b.out x (d x m)).1] at e; exact a.g x m o e
    · exact b.g x m o e
  · rcases List.mem_append.mp m with m | m
    · rw [(b.out x (d x m)).2] at e
      rw [(b.out x (d x m)).1]
      exact a.s x m k ps e
    · exact b.s x m k ps e
def Wd.put (W : Wd) (p : Addr) (o : HO) : Wd := ⟨upd W.G p o, W.S⟩
theorem Frz.put (z : Frz K W H f W') {p : Addr} {o : HO} (h : H p = some o) (n : W.S p = none) (m : p ∉ f) : Frz K W H (p :: f) (W'.put p o) := by
  refine ⟨fun a na => ?_, fun a ma u e => ?_, fun a ma k ps e => ?_⟩
  · have n1 : a ≠ p := fun q => na (by rw [q]; exact List.mem_cons_self)
    have n2 : a ∉ f := fun q => na (List.mem_cons_of_mem _ q)
    exact ⟨(upd_ne n1).trans (z.out a n2).1, (z.out a n2).2⟩
  · by_cases q : a = p
    · subst q
      have e2 : upd W'.G a o a = some u := e
      rw [upd_same] at e2
      cases e2
      exact h
    · have e2 : upd W'.G p o a = some u := e
      rw [upd_ne q] at e2
      exact z.g a ((List.mem_cons.mp ma).resolve_left q) u e2
  · by_cases q : a = p
    · subst q
      have e2 : W'.S a = some (k, ps) := e
      rw [(z.out a m).2, n] at e2
      cases e2
    · have e2 : W'.S a = some (k, ps) := e
      obtain ⟨r1, r2⟩ := z.s a ((List.mem_cons.mp ma).resolve_left q) k ps e2
      exact ⟨(upd_ne q).trans r1, r2⟩
theorem Frz.leP (z : Frz K W H f W') {p : Addr} {o : HO} (n : W'.G p = none) : W'.Le (W'.put p o) := ⟨fun a u e => by
  have q : a ≠ p := fun q => by rw [q, n] at e; cases e
  exact (upd_ne q).trans e, fun _ _ e => e⟩
mutual
theorem freeze : ∀ {t : OT} {v : V} {d : D} {f : List Addr} {W : Wd}, Own K W H v t f → Fz t d → f.Nodup → (∀ a ∈ f, W.G a = none ∧ W.S a = none) → ∃ W', Frz K W H f W' ∧ Rep K W' v d ∧ (t.fzd ≠ none → W'.S = W.S)
  | .leaf _, v, _, _, W, .leaf r, .leaf _, _, _ => ⟨W, ⟨fun _ _ => ⟨rfl, rfl⟩, fun _ m => (by cases m), fun _ m => (by cases m)⟩, r, fun _ => rfl⟩
  | _, _, _, _, W, .lst (p := p) (f := f) h r, .lst z, nd, off => by
    obtain ⟨n1, n2⟩ := List.nodup_cons.mp nd
    obtain ⟨W', F, R, sk⟩ := freezeAll r z n2 fun a m => off a (List.mem_cons_of_mem _ m)
    have g : W'.G p = none := (F.out p n1).1.trans (off p List.mem_cons_self).1
    exact ⟨_, F.put h (off p List.mem_cons_self).2 n1, .lst upd_same (R.mono (F.leP g)), fun q => sk fun q2 => q (by rw [OT.fzd, q2] <;> rfl)⟩
  | _, _, _, _, W, .tup (p := p) (f := f) h r, .tup z, nd, off => by
    obtain ⟨n1, n2⟩ := List.nodup_cons.mp nd
    obtain ⟨W', F, R, sk⟩ := freezeAll r z n2 fun a m => off a (List.mem_cons_of_mem _ m)
    have g : W'.G p = none := (F.out p n1).1.trans (off p List.mem_cons_self).1
    exact ⟨_, F.put h (off p List.mem_cons_self).2 n1, .tup upd_same (R.mono (F.leP g)), fun q => sk fun q2 => q (by rw [OT.fzd, q2] <;> rfl)⟩
  | _, _, _, _, W, .ins (p := p) (f := f) h r, .ins z, nd, off => by
    obtain ⟨n1, n2⟩ := List.nodup_cons.mp nd
    obtain ⟨W', F, R, sk⟩ := freezeAll r z n2 fun a m => off a (List.mem_cons_of_mem _ m)
    have g : W'.G p = none := (F.out p n1).1.trans (off p List.mem_cons_self).1
    exact ⟨_, F.put h (off p List.mem_cons_self).2 n1, .ins upd_same (R.mono (F.leP g)), fun q => sk fun q2 => q (by rw [OT.fzd, q2] <;> rfl)⟩
  | _, _, _, _, W, .dk (p := p) (f := f) h r, .dk z, nd, off => by
    obtain ⟨n1, n2⟩ := List.nodup_cons.mp nd
    obtain ⟨W', F, R, sk⟩ := freezeAll r z n2 fun a m => off a (List.mem_cons_of_mem _ m)
    have g : W'.G p = none := (F.out p n1).1.trans (off p List.mem_cons_self).1
    exact ⟨_, F.put h (off p List.mem_cons_self).2 n1, .dct upd_same (R.mono (F.leP g)), fun q => sk fun q2 => q (by rw [OT.fzd, q2] <;> rfl)⟩
  | _, _, _, _, W, .d0 (p := p) h, .d0 k ps, _, off => by
    obtain ⟨o1, o2⟩ := off p List.mem_cons_self
    refine ⟨⟨W.G, fun a => if a = p then some (k + 1, ps) else W.S a⟩, ⟨fun a n => ?_, fun a m o e => ?_, fun a m k' ps' e => ?_⟩, .vol (if_pos rfl), fun q => absurd (by rw [OT.fzd]) q⟩
    · have q : a ≠ p := fun z => n (by rw [z]; exact List.mem_cons_self)
      exact ⟨rfl, if_neg q⟩
    · rw [List.mem_singleton.mp m] at e
      rw [show W.G p = none from o1] at e; cases e
    · rw [List.mem_singleton.mp m] at e ⊢
      have e2 : (if p = p then some (k + 1, ps) else W.S p) = some (k', ps') := e
      rw [if_pos rfl] at e2
      cases e2
      exact ⟨o1, h, Nat.succ_ne_zero k⟩
theorem freezeAll : ∀ {ts : List OT} {vs : List V} {ds : List D} {f : List Addr} {W : Wd}, OwnAll K W H vs ts f → FzAll ts ds → f.Nodup → (∀ a ∈ f, W.G a = none ∧ W.S a = none) → ∃ W', Frz K W H f W' ∧ RepAll K W' vs ds ∧ (fzdAll ts ≠ none → W'.S = W.S)
  | _, _, _, _, W, .nil, .nil, _, _ => ⟨W, ⟨fun _ _ => ⟨rfl, rfl⟩, fun _ m => (by cases m), fun _ m => (by cases m)⟩, .nil, fun _ => rfl⟩
  | _, _, _, _, W, .cons (f := f) (g := g) h r, .cons z zs, nd, off => by
    obtain ⟨n1, n2, n3⟩ := List.nodup_append.mp nd
    obtain ⟨W1, F1, R1, k1⟩ := freeze h z n1 fun a m => off a (List.mem_append_left _ m)
    have d : ∀ x ∈ f, x ∉ g := fun x m1 m2 => n3 x m1 x m2 rfl
    have off2 : ∀ a ∈ g, W1.G a = none ∧ W1.S a = none := fun a m => by
      have n : a ∉ f := fun q => d a q m
      obtain ⟨e1, e2⟩ := F1.out a n
      obtain ⟨o1, o2⟩ := off a (List.mem_append_right _ m)
      exact ⟨e1.trans o1, e2.trans o2⟩
    have l1 : W.Le W1 := F1.le fun a m => off a (List.mem_append_left _ m)
    obtain ⟨W2, F2, R2, k2⟩ := freezeAll (r.mono l1 fun _ _ _ e => e) zs n2 off2
    refine ⟨W2, F1.trans F2 d, .cons (R1.mono (F2.le off2)) R2, fun q => ?_⟩
    rw [fzdAll] at q
    rw [k2 fun q2 => q (by rw [q2]; cases OT.fzd _ <;> rfl), k1 fun q1 => q (by rw [q1] <;> rfl)]
end
theorem Frz.sat (z : Frz K W H f W') (s : Sat K W H fp xf) (h : ∀ a ∈ f, W.G a = none ∧ W.S a = none ∧ H a ≠ none) (d : ∀ a ∈ f, a ∉ fp ∧ a ∉ xf) : Sat K W' H fp xf := by
  have l := z.le fun a m => ⟨(h a m).1, (h a m).2.1⟩
  refine ⟨fun a o e => ?_, ⟨fun a k ps e => ?_, fun p q e => let ⟨x, y⟩ := s.vol.tb p q e; ⟨l.s _ _ x, y⟩⟩, s.nd, fun a m => ?_, fun a m => ?_⟩
  · by_cases m : a ∈ f
    · exact z.g a m o e
    · rw [(z.out a m).1] at e; exact s.sub a o e
  · by_cases m : a ∈ f
    · obtain ⟨e1, e2, e3⟩ := z.s a m k ps e
      refine ⟨e1, _, e2, ?_⟩
      cases k with
      | zero => exact absurd rfl e3
      | succ k => exact .inl ⟨[], rfl, List.nodup_nil, fun _ m => by cases m⟩
    · rw [(z.out a m).2] at e
      obtain ⟨e1, o, e2, e3⟩ := s.vol a k ps e
      exact ⟨(z.out a m).1.trans e1, o, e2, e3.mono fun _ _ w => w.mono l⟩
  · have n : a ∉ f := fun q => (d a q).1 m
    obtain ⟨a1, a2, a3⟩ := s.off a m
    exact ⟨(z.out a n).1.trans a1, (z.out a n).2.trans a2, a3⟩
  · have n : a ∉ f := fun q => (d a q).2 m
    obtain ⟨a1, a2, a3⟩ := s.xof a m
    exact ⟨a1, (z.out a n).2.trans a2, a3⟩
theorem Frz.stp (z : Frz K W H f W') : Stp W H f W' H := ⟨fun a _ n => z.out a n, fun _ _ e _ _ => e, fun _ h => h⟩
end
theorem Sat.memo {K : PySem.W.Frag} {W : Wd} {H : Hp} {fp xf : List Addr} {a : Addr} {k : Nat} {ps : List D} {key : List Key} {d : D} (S : Sat K W H fp xf) (s : W.S a = some (k + 1, ps)) (hm : memo k ps key = some d) :
    W.G a = none ∧ ∃ o, H a = some o ∧ ∃ kvs : List (List Key × V), o = .dT kvs ∧ (kvs.map (·.1)).Nodup ∧ ∀ p ∈ kvs, ∃ d, memo k ps p.1 = some d ∧ Rep K W p.2 d := by
  obtain ⟨g, o, h, v⟩ := S.vol a _ _ s
  rcases v with v | ⟨rfl, _⟩
  · exact ⟨g, o, h, v⟩
  · cases (show none = some d from hm)
end R
namespace R
open PySem PySem.Spec PyProof.Rows L2
def LP (K : PySem.W.Frag) (m : DE) : TE := fun σ H Q => ∃ (W : Wd) (env : Env) (fp xf : List Addr) (Q0 : Rs → Prop), EnvOk K W H σ env fp xf ∧ Sat K W H fp xf ∧ m env Q0 ∧
  ∀ r, Q0 r → ∀ v W' H', Stp W H [] W' H' → Sat K W' H' fp xf → ResOk K H fp W' H' v r → Q v H'
def LT (K : PySem.W.Frag) (m : DT) : TT := fun σ H Q => ∃ (W : Wd) (env : Env) (fp xf : List Addr) (Q0 : Bool → Prop), EnvOk K W H σ env fp xf ∧ Sat K W H fp xf ∧ m env Q0 ∧
  ∀ r, Q0 r → ∀ W' H', Stp W H [] W' H' → Sat K W' H' fp xf → Q r H'
def Fresh (H : Hp) (W' : Wd) (g : List Addr) : Prop := g.Nodup ∧ ∀ a ∈ g, H a = none ∧ W'.G a = none ∧ W'.S a = none
def LA (K : PySem.W.Frag) (m : DA) : TA := fun σ H Q => ∃ (W : Wd) (env : Env) (fp xf : List Addr) (Q0 : List Rs → Prop), EnvOk K W H σ env fp xf ∧ Sat K W H fp xf ∧ m env Q0 ∧
  ∀ rs, Q0 rs → ∀ vs W' H' g, Stp W H [] W' H' → Sat K W' H' fp xf → ResAll K H fp W' H' vs rs g → Fresh H W' g → Q vs H'
theorem pe_imp {X : Cx} {e : Expr} {t t' : TE} (h : PE X e t) (k : ∀ σ H Q, t' σ H Q → t σ H Q) : PE X e t' := ⟨fun pins s σ H Q I w => h.run pins s σ H Q I (k σ H Q w)⟩
theorem pt_imp {X : Cx} {e : Expr} {t t' : TT} (h : PT X e t) (k : ∀ σ H Q, t' σ H Q → t σ H Q) : PT X e t' := ⟨fun pins s σ H Q I w => h.run pins s σ H Q I (k σ H Q w)⟩
theorem pw_imp {X : Cx} {e : Expr} {t t' : TT} (h : PW X e t) (k : ∀ σ H Q, t' σ H Q → t σ H Q) : PW X e t' := ⟨fun wh pins s σ H Q I w => h.run wh pins s σ H Q I (k σ H Q w)⟩
theorem pa_imp {X : Cx} {e : List Expr} {t t' : TA} (h : PA X e t) (k : ∀ σ H Q, t' σ H Q → t σ H Q) : PA X e t' := ⟨fun pos pins s σ H Q I w => h.run pos pins s σ H Q I (k σ H Q w)⟩
theorem ps_imp {X : Cx} {e : Stmt} {t t' : TS} (h : PS X e t) (k : ∀ D σ H, t' D σ H → t D σ H) : PS X e t' := ⟨fun pins s σ H D I w => h.run pins s σ H D I (k D σ H w)⟩
theorem pss_imp {X : Cx} {e : List Stmt} {t t' : TS} (h : PSs X e t) (k : ∀ D σ H, t' D σ H → t D σ H) : PSs X e t' := ⟨fun pins s σ H D I w => h.run pins s σ H D I (k D σ H w)⟩
section
variable {K : PySem.W.Frag} {W W1 W2 W' : Wd} {H H1 H2 H' : Hp} {f f1 fp xf : List Addr} {σ : L2.St} {Q : VK} {r : Rs} {v : V} {env : Env}
theorem Stp.kpS (t : Stp W H [] W' H') {a : Addr} (h : H a ≠ none) : W'.G a = W.G a ∧ W'.S a = W.S a := t.wx a h (by simp)
theorem ResOk.keep (h : ResOk K H fp W1 H1 v r) (t : Stp W1 H1 [] W2 H2) (l : W1.Le W2) : ResOk K H fp W2 H2 v r := by
  cases r with
  | fz d => exact Rep.mono l h
  | nw x =>
    obtain ⟨f, o, nd, z⟩ := h
    refine ⟨f, o.mono l fun a m u e => t.kp a u e (by simp) (z a m).2.2, nd, fun a m => ?_⟩
    obtain ⟨e1, e2⟩ := t.kpS (o.alloc a m)
    obtain ⟨z1, z2, z3⟩ := z a m
    exact ⟨z1, e1.trans z2, e2.trans z3⟩
  | br x =>
    obtain ⟨f, o, z⟩ := h
    exact ⟨f, o.mono l fun a m u e => t.kp a u e (by simp) (z a m), fun a m => (t.kpS (o.alloc a m)).2.trans (z a m)⟩
  | ex x =>
    obtain ⟨f, o, z⟩ := h
    exact ⟨f, o.mono l fun a m u e => t.kp a u e (by simp) (z a m).1, fun a m => ⟨(t.kpS (o.alloc a m)).2.trans (z a m).1, (z a m).2⟩⟩
theorem ResOk.back (h : ResOk K H1 fp W2 H2 v r) (t : ∀ a, H a ≠ none → H1 a ≠ none) : ResOk K H fp W2 H2 v r := by
  cases r with
  | fz d => exact h
  | nw x =>
    obtain ⟨f, o, nd, z⟩ := h
    refine ⟨f, o, nd, fun a m => ⟨?_, (z a m).2⟩⟩
    cases q : H a with
    | none => rfl
    | some u => exact absurd (z a m).1 (t a (by rw [q]; exact fun z => nomatch z))
  | br x => exact h
  | ex x => exact h
theorem fresh_back {g : List Addr} (h : Fresh H1 W2 g) (t : ∀ a, H a ≠ none → H1 a ≠ none) : Fresh H W2 g := ⟨h.1, fun a m => ⟨by
  cases q : H a with
  | none => rfl
  | some u => exact absurd (h.2 a m).1 (t a (by rw [q]; exact fun z => nomatch z)), (h.2 a m).2⟩⟩
theorem ResAll.back {vs : List V} {rs : List Rs} {g : List Addr} (h : ResAll K H1 fp W2 H2 vs rs g) : ResAll K H fp W2 H2 vs rs g := by
  induction h with
  | nil => exact .nil
  | fz r _ ih => exact .fz r ih
  | nw r _ ih => exact .nw r ih
  | br r z _ ih => exact .br r z ih
  | ex r z _ ih => exact .ex r z ih
theorem ffz_ok (S : Sat K W H fp xf) (t : Stp W H [] W1 H1) (S1 : Sat K W1 H1 fp xf) (o : ResOk K H fp W1 H1 v r) : ∃ W', Stp W H [] W' H1 ∧ Sat K W' H1 fp xf ∧ W1.Le W' ∧ ResOk K H fp W' H1 v r.ffz := by
  cases r with
  | fz d => exact ⟨W1, t, S1, .refl _, o⟩
  | br d => exact ⟨W1, t, S1, .refl _, o⟩
  | ex d => exact ⟨W1, t, S1, .refl _, o⟩
  | nw x =>
    cases q : x.fzd with
    | none => exact ⟨W1, t, S1, .refl _, by show ResOk K H fp W1 H1 v (match x.fzd with | some d => .fz d | none => .nw x); rw [q]; exact o⟩
    | some d =>
      obtain ⟨f, ow, nd, z⟩ := o
      obtain ⟨W', F, R, _⟩ := freeze ow (Fz.of q) nd fun a m => (z a m).2
      have za : ∀ a ∈ f, a ∉ fp ∧ a ∉ xf := fun a m => ⟨fun m2 => (S.off a m2).2.2 (z a m).1, fun m2 => (S.xof a m2).2.2 (z a m).1⟩
      refine ⟨W', ?_, F.sat S1 (fun a m => ⟨(z a m).2.1, (z a m).2.2, ow.alloc a m⟩) za, F.le fun a m => (z a m).2, ?_⟩
      · exact t.trans F.stp fun a m => .inr (z a m).1
      · show ResOk K H fp W' H1 v (match x.fzd with | some d => .fz d | none => .nw x)
        rw [q]; exact R
structure Ops (K : PySem.W.Frag) (H : Hp) (Q : VK) (Q0 : Rs → Prop) (W2 : Wd) (H2 : Hp) (W : Wd) (fp xf : List Addr) : Prop where
  S : Sat K W H fp xf
  t : Stp W H [] W2 H2
  S2 : Sat K W2 H2 fp xf
  k : ∀ r, Q0 r → ∀ v W' H', Stp W H [] W' H' → Sat K W' H' fp xf → ResOk K H fp W' H' v r → Q v H'
theorem Ops.fin {Q0 : Rs → Prop} (o : Ops K H Q Q0 W2 H2 W fp xf) {d : D} (q : Q0 (.fz d)) (h : Rep K W2 v d) : Q v H2 := o.k _ q v W2 H2 o.t o.S2 h
theorem Ops.res {Q0 : Rs → Prop} (o : Ops K H Q Q0 W2 H2 W fp xf) (q : Q0 r) (h : ResOk K H fp W2 H2 v r) : Q v H2 := o.k _ q v W2 H2 o.t o.S2 h
theorem OwnAll.leafs {vs : List V} : ∀ {vs : List V} {ds : List D}, RepAll K W vs ds → OwnAll K W H vs (ds.map .leaf) []
  | _, _, .nil => .nil
  | _, _, .cons r rs => .cons (f := []) (g := []) (.leaf r) (OwnAll.leafs (vs := []) rs)
theorem Ops.newL {Q0 : Rs → Prop} (o : Ops K H Q Q0 W2 H2 W fp xf) {ds : List D} {vs : List V} (q : Q0 (.nw (.lst (ds.map .leaf)))) (h : RepAll K W2 vs ds) (p : Addr) (n : H2 p = none) : Q (.ref p) (upd H2 p (.lst vs)) := by
  have hn : H p = none := by
    cases z : H p with
    | none => rfl
    | some u => exact absurd n (o.t.al p (some_ne z))
  refine o.k _ q _ W2 _ (o.t.tr0 (.new n)) (o.S2.new n) ⟨[p], .lst upd_same (OwnAll.leafs (vs := []) h), List.nodup_cons.mpr ⟨by simp, List.nodup_nil⟩, fun a m => ?_⟩
  rw [List.mem_singleton.mp m]
  exact ⟨hn, (o.S2.free n).1, (o.S2.free n).2⟩
theorem Ops.newT {Q0 : Rs → Prop} (o : Ops K H Q Q0 W2 H2 W fp xf) {ds : List D} {vs : List V} (q : Q0 (.nw (.tup (ds.map .leaf)))) (h : RepAll K W2 vs ds) (p : Addr) (n : H2 p = none) : Q (.ref p) (upd H2 p (.tup vs)) := by
  have hn : H p = none := by
    cases z : H p with
    | none => rfl
    | some u => exact absurd n (o.t.al p (some_ne z))
  refine o.k _ q _ W2 _ (o.t.tr0 (.new n)) (o.S2.new n) ⟨[p], .tup upd_same (OwnAll.leafs (vs := []) h), List.nodup_cons.mpr ⟨by simp, List.nodup_nil⟩, fun a m => ?_⟩
  rw [List.mem_singleton.mp m]
  exact ⟨hn, (o.S2.free n).1, (o.S2.free n).2⟩
theorem LP.two {ma mb : DE} {R : Rs → Rs → (Rs → Prop) → Prop} {q : V → V → Hp → Prop} (h : LP K (mOp R ma mb) σ H Q)
    (hop : ∀ (W : Wd) (fp xf : List Addr) (Q0 : Rs → Prop) r1 r2 v1 v2 W2 H2, R r1 r2 Q0 → Ops K H Q Q0 W2 H2 W fp xf → ResOk K H fp W2 H2 v1 r1 → ResOk K H fp W2 H2 v2 r2 → q v1 v2 H2) : LP K ma σ H fun x H1 => LP K mb σ H1 fun y H2 => q x y H2 := by
  obtain ⟨W, env, fp, xf, Q0, E, S, hm, k⟩ := h
  refine ⟨W, env, fp, xf, _, E, S, hm, fun r1 h1 v1 W1' H1 t1' S1' o1' => ?_⟩
  obtain ⟨W1, t1, S1, _, o1⟩ := ffz_ok S t1' S1' o1'
  refine ⟨W1, env, fp, xf, _, E.keep S t1, S1, h1, fun r2 h2 v2 W2' H2 t2' S2' o2' => ?_⟩
  obtain ⟨W2, t2, S2, _, o2⟩ := ffz_ok S1 t2' S2' o2'
  have l := t2.le S1 fun _ m => by cases m
  exact hop W fp xf Q0 r1.ffz r2.ffz v1 v2 W2 H2 h2 ⟨S, t1.tr0 t2, S2, k⟩ (o1.keep t2 l) (o2.back t1.al)
theorem LP.one {ma : DE} {R : Rs → (Rs → Prop) → Prop} {q : V → Hp → Prop} (h : LP K (mUn R ma) σ H Q)
    (hop : ∀ (W : Wd) (fp xf : List Addr) (Q0 : Rs → Prop) r1 v1 W2 H2, R r1 Q0 → Ops K H Q Q0 W2 H2 W fp xf → ResOk K H fp W2 H2 v1 r1 → q v1 H2) : LP K ma σ H q := by
  obtain ⟨W, env, fp, xf, Q0, E, S, hm, k⟩ := h
  refine ⟨W, env, fp, xf, _, E, S, hm, fun r1 h1 v1 W1' H1 t1' S1' o1' => ?_⟩
  obtain ⟨W1, t1, S1, _, o1⟩ := ffz_ok S t1' S1' o1'
  exact hop W fp xf Q0 r1.ffz v1 W1 H1 h1 ⟨S, t1, S1, k⟩ o1
theorem OwnAll.reps : ∀ {vs : List V} {ts : List OT} {ds : List D} {f : List Addr}, OwnAll K W H vs ts f → leaves ts = some ds → RepAll K W vs ds
  | _, _, _, _, .nil, h => by cases h; exact .nil
  | _, .leaf d :: ts, es, _, .cons (.leaf r) rs, h => by
    cases q : leaves ts with
    | none => rw [leaves, q] at h; cases h
    | some ds =>
      rw [leaves, q] at h
      cases h
      exact .cons r (OwnAll.reps rs q)
theorem els_L {ds : List D} (h : r.els true = some ds) (o : ResOk K H fp W2 H2 v r) (S : Sat K W2 H2 fp xf) : ∃ p vs, v = .ref p ∧ H2 p = some (.lst vs) ∧ RepAll K W2 vs ds := by
  unfold Rs.els at h
  split at h
  · cases h
    cases (show Rep K W2 v (.lst ds) from o) with
    | lst g r => exact ⟨_, _, rfl, S.sub _ _ g, r⟩
  · cases h
  · obtain ⟨f, o, _⟩ := o
    cases o with
    | lst g r => exact ⟨_, _, rfl, g, r.reps h⟩
  · obtain ⟨f, o, _⟩ := o
    cases o with
    | lst g r => exact ⟨_, _, rfl, g, r.reps h⟩
  · cases h
  · cases h
  · cases h
theorem els_T {ds : List D} (h : r.els false = some ds) (o : ResOk K H fp W2 H2 v r) (S : Sat K W2 H2 fp xf) : ∃ p vs, v = .ref p ∧ H2 p = some (.tup vs) ∧ RepAll K W2 vs ds := by
  unfold Rs.els at h
  split at h
  · cases h
  · cases h
    cases (show Rep K W2 v (.tup ds) from o) with
    | tup g r => exact ⟨_, _, rfl, S.sub _ _ g, r⟩
  · cases h
  · cases h
  · obtain ⟨f, o, _⟩ := o
    cases o with
    | tup g r => exact ⟨_, _, rfl, g, r.reps h⟩
  · obtain ⟨f, o, _⟩ := o
    cases o with
    | tup g r => exact ⟨_, _, rfl, g, r.reps h⟩
  · cases h
theorem RepAll.len {vs : List V} {ds : List D} (h : RepAll K W vs ds) : vs.length = ds.length := by
  induction ds generalizing vs with
  | nil => cases h; rfl
  | cons d ds ih =>
    cases h with
    | cons r rs => rw [List.length_cons, List.length_cons, ih rs]
theorem RepAll.app : ∀ {vs us : List V} {ds es : List D}, RepAll K W vs ds → RepAll K W us es → RepAll K W (vs ++ us) (ds ++ es)
  | _, _, _, _, .nil, h => h
  | _, _, _, _, .cons r rs, h => .cons r (RepAll.app rs h)
theorem RepAll.rep {vs : List V} {ds : List D} (h : RepAll K W vs ds) : ∀ n : Nat, RepAll K W (List.replicate n vs).flatten (List.replicate n ds).flatten
  | 0 => .nil
  | n + 1 => by
    rw [List.replicate_succ, List.replicate_succ, List.flatten_cons, List.flatten_cons]
    exact RepAll.app h (RepAll.rep h n)
theorem int_of {i : Int} (h : ResOk K H fp W' H' v (.fz (.int i))) : v = .int i := by
  have h : Rep K W' v (.int i) := h
  cases h
  rfl
theorem bl_of {i : Bool} (h : ResOk K H fp W' H' v (.fz (.bl i))) : v = .bl i := by
  have h : Rep K W' v (.bl i) := h
  cases h
  rfl
theorem str_of {i : Str} (h : ResOk K H fp W' H' v (.fz (.str i))) : v = .str i := by
  have h : Rep K W' v (.str i) := h
  cases h
  rfl
theorem i2_inv {C : Int → Int → Prop} {g : Int → Int → D} {x y : Rs} {Q : Rs → Prop} (h : i2 C g x y Q) : ∃ i j, x = .fz (.int i) ∧ y = .fz (.int j) ∧ C i j ∧ Q (.fz (g i j)) := by
  unfold i2 at h
  split at h
  · exact ⟨_, _, rfl, rfl, h⟩
  · exact h.elim
theorem EnvOk.get0 {σ : L2.St} {fp0 xf0 : List Addr} (E : EnvOk K W H σ env fp0 xf0) : ∀ {i : Nat} {r : Rs}, env[i]? = some (some r) → (∀ a ∈ fp0, W.S a = none) → (∀ a ∈ xf0, W.S a = none ∧ a ∉ fp) → ∃ v, σ[i]? = some (some v) ∧ ResOk K H fp W H v r.rd ∧ (∀ d, r = .fz d → Rep K W v d) := by
  induction E with
  | nil => intro _ _ e; simp at e
  | no _ ih =>
    intro i r e a b
    cases i with
    | zero => simp at e
    | succ i => exact ih (by simpa using e) a b
  | fz q _ ih =>
    intro i r e a b
    cases i with
    | zero =>
      simp at e
      subst e
      exact ⟨_, rfl, q, fun d z => by cases z; exact q⟩
    | succ i => exact ih (by simpa using e) a b
  | nw q _ ih =>
    intro i r e a b
    cases i with
    | zero =>
      simp at e
      subst e
      exact ⟨_, rfl, ⟨_, q, fun c m => a c (List.mem_append_left _ m)⟩, fun d z => by cases z⟩
    | succ i => exact ih (by simpa using e) (fun c m => a c (List.mem_append_right _ m)) b
  | ex q _ ih =>
    intro i r e a b
    cases i with
    | zero =>
      simp at e
      subst e
      exact ⟨_, rfl, ⟨_, q, fun c m => b c (List.mem_append_left _ m)⟩, fun d z => by cases z⟩
    | succ i => exact ih (by simpa using e) a fun c m => b c (List.mem_append_right _ m)
theorem EnvOk.get {i : Nat} {σ : L2.St} (E : EnvOk K W H σ env fp xf) (e : env[i]? = some (some r)) (S : Sat K W H fp xf) : ∃ v, σ[i]? = some (some v) ∧ ResOk K H fp W H v r.rd ∧ (∀ d, r = .fz d → Rep K W v d) :=
  E.get0 e (fun a m => (S.off a m).2.1) fun a m => ⟨(S.xof a m).2.1, (S.xof a m).1⟩
end
section
variable {X : Cx} {a b c : Expr} {ma mb mc : DE} {pos : Pos} {ta tb : DT} {rest : List Expr}
theorem dp_var {i : Nat} {x : Str} (hN : X.N[i]? = some x := by rfl) (hv : Vis X.env.scope x := by first | exact Or.inl rfl | exact Or.inr (Or.inl rfl) | exact Or.inr (Or.inr rfl)) (hd : (x == ("__debug__" : Str)) = false := by decide)
    (hcd : (x == ("__classdict__" : Str)) = false := by decide) : PE X (.Name x pos) (LP X.K (mVar i)) := pe_imp (pe_var (i := i) hN hv hd hcd) fun σ H Q h => by
  obtain ⟨W, env, fp, xf, Q0, E, S, ⟨r, e, hm⟩, k⟩ := h
  obtain ⟨v, e2, o, _⟩ := E.get e S
  exact ⟨v, e2, k _ hm v W H .refl S o⟩
theorem dp_c {d : D} {v : V} {e : Expr} (h : PE X e (tC v)) (r : ∀ W, Rep X.K W v d) : PE X e (LP X.K (mC d)) := pe_imp h fun σ H Q h => by
  obtain ⟨W, env, fp, xf, Q0, E, S, hm, k⟩ := h
  exact k _ hm v W H .refl S (r W)
theorem dp_int {i j pos} : PE X (.Constant (.int i) j pos) (LP X.K (mC (.int i))) := dp_c pe_int fun _ => .int i
theorem dp_bl {i j pos} : PE X (.Constant (.bool i) j pos) (LP X.K (mC (.bl i))) := dp_c pe_bl fun _ => .bl i
theorem dp_non {j pos} : PE X (.Constant .none j pos) (LP X.K (mC .non)) := dp_c pe_non fun _ => .non
theorem dp_str {i j pos} : PE X (.Constant (.str i) j pos) (LP X.K (mC (.str i))) := dp_c pe_str fun _ => .str i
theorem dp_glob {x : Str} {v : V} {u : Value} {d : D} (hg : Gl X x) (hm : X.mg x = some u) (r : RelV v u) (q : ∀ W, Rep X.K W v d) (hd : (x == ("__debug__" : Str)) = false := by decide) : PE X (.Name x pos) (LP X.K (mC d)) := dp_c (pe_glob hg hm r hd) q
theorem r_i2 {K : PySem.W.Frag} {σ : L2.St} {H : Hp} {Q : VK} {C C' : Int → Int → Prop} {g : Int → Int → D} {g' : Int → Int → V} (hC : ∀ i j, C i j → C' i j) (hg : ∀ i j W, C i j → Rep K W (g' i j) (g i j)) (h : LP K (mOp (i2 C g) ma mb) σ H Q) : tOp (rI C' g') (LP K ma) (LP K mb) σ H Q :=
  h.two fun W fp xf Q0 r1 r2 v1 v2 W2 H2 hr O o1 o2 => by
    obtain ⟨i, j, rfl, rfl, hc, q⟩ := i2_inv hr
    exact ⟨i, j, int_of o1, int_of o2, hC i j hc, O.fin q (hg i j W2 hc)⟩
theorem r_i0 {K : PySem.W.Frag} {σ : L2.St} {H : Hp} {Q : VK} {C : Int → Int → Prop} {g : Int → Int → D} {g' : Int → Int → V} (hg : ∀ i j W, C i j → Rep K W (g' i j) (g i j)) (h : LP K (mOp (i2 C g) ma mb) σ H Q) : tOp (rI0 g') (LP K ma) (LP K mb) σ H Q :=
  h.two fun W fp xf Q0 r1 r2 v1 v2 W2 H2 hr O o1 o2 => by
    obtain ⟨i, j, rfl, rfl, hc, q⟩ := i2_inv hr
    exact ⟨i, j, int_of o1, int_of o2, O.fin q (hg i j W2 hc)⟩
theorem dp_sub (ha : PE X a (LP X.K ma)) (hb : PE X b (LP X.K mb)) : PE X (.BinOp a .Sub b pos) (LP X.K (mOp oSub ma mb)) := pe_imp (pe_op op_sub ha hb) fun _ _ _ h => r_i0 (fun _ _ _ _ => .int _) h
theorem dp_mod (ha : PE X a (LP X.K ma)) (hb : PE X b (LP X.K mb)) : PE X (.BinOp a .Mod b pos) (LP X.K (mOp oMod ma mb)) := pe_imp (pe_op op_mod ha hb) fun _ _ _ h => r_i2 (fun _ _ c => c) (fun _ _ _ _ => .int _) h
theorem dp_div (ha : PE X a (LP X.K ma)) (hb : PE X b (LP X.K mb)) : PE X (.BinOp a .FloorDiv b pos) (LP X.K (mOp oDiv ma mb)) := pe_imp (pe_op op_fdivW ha hb) fun _ _ _ h => r_i2 (fun _ _ c => c) (fun _ _ _ _ => .int _) h
theorem dp_pow (ha : PE X a (LP X.K ma)) (hb : PE X b (LP X.K mb)) : PE X (.BinOp a .Pow b pos) (LP X.K (mOp oPow ma mb)) := pe_imp (pe_op op_pow ha hb) fun _ _ _ h => r_i2 (fun _ _ c => c) (fun _ _ _ _ => .int _) h
theorem dp_lt (ha : PE X a (LP X.K ma)) (hb : PE X b (LP X.K mb)) : PE X (.Compare a [.Lt] [b] pos) (LP X.K (mOp oLt ma mb)) := pe_imp (pe_cmpR op_lt ha hb (nomark _)) fun _ _ _ h => r_i0 (fun _ _ _ _ => .bl _) h
theorem dp_le (ha : PE X a (LP X.K ma)) (hb : PE X b (LP X.K mb)) : PE X (.Compare a [.LtE] [b] pos) (LP X.K (mOp oLe ma mb)) := pe_imp (pe_cmpR op_le ha hb (nomark _)) fun _ _ _ h => r_i0 (fun _ _ _ _ => .bl _) h
theorem dp_ge (ha : PE X a (LP X.K ma)) (hb : PE X b (LP X.K mb)) : PE X (.Compare a [.GtE] [b] pos) (LP X.K (mOp oGe ma mb)) := pe_imp (pe_cmpR op_ge ha hb (nomark _)) fun _ _ _ h => r_i0 (fun _ _ _ _ => .bl _) h
theorem dt_val {e : Expr} (h : PE X e (LP X.K ma)) (he : ∀ whole, isTrue e X.env whole = (do let v ← whole; standAt e.pos; holding [v] (truthy v)) := by intro _; rfl) : PT X e (LT X.K (mT ma)) := pt_imp (pt_val h he) fun σ H Q h => by
  obtain ⟨W, env, fp, xf, Q0, E, S, hm, k⟩ := h
  refine ⟨W, env, fp, xf, _, E, S, hm, fun r1 h1 v1 W1 H1 t1 S1 o1 => ?_⟩
  split at h1
  · exact ⟨_, bl_of o1, k _ h1 W1 H1 t1 S1⟩
  · exact h1.elim
theorem sizeL_eq : sizeL = sizeLine := sizeLine_eq.symm
def rAddAll (K : PySem.W.Frag) : R2 := fun x y H Q => (rI0 (fun i j => .int (i + j))) x y H Q ∨ (∃ i j, x = .str i ∧ y = .str j ∧ i.length + j.length ≤ sizeLine ∧ Q (.str (i ++ j)) H) ∨ rCat x y H Q ∨ rCatT K x y H Q
theorem op_addAll : OpR X (binaryOp .Add) (rAddAll X.K) := op_add.or (op_add_str.or (op_cat.or op_catT))
theorem dp_add (ha : PE X a (LP X.K ma)) (hb : PE X b (LP X.K mb)) : PE X (.BinOp a .Add b pos) (LP X.K (mOp oAdd ma mb)) := pe_imp (pe_op op_addAll ha hb) fun σ H Q h =>
  h.two fun W fp xf Q0 r1 r2 v1 v2 W2 H2 hr O o1 o2 => by
    unfold oAdd at hr
    split at hr
    · exact .inl ⟨_, _, int_of o1, int_of o2, O.fin hr (.int _)⟩
    · exact .inr (.inl ⟨_, _, str_of o1, str_of o2, by rw [← sizeL_eq]; exact hr.1, O.fin hr.2 (.str _)⟩)
    · rcases hr with ⟨ds, es, e1, e2, hl, q⟩ | ⟨ds, es, e1, e2, n1, n2, hl, q⟩
      · obtain ⟨p, vs, rfl, g1, s1⟩ := els_L e1 o1 O.S2
        obtain ⟨p2, us, rfl, g2, s2⟩ := els_L e2 o2 O.S2
        exact .inr (.inr (.inl ⟨p, p2, vs, us, rfl, rfl, g1, g2, by rw [← sizeL_eq, s1.len, s2.len]; exact hl, fun l n => O.newL q (s1.app s2) l n⟩))
      · obtain ⟨p, vs, rfl, g1, s1⟩ := els_T e1 o1 O.S2
        obtain ⟨p2, us, rfl, g2, s2⟩ := els_T e2 o2 O.S2
        have m1 : vs ≠ [] := fun z => n1 (List.eq_nil_of_length_eq_zero (by rw [← s1.len, z] <;> rfl))
        have m2 : us ≠ [] := fun z => n2 (List.eq_nil_of_length_eq_zero (by rw [← s2.len, z] <;> rfl))
        exact .inr (.inr (.inr ⟨p, p2, vs, us, rfl, rfl, .of g1, .of g2, m1, by rw [← sizeL_eq, s1.len, s2.len]; exact hl, fun z => absurd z m2, fun _ l n => O.newT q (s1.app s2) l n⟩))
def rMulAll : R2 := fun x y H Q => (rI CMul fun i j => .int (i * j)) x y H Q ∨ rRep x y H Q
theorem op_mulAll : OpR X (binaryOp .Mult) rMulAll := op_mul.or op_rep
theorem dp_mul (ha : PE X a (LP X.K ma)) (hb : PE X b (LP X.K mb)) : PE X (.BinOp a .Mult b pos) (LP X.K (mOp oMul ma mb)) := pe_imp (pe_op op_mulAll ha hb) fun σ H Q h =>
  h.two fun W fp xf Q0 r1 r2 v1 v2 W2 H2 hr O o1 o2 => by
    unfold oMul at hr
    split at hr
    · exact .inl ⟨_, _, int_of o1, int_of o2, hr.1, O.fin hr.2 (.int _)⟩
    · obtain ⟨ds, e, k1, k2, k3, q⟩ := hr
      obtain ⟨p, vs, rfl, g1, s1⟩ := els_L e o1 O.S2
      exact .inr ⟨p, _, vs, rfl, int_of o2, g1, k1, k2, by rw [← sizeL_eq, s1.len]; exact k3, fun l n => O.newL q (s1.rep _) l n⟩
    · exact hr.elim
theorem dp_neg (ha : PE X a (LP X.K ma)) : PE X (.UnaryOp .USub a pos) (LP X.K (mUn oNeg ma)) := pe_imp (pe_un un_neg ha) fun σ H Q h =>
  h.one fun W fp xf Q0 r1 v1 W2 H2 hr O o1 => by
    unfold oNeg at hr
    split at hr
    · exact ⟨_, int_of o1, O.fin hr (.int _)⟩
    · exact hr.elim
end
end R
namespace R
open PySem PySem.Spec PyProof.Rows L2
section
variable {K : PySem.W.Frag} {W W1 W2 W' : Wd} {H H1 H2 H' : Hp} {f f1 fp xf : List Addr} {σ : L2.St} {Q : VK} {r : Rs} {v : V} {env : Env}
theorem ResOk.own (o : ResOk K H fp W2 H2 v r) : ∃ f, Own K W2 H2 v r.t f := by
  cases r with
  | fz d => exact ⟨[], .leaf o⟩
  | nw t => obtain ⟨f, o, _⟩ := o; exact ⟨f, o⟩
  | br t => obtain ⟨f, o, _⟩ := o; exact ⟨f, o⟩
  | ex t => obtain ⟨f, o, _⟩ := o; exact ⟨f, o⟩
theorem non_iff (o : ResOk K H fp W2 H2 v r) : decide (v = .non) = r.isNon := by
  obtain ⟨f, o⟩ := o.own
  unfold Rs.isNon
  generalize r.t = t at o
  cases o with
  | leaf r => cases r <;> rfl
  | lst _ _ => rfl
  | tup _ _ => rfl
  | ins _ _ => rfl
  | d0 _ => rfl
  | xo _ => rfl
  | dk _ _ => rfl
theorem kids_ok {ts : List OT} (h : r.t.kids = some ts) (o : ResOk K H fp W2 H2 v r) (S : Sat K W2 H2 fp xf) : ∃ p vs f, v = .ref p ∧ (SqL K H2 p vs ∨ SqT K H2 p vs) ∧ OwnAll K W2 H2 vs ts f ∧
    (match r with | .ex _ => ∀ a ∈ f, W2.S a = none ∧ a ∉ fp | .fz _ => f = [] | _ => ∀ a ∈ f, W2.S a = none) := by
  have lf : ∀ {d : D}, Rep K W2 v d → (OT.leaf d).kids = some ts → ∃ p vs, v = .ref p ∧ (SqL K H2 p vs ∨ SqT K H2 p vs) ∧ OwnAll K W2 H2 vs ts [] := by
    intro d q h
    cases q with
    | lst g r => cases h; exact ⟨_, _, rfl, .inl (.of (S.sub _ _ g)), OwnAll.leafs (vs := []) r⟩
    | tup g r => cases h; exact ⟨_, _, rfl, .inr (.of (S.sub _ _ g)), OwnAll.leafs (vs := []) r⟩
    | rol g r => cases h; exact ⟨_, _, rfl, .inl (SqL.mono S.sub g), OwnAll.leafs (vs := []) r⟩
    | non => cases h
    | bl _ => cases h
    | int _ => cases h
    | str _ => cases h
    | ins _ _ => cases h
    | vol _ => cases h
    | dct _ _ => cases h
    | any _ => cases h
    | adr _ => cases h
    | cod _ => cases h
    | obj _ _ => cases h
  have own : ∀ {t : OT} {f : List Addr}, Own K W2 H2 v t f → t.kids = some ts → ∃ p vs f', v = .ref p ∧ (SqL K H2 p vs ∨ SqT K H2 p vs) ∧ OwnAll K W2 H2 vs ts f' ∧ ∀ a ∈ f', a ∈ f := by
    intro t f o h
    cases o with
    | leaf q =>
      obtain ⟨p, vs, e, s, w⟩ := lf q h
      exact ⟨p, vs, [], e, s, w, fun _ m => by cases m⟩
    | lst g r => cases h; exact ⟨_, _, _, rfl, .inl (.of g), r, fun _ m => List.mem_cons_of_mem _ m⟩
    | tup g r => cases h; exact ⟨_, _, _, rfl, .inr (.of g), r, fun _ m => List.mem_cons_of_mem _ m⟩
    | ins _ _ => cases h
    | d0 _ => cases h
    | xo _ => cases h
    | dk _ _ => cases h
  cases r with
  | fz d =>
    obtain ⟨p, vs, e, s, w⟩ := lf o h
    exact ⟨p, vs, [], e, s, w, rfl⟩
  | nw t =>
    obtain ⟨f, o, z⟩ := o
    obtain ⟨p, vs, f', e, s, w, i⟩ := own o h
    exact ⟨p, vs, f', e, s, w, fun a m => (z.2 a (i a m)).2.2⟩
  | br t =>
    obtain ⟨f, o, z⟩ := o
    obtain ⟨p, vs, f', e, s, w, i⟩ := own o h
    exact ⟨p, vs, f', e, s, w, fun a m => z a (i a m)⟩
  | ex t =>
    obtain ⟨f, o, z⟩ := o
    obtain ⟨p, vs, f', e, s, w, i⟩ := own o h
    exact ⟨p, vs, f', e, s, w, fun a m => z a (i a m)⟩
theorem OwnAll.len : ∀ {vs : List V} {ts : List OT} {f : List Addr}, OwnAll K W H vs ts f → vs.length = ts.length
  | _, _, _, .nil => rfl
  | _, _, _, .cons _ r => by rw [List.length_cons, List.length_cons, OwnAll.len r]
theorem OwnAll.get : ∀ {vs : List V} {ts : List OT} {f : List Addr} {i : Nat} {t : OT}, OwnAll K W H vs ts f → ts[i]? = some t → ∃ v g, vs[i]? = some v ∧ Own K W H v t g ∧ ∀ a ∈ g, a ∈ f
  | _, _, _, _, _, .nil, h => by simp at h
  | _, _, _, 0, _, .cons o _, h => by
    simp at h
    subst h
    exact ⟨_, _, rfl, o, fun _ m => List.mem_append_left _ m⟩
  | _, _, _, i + 1, _, .cons _ r, h => by
    obtain ⟨v, g, e, o, z⟩ := OwnAll.get (i := i) r (by simpa using h)
    exact ⟨v, g, by simpa using e, o, fun a m => List.mem_append_right _ (z a m)⟩
theorem kid_ok {ts : List OT} {t : OT} {i : Int} (h : r.t.kids = some ts) (e : at' ts i = some t) (o : ResOk K H fp W2 H2 v r) (S : Sat K W2 H2 fp xf) :
    ∃ p vs u, v = .ref p ∧ (SqL K H2 p vs ∨ SqT K H2 p vs) ∧ atI vs i = some u ∧ ResOk K H fp W2 H2 u (r.kid t) := by
  obtain ⟨p, vs, f, ev, s, w, z⟩ := kids_ok h o S
  have e' := e
  unfold at' at e'
  cases q : ixN' ts.length i with
  | none => rw [q] at e'; cases e'
  | some j =>
    rw [q] at e'
    obtain ⟨u, g, eu, ow, i2⟩ := w.get (show ts[j]? = some t from e')
    refine ⟨p, vs, u, ev, s, ?_, ?_⟩
    · show (ixN' vs.length i).bind (fun j => vs[j]?) = some u
      rw [w.len, q]
      exact eu
    · have lf : ∀ d, t = .leaf d → Rep K W2 u d := by
        intro d e
        subst e
        cases ow with
        | leaf q => exact q
      cases r with
      | fz d =>
        have z : f = [] := z
        subst z
        cases t with
        | leaf d => exact lf d rfl
        | lst _ => exact ⟨g, ow, fun a m => absurd (i2 a m) (by simp)⟩
        | tup _ => exact ⟨g, ow, fun a m => absurd (i2 a m) (by simp)⟩
        | ins _ _ _ => exact ⟨g, ow, fun a m => absurd (i2 a m) (by simp)⟩
        | d0 => exact ⟨g, ow, fun a m => absurd (i2 a m) (by simp)⟩
        | xo => exact ⟨g, ow, fun a m => absurd (i2 a m) (by simp)⟩
        | dk _ _ => exact ⟨g, ow, fun a m => absurd (i2 a m) (by simp)⟩
      | nw x =>
        cases t with
        | leaf d => exact lf d rfl
        | lst _ => exact ⟨g, ow, fun a m => z a (i2 a m)⟩
        | tup _ => exact ⟨g, ow, fun a m => z a (i2 a m)⟩
        | ins _ _ _ => exact ⟨g, ow, fun a m => z a (i2 a m)⟩
        | d0 => exact ⟨g, ow, fun a m => z a (i2 a m)⟩
        | xo => exact ⟨g, ow, fun a m => z a (i2 a m)⟩
        | dk _ _ => exact ⟨g, ow, fun a m => z a (i2 a m)⟩
      | br x =>
        cases t with
        | leaf d => exact lf d rfl
        | lst _ => exact ⟨g, ow, fun a m => z a (i2 a m)⟩
        | tup _ => exact ⟨g, ow, fun a m => z a (i2 a m)⟩
        | ins _ _ _ => exact ⟨g, ow, fun a m => z a (i2 a m)⟩
        | d0 => exact ⟨g, ow, fun a m => z a (i2 a m)⟩
        | xo => exact ⟨g, ow, fun a m => z a (i2 a m)⟩
        | dk _ _ => exact ⟨g, ow, fun a m => z a (i2 a m)⟩
      | ex x =>
        cases t with
        | leaf d => exact lf d rfl
        | lst _ => exact ⟨g, ow, fun a m => z a (i2 a m)⟩
        | tup _ => exact ⟨g, ow, fun a m => z a (i2 a m)⟩
        | ins _ _ _ => exact ⟨g, ow, fun a m => z a (i2 a m)⟩
        | d0 => exact ⟨g, ow, fun a m => z a (i2 a m)⟩
        | xo => exact ⟨g, ow, fun a m => z a (i2 a m)⟩
        | dk _ _ => exact ⟨g, ow, fun a m => z a (i2 a m)⟩
end
section
variable {X : Cx} {a b c : Expr} {ma mb mc : DE} {pos : Pos} {ta tb : DT} {rest : List Expr} {es : List Expr} {mr : DA}
theorem dp_ix (ha : PE X a (LP X.K ma)) (hb : PE X b (LP X.K mb)) (hs : PlainIx b := by exact fun _ _ => rfl) : PE X (.Subscript a b pos) (LP X.K (mOp oIx ma mb)) := pe_imp (pe_ix ix_seq ha hb hs) fun σ H Q h =>
  h.two fun W fp xf Q0 r1 r2 v1 v2 W2 H2 hr O o1 o2 => by
    have key : ∀ {i : Int} {ts : List OT} {t : OT}, r1.t.kids = some ts → at' ts i = some t → r2 = .fz (.int i) → Q0 (r1.kid t) → rIx X.K v1 v2 H2 Q := by
      intro i ts t e1 e2 e3 q
      obtain ⟨p, vs, u, rfl, s, au, ou⟩ := kid_ok e1 e2 o1 O.S2
      have ei : v2 = .int i := int_of (by rw [e3] at o2; exact o2)
      rcases s with s | s
      · exact .inl ⟨p, vs, i, u, rfl, ei, s, au, O.res q ou⟩
      · exact .inr (.inl ⟨p, vs, i, u, rfl, ei, s, au, O.res q ou⟩)
    have lf : ∀ {ds : List D} {d : D} {i : Int}, at' ds i = some d → at' (ds.map OT.leaf) i = some (.leaf d) := by
      intro ds d i e
      rw [at_map, e]
      rfl
    unfold oIx at hr
    split at hr
    · obtain ⟨d, e, q⟩ := hr
      exact key rfl (lf e) rfl q
    · obtain ⟨d, e, q⟩ := hr
      exact key rfl (lf e) rfl q
    · obtain ⟨d, e, q⟩ := hr
      exact key rfl (lf e) rfl q
    · obtain ⟨hl, c, e, q⟩ := hr
      exact .inr (.inr ⟨_, _, c, str_of o1, int_of o2, by rw [← sizeL_eq]; exact hl, e, O.fin q (.str _)⟩)
    · rename_i ps i
      obtain ⟨h0, h3, q⟩ := hr
      cases (show Rep X.K W2 v1 (.vol 0 ps) from o1) with
      | vol s =>
        obtain ⟨_, o, g, x, y, z, e⟩ := O.S2.vol _ _ _ s
        subst e
        have hi : i = 0 ∨ i = 1 ∨ i = 2 := by omega
        rcases hi with rfl | rfl | rfl
        · exact .inl ⟨_, _, 0, .int x, rfl, int_of o2, .of g, rfl, O.fin (q x) (.int _)⟩
        · exact .inl ⟨_, _, 1, .int y, rfl, int_of o2, .of g, rfl, O.fin (q y) (.int _)⟩
        · exact .inl ⟨_, _, 2, .int z, rfl, int_of o2, .of g, rfl, O.fin (q z) (.int _)⟩
    · obtain ⟨ts, t, e1, e2, q⟩ := hr
      exact key e1 e2 rfl q
    · exact hr.elim
theorem lt_lp {K : PySem.W.Frag} {m : DE} {σ : L2.St} {H : Hp} {Q : Bool → Hp → Prop} (h : LT K (mT m) σ H Q) : LP K m σ H fun x H' => ∃ k, x = .bl k ∧ Q k H' := by
  obtain ⟨W, env, fp, xf, Q0, E, S, hm, k⟩ := h
  refine ⟨W, env, fp, xf, _, E, S, hm, fun r1 h1 v1 W1 H1 t1 S1 o1 => ?_⟩
  split at h1
  · exact ⟨_, bl_of o1, k _ h1 W1 H1 t1 S1⟩
  · exact h1.elim
theorem dt_of {op : CmpOp} {r : R2} {R : Rs → Rs → (Rs → Prop) → Prop} (ho : OpR X (compareOp op) r) (I : ∀ σ H Q, LP X.K (mOp R ma mb) σ H Q → tOp r (LP X.K ma) (LP X.K mb) σ H Q) (ha : PE X a (LP X.K ma)) (hb : PE X b (LP X.K mb))
    (hm : behindInMarks op b = false) : PT X (.Compare a [op] [b] pos) (LT X.K (mT (mOp R ma mb))) := pt_imp (pt_cmpR ho ha hb hm) fun σ H Q h => I σ H _ (lt_lp h)
theorem dt_lt (ha : PE X a (LP X.K ma)) (hb : PE X b (LP X.K mb)) : PT X (.Compare a [.Lt] [b] pos) (LT X.K (mT (mOp oLt ma mb))) := dt_of op_lt (fun _ _ _ h => r_i0 (fun _ _ _ _ => .bl _) h) ha hb (nomark _)
theorem dt_gt (ha : PE X a (LP X.K ma)) (hb : PE X b (LP X.K mb)) : PT X (.Compare a [.Gt] [b] pos) (LT X.K (mT (mOp oGt ma mb))) := dt_of op_gt (fun _ _ _ h => r_i0 (fun _ _ _ _ => .bl _) h) ha hb (nomark _)
theorem dt_ge (ha : PE X a (LP X.K ma)) (hb : PE X b (LP X.K mb)) : PT X (.Compare a [.GtE] [b] pos) (LT X.K (mT (mOp oGe ma mb))) := dt_of op_ge (fun _ _ _ h => r_i0 (fun _ _ _ _ => .bl _) h) ha hb (nomark _)
theorem dt_isN {j pos'} (ha : PE X a (LP X.K ma)) : PT X (.Compare a [.Is] [.Constant .none j pos'] pos) (LT X.K (mT (mUn (oIsN false) ma))) := pt_imp (pt_cmp (pc_isN ha) rfl) fun σ H Q h =>
  (lt_lp h).one fun W fp xf Q0 r1 v1 W2 H2 hr O o1 => by
    refine O.fin (v := .bl (decide (v1 = .non))) hr ?_
    rw [non_iff o1, Bool.bne_false]
    exact .bl _
theorem LT.next {K : PySem.W.Frag} {t : DT} {σ : L2.St} {H : Hp} {W : Wd} {env : Env} {fp xf : List Addr} {Q1 : Bool → Prop} {q : Bool → Hp → Prop} (E : EnvOk K W H σ env fp xf) (S : Sat K W H fp xf) (h : t env Q1)
    (k : ∀ b, Q1 b → ∀ W1 H1, Stp W H [] W1 H1 → Sat K W1 H1 fp xf → EnvOk K W1 H1 σ env fp xf → q b H1) : LT K t σ H q :=
  ⟨W, env, fp, xf, Q1, E, S, h, fun b hb W1 H1 t1 S1 => k b hb W1 H1 t1 S1 (E.keep S t1)⟩
theorem dw_or1 {p : Pos} (h : PT X a (LT X.K ta)) : PW X (.BoolOp .Or [a] p) (LT X.K ta) := pw_or1 h
theorem dw_or (ha : PT X a (LT X.K ta)) (hb : PW X (.BoolOp .Or (b :: rest) pos) (LT X.K tb)) : PW X (.BoolOp .Or (a :: b :: rest) pos) (LT X.K (mOr ta tb)) := pw_imp (pw_or ha hb) fun σ H Q h => by
  obtain ⟨W, env, fp, xf, Q0, E, S, hm, k⟩ := h
  refine LT.next E S hm fun c hc W1 H1 t1 S1 E1 => ?_
  cases c with
  | true => exact iteT (k true hc W1 H1 t1 S1)
  | false => exact iteF (LT.next E1 S1 (show tb env Q0 from hc) fun c hc W2 H2 t2 S2 _ => k c hc W2 H2 (t1.tr0 t2) S2)
theorem dt_not (h : PT X a (LT X.K ta)) : PT X (.UnaryOp .Not a pos) (LT X.K (mNot ta)) := pt_imp (pt_not h) fun σ H Q h => by
  obtain ⟨W, env, fp, xf, Q0, E, S, hm, k⟩ := h
  exact LT.next E S hm fun c hc W1 H1 t1 S1 E1 => k _ hc W1 H1 t1 S1
theorem LP.next {K : PySem.W.Frag} {m : DE} {σ : L2.St} {H : Hp} {W : Wd} {env : Env} {fp xf : List Addr} {Q1 : Rs → Prop} {q : V → Hp → Prop} (E : EnvOk K W H σ env fp xf) (S : Sat K W H fp xf) (h : m env Q1)
    (k : ∀ r, Q1 r → ∀ v W1 H1, Stp W H [] W1 H1 → Sat K W1 H1 fp xf → EnvOk K W1 H1 σ env fp xf → ResOk K H fp W1 H1 v r → q v H1) : LP K m σ H q :=
  ⟨W, env, fp, xf, Q1, E, S, h, fun r hr v W1 H1 t1 S1 o => k r hr v W1 H1 t1 S1 (E.keep S t1) o⟩
theorem dp_if (hc : PT X c (LT X.K ta)) (ha : PE X a (LP X.K ma)) (hb : PE X b (LP X.K mb)) : PE X (.IfExp c a b pos) (LP X.K (mIf ta ma mb)) := pe_imp (pe_ifExp hc ha hb) fun σ H Q h => by
  obtain ⟨W, env, fp, xf, Q0, E, S, hm, k⟩ := h
  refine LT.next E S hm fun c hc W1 H1 t1 S1 E1 => ?_
  cases c with
  | true => exact iteT (LP.next E1 S1 (show ma env Q0 from hc) fun r hr v W2 H2 t2 S2 _ o => k r hr v W2 H2 (t1.tr0 t2) S2 (o.back t1.al))
  | false => exact iteF (LP.next E1 S1 (show mb env Q0 from hc) fun r hr v W2 H2 t2 S2 _ o => k r hr v W2 H2 (t1.tr0 t2) S2 (o.back t1.al))
theorem dp_one {op : BoolOp} (h : PE X a (LP X.K ma)) : PE X (.BoolOp op [a] pos) (LP X.K ma) := pe_one h
theorem dp_and (ha : PE X a (LP X.K ma)) (hb : PE X (.BoolOp .And (b :: rest) pos) (LP X.K mb)) : PE X (.BoolOp .And (a :: b :: rest) pos) (LP X.K (mAndV ma mb)) := pe_imp (pe_and ha hb) fun σ H Q h => by
  obtain ⟨W, env, fp, xf, Q0, E, S, hm, k⟩ := h
  refine LP.next E S hm fun r hr v W1 H1 t1 S1 E1 o => ?_
  split at hr
  · rename_i c
    refine ⟨c, bl_of o, ?_⟩
    cases c with
    | true => exact iteT (LP.next E1 S1 (show mb env Q0 from hr) fun r hr v W2 H2 t2 S2 _ o => k r hr v W2 H2 (t1.tr0 t2) S2 (o.back t1.al))
    | false => exact iteF (k _ hr _ W1 H1 t1 S1 (Rep.bl false))
  · exact hr.elim
theorem dp_not (ha : PE X a (LP X.K ma)) : PE X (.UnaryOp .Not a pos) (LP X.K (mNotV ma)) := pe_imp (pe_not ha) fun σ H Q h => by
  obtain ⟨W, env, fp, xf, Q0, E, S, hm, k⟩ := h
  refine LP.next E S hm fun r hr v W1 H1 t1 S1 E1 o => ?_
  split at hr
  · exact ⟨_, bl_of o, k _ hr _ W1 H1 t1 S1 (Rep.bl _)⟩
  · exact hr.elim
theorem dp_fz (ha : PE X a (LP X.K ma)) : PE X a (LP X.K (mFz ma)) := pe_imp ha fun σ H Q h => by
  obtain ⟨W, env, fp, xf, Q0, E, S, hm, k⟩ := h
  refine LP.next E S hm fun r hr v W1 H1 t1 S1 E1 o => ?_
  cases r with
  | fz d => exact k _ hr v W1 H1 t1 S1 o
  | nw t =>
    obtain ⟨d, z, q⟩ := hr
    obtain ⟨f, ow, nd, y⟩ := o
    obtain ⟨W', F, R, _⟩ := freeze ow z nd fun a m => (y a m).2
    have za : ∀ a ∈ f, a ∉ fp ∧ a ∉ xf := fun a m => ⟨fun m2 => (S.off a m2).2.2 (y a m).1, fun m2 => (S.xof a m2).2.2 (y a m).1⟩
    exact k _ q v W' H1 (t1.trans F.stp fun a m => .inr (y a m).1) (F.sat S1 (fun a m => ⟨(y a m).2.1, (y a m).2.2, ow.alloc a m⟩) za) R
  | br t => exact hr.elim
  | ex t => exact hr.elim
theorem da_nil : PA X [] (LA X.K mNil) := pa_imp pa_nil fun σ H Q h => by
  obtain ⟨W, env, fp, xf, Q0, E, S, hm, k⟩ := h
  exact k _ hm [] W H [] .refl S .nil ⟨List.nodup_nil, fun _ m => by cases m⟩
theorem ResAll.cells {K : PySem.W.Frag} {H : Hp} {fp : List Addr} {W' : Wd} {H' : Hp} {vs : List V} {rs : List Rs} {g : List Addr} (h : ResAll K H fp W' H' vs rs g) : ∀ a ∈ g, H' a ≠ none := by
  induction h with
  | nil => intro a m; cases m
  | fz _ _ ih => exact ih
  | nw o _ ih => intro a m; exact (List.mem_append.mp m).elim (o.alloc a) (ih a)
  | br _ _ _ ih => exact ih
  | ex _ _ _ ih => exact ih
theorem da_cons (ha : PE X a (LP X.K ma)) (hr : PA X es (LA X.K mr)) (hs : starEach (a :: es) X.env = (false, eval a X.env) :: starEach es X.env := by rfl) : PA X (a :: es) (LA X.K (mCons ma mr)) := pa_imp (pa_cons ha hr hs) fun σ H Q h => by
  obtain ⟨W, env, fp, xf, Q0, E, S, hm, k⟩ := h
  refine LP.next E S hm fun r hr v W1 H1 t1 S1 E1 o => ?_
  refine ⟨W1, env, fp, xf, _, E1, S1, hr, fun rs hq vs W2 H2 g t2 S2 os F => ?_⟩
  have l := t2.le S1 fun _ m => by cases m
  have o2 := o.keep t2 l
  have Fb := fresh_back F t1.al
  have os' : ResAll X.K H fp W2 H2 vs rs g := os.back
  cases r with
  | fz d => exact k _ hq _ W2 H2 g (t1.tr0 t2) S2 (.fz o2 os') Fb
  | nw t =>
    obtain ⟨f, ow, nd, z⟩ := o
    have ow2 := ow.mono l fun a m u e => t2.kp a u e (by simp) (z a m).2.2
    refine k _ hq _ W2 H2 (f ++ g) (t1.tr0 t2) S2 (.nw ow2 os') ⟨List.nodup_append.mpr ⟨nd, F.1, fun x m y m2 e => ?_⟩, fun a m => ?_⟩
    · subst e
      exact ow.alloc x m (F.2 x m2).1
    · rcases List.mem_append.mp m with m | m
      · obtain ⟨e1, e2⟩ := t2.kpS (ow.alloc a m)
        exact ⟨(z a m).1, e1.trans (z a m).2.1, e2.trans (z a m).2.2⟩
      · exact Fb.2 a m
  | br t =>
    obtain ⟨f, ow, z⟩ := o2
    exact k _ hq _ W2 H2 g (t1.tr0 t2) S2 (.br ow z os') Fb
  | ex t =>
    obtain ⟨f, ow, z⟩ := o2
    exact k _ hq _ W2 H2 g (t1.tr0 t2) S2 (.ex ow z os') Fb
theorem ResAll.items {K : PySem.W.Frag} {H : Hp} {fp : List Addr} {W' : Wd} {H' : Hp} : ∀ {rs : List Rs} {vs : List V} {g : List Addr} {ts : List OT}, ResAll K H fp W' H' vs rs g → items rs = some ts → OwnAll K W' H' vs ts g := by
  intro rs vs g ts h
  induction h generalizing ts with
  | nil => intro e; cases e; exact .nil
  | fz r _ ih =>
    rename_i d _ rs _ _
    intro e
    have e : (R.items rs).map (OT.leaf d :: ·) = some ts := e
    cases q : R.items rs with
    | none => rw [q] at e; cases e
    | some us => rw [q] at e; cases e; exact .cons (f := []) (.leaf r) (ih q)
  | nw r _ ih =>
    rename_i t _ _ rs _ _
    intro e
    have e : (R.items rs).map (t :: ·) = some ts := e
    cases q : R.items rs with
    | none => rw [q] at e; cases e
    | some us => rw [q] at e; cases e; exact .cons r (ih q)
  | br _ _ _ _ => intro e; cases e
  | ex _ _ _ _ => intro e; cases e
theorem new_node {K : PySem.W.Frag} {W W2 : Wd} {H H2 : Hp} {fp xf g : List Addr} {p : Addr} {o : HO} {vs : List V} {ts : List OT} (t : Stp W H [] W2 H2) (S : Sat K W2 H2 fp xf) (w : OwnAll K W2 H2 vs ts g) (F : Fresh H W2 g) (n : H2 p = none) :
    Stp W H [] W2 (upd H2 p o) ∧ Sat K W2 (upd H2 p o) fp xf ∧ OwnAll K W2 (upd H2 p o) vs ts g ∧ (p :: g).Nodup ∧ ∀ a ∈ p :: g, H a = none ∧ W2.G a = none ∧ W2.S a = none := by
  have hn : H p = none := by
    cases z : H p with
    | none => rfl
    | some u => exact absurd n (t.al p (some_ne z))
  refine ⟨t.tr0 (.new n), S.new n, w.mono (.refl _) fun a m u e => by rw [upd_ne (ne_of_none e n)]; exact e, List.nodup_cons.mpr ⟨fun m => w.alloc p m n, F.1⟩, fun a m => ?_⟩
  rcases List.mem_cons.mp m with e | m
  · rw [e]
    exact ⟨hn, (S.free n).1, (S.free n).2⟩
  · exact F.2 a m
theorem dp_lst (h : PA X es (LA X.K mr)) : PE X (.List es pos) (LP X.K (mLst mr)) := pe_imp (pe_lst h) fun σ H Q h => by
  obtain ⟨W, env, fp, xf, Q0, E, S, hm, k⟩ := h
  refine ⟨W, env, fp, xf, _, E, S, hm, fun rs ⟨ts, e, hl, q⟩ vs W2 H2 g t2 S2 os F => ?_⟩
  have w := os.items e
  refine ⟨by rw [← sizeL_eq, w.len]; exact hl, fun p n => ?_⟩
  obtain ⟨t3, S3, w3, nd, z⟩ := new_node (o := .lst vs) t2 S2 w F n
  exact k _ q _ W2 _ t3 S3 ⟨p :: g, .lst upd_same w3, nd, z⟩
theorem dp_tup {x1} (h : PA X es (LA X.K mr)) : PE X (.Tuple es x1 pos) (LP X.K (mTup mr)) := pe_imp (pe_tup h) fun σ H Q h => by
  obtain ⟨W, env, fp, xf, Q0, E, S, hm, k⟩ := h
  refine ⟨W, env, fp, xf, _, E, S, hm, fun rs ⟨ts, e, hl, q⟩ vs W2 H2 g t2 S2 os F => ?_⟩
  have w := os.items e
  refine ⟨by rw [← sizeL_eq, w.len]; exact hl, fun p n => ?_⟩
  obtain ⟨t3, S3, w3, nd, z⟩ := new_node (o := .tup vs) t2 S2 w F n
  exact k _ q _ W2 _ t3 S3 ⟨p :: g, .tup upd_same w3, nd, z⟩
end
end R
namespace R
open PySem PySem.Spec PyProof.Rows L2
section
variable {K : PySem.W.Frag} {W W1 W2 W' : Wd} {H H1 H2 H' : Hp} {f f1 fp xf : List Addr} {σ : L2.St} {Q : VK} {r : Rs} {v : V} {env : Env}
theorem ResAll.ffz {vs : List V} {rs : List Rs} {g : List Addr} (os : ResAll K H fp W2 H2 vs rs g) : ∀ {W3 : Wd}, W2.Le W3 → W3.S = W2.S → Sat K W H fp xf → Stp W H [] W3 H2 → Sat K W3 H2 fp xf → g.Nodup → (∀ a ∈ g, H a = none ∧ W3.G a = none ∧ W3.S a = none) →
    ∃ W4 g', Stp W H [] W4 H2 ∧ Sat K W4 H2 fp xf ∧ W3.Le W4 ∧ W4.S = W3.S ∧ ResAll K H fp W4 H2 vs (rs.map Rs.ffz) g' ∧ Fresh H W4 g' ∧ (∀ a ∈ g', a ∈ g) ∧ ∀ a, a ∉ g → W4.G a = W3.G a := by
  induction os with
  | nil => intro W3 l e S t S3 nd z; exact ⟨W3, [], t, S3, .refl _, rfl, .nil, ⟨List.nodup_nil, fun _ m => (by cases m)⟩, fun _ m => (by cases m), fun _ _ => rfl⟩
  | fz r _ ih =>
    intro W3 l e S t S3 nd z
    obtain ⟨W4, g', t4, S4, l4, e4, o4, F4, i4, k4⟩ := ih l e S t S3 nd z
    exact ⟨W4, g', t4, S4, l4, e4, .fz (r.mono (l.trans l4)) o4, F4, i4, k4⟩
  | br o y _ ih =>
    intro W3 l e S t S3 nd z
    obtain ⟨W4, g', t4, S4, l4, e4, o4, F4, i4, k4⟩ := ih l e S t S3 nd z
    exact ⟨W4, g', t4, S4, l4, e4, .br (o.mono (l.trans l4) fun _ _ _ q => q) (fun a m => by rw [e4, e]; exact y a m) o4, F4, i4, k4⟩
  | ex o y _ ih =>
    intro W3 l e S t S3 nd z
    obtain ⟨W4, g', t4, S4, l4, e4, o4, F4, i4, k4⟩ := ih l e S t S3 nd z
    exact ⟨W4, g', t4, S4, l4, e4, .ex (o.mono (l.trans l4) fun _ _ _ q => q) (fun a m => by rw [e4, e]; exact y a m) o4, F4, i4, k4⟩
  | nw o _ ih =>
    rename_i v x f vs rs g _
    intro W3 l e S t S3 nd z
    obtain ⟨n1, n2, n3⟩ := List.nodup_append.mp nd
    have zf : ∀ a ∈ f, H a = none ∧ W3.G a = none ∧ W3.S a = none := fun a m => z a (List.mem_append_left _ m)
    have zg : ∀ a ∈ g, H a = none ∧ W3.G a = none ∧ W3.S a = none := fun a m => z a (List.mem_append_right _ m)
    have dj : ∀ a ∈ f, a ∉ g := fun a m m2 => n3 a m a m2 rfl
    cases q : x.fzd with
    | none =>
      obtain ⟨W4, g', t4, S4, l4, e4, o4, F4, i4, k4⟩ := ih l e S t S3 n2 zg
      refine ⟨W4, f ++ g', t4, S4, l4, e4, ?_, ⟨List.nodup_append.mpr ⟨n1, F4.1, fun a m b m2 e => by subst e; exact dj a m (i4 a m2)⟩, fun a m => ?_⟩, fun a m => ?_, fun a m => k4 a fun m2 => m (List.mem_append_right _ m2)⟩
      · show ResAll K H fp W4 H2 _ ((match x.fzd with | some d => .fz d | none => .nw x) :: rs.map Rs.ffz) (f ++ g')
        rw [q]
        exact .nw (o.mono (l.trans l4) fun _ _ _ q => q) o4
      · rcases List.mem_append.mp m with m | m
        · exact ⟨(zf a m).1, (k4 a (dj a m)).trans (zf a m).2.1, by rw [e4]; exact (zf a m).2.2⟩
        · exact F4.2 a m
      · exact (List.mem_append.mp m).elim (List.mem_append_left _) fun m => List.mem_append_right _ (i4 a m)
    | some d =>
      have o3 := o.mono l fun _ _ _ q => q
      obtain ⟨W5, F, R, sk⟩ := freeze o3 (Fz.of q) n1 fun a m => (zf a m).2
      have e5 : W5.S = W3.S := sk (by rw [q]; exact fun z => nomatch z)
      have za : ∀ a ∈ f, a ∉ fp ∧ a ∉ xf := fun a m => ⟨fun m2 => (S.off a m2).2.2 (zf a m).1, fun m2 => (S.xof a m2).2.2 (zf a m).1⟩
      have l5 : W3.Le W5 := F.le fun a m => (zf a m).2
      have zg5 : ∀ a ∈ g, H a = none ∧ W5.G a = none ∧ W5.S a = none := fun a m => by
        have n : a ∉ f := fun m2 => dj a m2 m
        exact ⟨(zg a m).1, (F.out a n).1.trans (zg a m).2.1, by rw [e5]; exact (zg a m).2.2⟩
      obtain ⟨W4, g', t4, S4, l4, e4, o4, F4, i4, k4⟩ := ih (l.trans l5) (e5.trans e) S (t.trans F.stp fun a m => .inr (zf a m).1) (F.sat S3 (fun a m => ⟨(zf a m).2.1, (zf a m).2.2, o3.alloc a m⟩) za) n2 zg5
      refine ⟨W4, g', t4, S4, l5.trans l4, e4.trans e5, ?_, F4, fun a m => List.mem_append_right _ (i4 a m), fun a m => (k4 a fun m2 => m (List.mem_append_right _ m2)).trans (F.out a fun m2 => m (List.mem_append_left _ m2)).1⟩
      show ResAll K H fp W4 H2 _ ((match x.fzd with | some d => .fz d | none => .nw x) :: rs.map Rs.ffz) g'
      rw [q]
      exact .fz (R.mono l4) o4
theorem LA.next {m : DA} {Q1 : List Rs → Prop} {q : List V → Hp → Prop} (E : EnvOk K W H σ env fp xf) (S : Sat K W H fp xf) (h : m env Q1)
    (k : ∀ rs, Q1 rs → ∀ vs W1 H1 g, Stp W H [] W1 H1 → Sat K W1 H1 fp xf → EnvOk K W1 H1 σ env fp xf → ResAll K H fp W1 H1 vs rs g → Fresh H W1 g → q vs H1) : LA K m σ H q :=
  ⟨W, env, fp, xf, Q1, E, S, h, fun r hr v W1 H1 g t1 S1 o F => k r hr v W1 H1 g t1 S1 (E.keep S t1) o F⟩
theorem LA.ops {m : DA} {R : List Rs → (Rs → Prop) → Prop} {q : List V → Hp → Prop} (h : LP K (mB R m) σ H Q)
    (hop : ∀ (W : Wd) (fp xf : List Addr) (Q0 : Rs → Prop) rs vs W2 H2 g, R rs Q0 → Ops K H Q Q0 W2 H2 W fp xf → ResAll K H fp W2 H2 vs rs g → Fresh H W2 g → q vs H2) : LA K m σ H q := by
  obtain ⟨W, env, fp, xf, Q0, E, S, hm, k⟩ := h
  refine LA.next E S hm fun rs hr vs W1 H1 g t1 S1 E1 os F => ?_
  obtain ⟨W4, g', t4, S4, _, _, o4, F4, _, _⟩ := os.ffz (.refl _) rfl S t1 S1 F.1 F.2
  exact hop W fp xf Q0 _ vs W4 H1 g' hr ⟨S, t4, S4, k⟩ o4 F4
theorem ResAll.nil_inv {vs : List V} {g : List Addr} (h : ResAll K H fp W' H' vs [] g) : vs = [] ∧ g = [] := by
  cases h; exact ⟨rfl, rfl⟩
theorem ResAll.cons_inv {vs : List V} {rs : List Rs} {g : List Addr} (h : ResAll K H fp W' H' vs (r :: rs) g) (F : Fresh H W' g) : ∃ v us g', vs = v :: us ∧ ResOk K H fp W' H' v r ∧ ResAll K H fp W' H' us rs g' ∧ Fresh H W' g' := by
  cases h with
  | fz a b => exact ⟨_, _, _, rfl, a, b, F⟩
  | nw a b =>
    obtain ⟨n1, n2, n3⟩ := List.nodup_append.mp F.1
    exact ⟨_, _, _, rfl, ⟨_, a, n1, fun c m => F.2 c (List.mem_append_left _ m)⟩, b, n2, fun c m => F.2 c (List.mem_append_right _ m)⟩
  | br a z b => exact ⟨_, _, _, rfl, ⟨_, a, z⟩, b, F⟩
  | ex a z b => exact ⟨_, _, _, rfl, ⟨_, a, z⟩, b, F⟩
theorem ResAll.one {vs : List V} {g : List Addr} (h : ResAll K H fp W' H' vs [r] g) (F : Fresh H W' g) : ∃ v, vs = [v] ∧ ResOk K H fp W' H' v r := by
  obtain ⟨v, us, g', rfl, o, h, _⟩ := h.cons_inv F
  obtain ⟨rfl, _⟩ := h.nil_inv
  exact ⟨v, rfl, o⟩
theorem ResAll.two {vs : List V} {g : List Addr} {r2 : Rs} (h : ResAll K H fp W' H' vs [r, r2] g) (F : Fresh H W' g) : ∃ v u, vs = [v, u] ∧ ResOk K H fp W' H' v r ∧ ResOk K H fp W' H' u r2 := by
  obtain ⟨v, us, g', rfl, o, h, F2⟩ := h.cons_inv F
  obtain ⟨u, rfl, o2⟩ := h.one F2
  exact ⟨v, u, rfl, o, o2⟩
theorem allOf_ints {vs : List V} {ds : List D} {ns : List Int} (h : allOf D.int? ds = some ns) (r : RepAll K W vs ds) : vs = ns.map V.int := by
  rw [allOf_inv (g := D.int) int?_inv h] at r
  clear h
  induction ns generalizing vs with
  | nil => cases r; rfl
  | cons n ns ih =>
    cases r with
    | cons a b => cases a; rw [ih b, List.map_cons]
theorem allOf_bls {vs : List V} {ds : List D} {ns : List Bool} (h : allOf D.bl? ds = some ns) (r : RepAll K W vs ds) : vs = ns.map V.bl := by
  rw [allOf_inv (g := D.bl) bl?_inv h] at r
  clear h
  induction ns generalizing vs with
  | nil => cases r; rfl
  | cons n ns ih =>
    cases r with
    | cons a b => cases a; rw [ih b, List.map_cons]
theorem allOf_strs {vs : List V} {ds : List D} {ns : List Str} (h : allOf D.str? ds = some ns) (r : RepAll K W vs ds) : vs = ns.map V.str := by
  rw [allOf_inv (g := D.str) str?_inv h] at r
  clear h
  induction ns generalizing vs with
  | nil => cases r; rfl
  | cons n ns ih =>
    cases r with
    | cons a b => cases a; rw [ih b, List.map_cons]
theorem RepAll.take : ∀ (n : Nat) {vs : List V} {ds : List D}, RepAll K W vs ds → RepAll K W (vs.take n) (ds.take n)
  | 0, _, _, _ => .nil
  | _ + 1, _, _, .nil => .nil
  | n + 1, _, _, .cons a b => .cons a (RepAll.take n b)
theorem RepAll.drop : ∀ (n : Nat) {vs : List V} {ds : List D}, RepAll K W vs ds → RepAll K W (vs.drop n) (ds.drop n)
  | 0, _, _, h => h
  | _ + 1, _, _, .nil => .nil
  | n + 1, _, _, .cons _ b => RepAll.drop n b
theorem RepAll.cut {vs : List V} {ds : List D} (h : RepAll K W vs ds) (lo hi : Option Int) : RepAll K W (cutV vs lo hi) (cut' ds lo hi) := by
  show RepAll K W ((vs.drop (HT.sIx vs.length 0 lo)).take (HT.sIx vs.length vs.length hi - HT.sIx vs.length 0 lo)) ((ds.drop (HT.sIx ds.length 0 lo)).take (HT.sIx ds.length ds.length hi - HT.sIx ds.length 0 lo))
  rw [h.len]
  exact RepAll.take _ (RepAll.drop _ h)
theorem cutV_whole {vs : List V} {lo hi : Option Int} (h : (cutV vs lo hi).length < vs.length) : ¬ (HT.sIx vs.length 0 lo = 0 ∧ HT.sIx vs.length vs.length hi = vs.length) := by
  rintro ⟨a, b⟩
  unfold cutV at h
  rw [a, b, List.drop_zero, Nat.sub_zero, List.take_of_length_le (Nat.le_refl _)] at h
  exact Nat.lt_irrefl _ h
end
def LO (K : PySem.W.Frag) (m : DO) : TO := fun σ H Q => ∃ (W : Wd) (env : Env) (fp xf : List Addr) (Q0 : Option Int → Prop), EnvOk K W H σ env fp xf ∧ Sat K W H fp xf ∧ m env Q0 ∧
  ∀ r, Q0 r → ∀ W' H', Stp W H [] W' H' → Sat K W' H' fp xf → Q r H'
section
variable {X : Cx} {a b c : Expr} {ma mb mc : DE} {pos : Pos} {ta tb : DT} {rest : List Expr} {es : List Expr} {mr : DA} {ml mh : DO} {lo hi : Option Expr}
theorem do_none : PO X none (LO X.K mNoP) := by
  refine ⟨?_⟩
  have h := (po_none (X := X)).run
  intro pins s σ H Q I hw
  obtain ⟨W, env, fp, xf, Q0, E, S, hm, k⟩ := hw
  exact h pins s σ H Q I (k none hm W H .refl S)
theorem po_imp {e : Option Expr} {t t' : TO} (h : PO X e t) (k : ∀ σ H Q, t' σ H Q → t σ H Q) : PO X e t' := ⟨fun pins s σ H Q I w => h.run pins s σ H Q I (k σ H Q w)⟩
theorem do_some (h : PE X a (LP X.K ma)) : PO X (some a) (LO X.K (mPart ma)) := po_imp (po_some h) fun σ H Q h => by
  obtain ⟨W, env, fp, xf, Q0, E, S, hm, k⟩ := h
  refine LP.next E S hm fun r hr v W1 H1 t1 S1 E1 o => ?_
  split at hr
  · exact ⟨_, int_of o, k _ hr W1 H1 t1 S1⟩
  · exact hr.elim
def rSlAll (K : PySem.W.Frag) : V → Option Int → Option Int → Hp → VK → Prop := fun x lo hi H Q => rSlL K x lo hi H Q ∨ rSlT K x lo hi H Q
theorem dp_sl {p2 : Pos} (he : PE X a (LP X.K ma)) (hl : PO X lo (LO X.K ml)) (hu : PO X hi (LO X.K mh)) : PE X (.Subscript a (.Slice lo hi none p2) pos) (LP X.K (mSl ma ml mh)) := pe_imp (pe_slice (r := rSlAll X.K) (sl_list.or sl_tup) he hl hu) fun σ H Q h => by
  obtain ⟨W, env, fp, xf, Q0, E, S, hm, k⟩ := h
  refine ⟨W, env, fp, xf, _, E, S, hm, fun r1 h1 v1 W1' H1 t1' S1' o1' => ?_⟩
  obtain ⟨W1, t1, S1, _, o1⟩ := ffz_ok S t1' S1' o1'
  refine ⟨W1, env, fp, xf, _, E.keep S t1, S1, h1, fun l hl W2 H2 t2 S2 => ?_⟩
  refine ⟨W2, env, fp, xf, _, (E.keep S t1).keep S1 t2, S2, hl, fun u hu W3 H3 t3 S3 => ?_⟩
  have o3 := (o1.keep t2 (t2.le S1 fun _ m => by cases m)).keep t3 (t3.le S2 fun _ m => by cases m)
  have O : Ops X.K H Q Q0 W3 H3 W fp xf := ⟨S, (t1.tr0 t2).tr0 t3, S3, k⟩
  generalize r1.ffz = r at hu o3
  unfold oSl at hu
  split at hu
  · rename_i ds
    obtain ⟨hlen, q⟩ := hu
    cases (show Rep X.K W3 v1 (.tup ds) from o3) with
    | tup g rs =>
      have rc := rs.cut l u
      refine .inr ⟨_, _, rfl, .of (O.S2.sub _ _ g), cutV_whole (by rw [rc.len, rs.len]; exact hlen), fun p n => ?_⟩
      obtain ⟨t4, S4, w4, nd, z⟩ := new_node (o := .tup (cutV _ l u)) O.t O.S2 (OwnAll.leafs (vs := []) rc) ⟨List.nodup_nil, fun _ m => by cases m⟩ n
      have ow : Own X.K W3 (upd H3 p (.tup (cutV _ l u))) (.ref p) (.tup ((cut' ds l u).map .leaf)) [p] := .tup upd_same w4
      have zz : ∀ a ∈ [p], H a = none ∧ W3.G a = none ∧ W3.S a = none := fun a m => z a m
      obtain ⟨W', t', S', _, o'⟩ := ffz_ok (r := .nw (.tup ((cut' ds l u).map .leaf))) (v := .ref p) O.S t4 S4 ⟨_, ow, nd, zz⟩
      have o' : ResOk X.K H fp W' _ (.ref p) (match (OT.tup ((cut' ds l u).map .leaf)).fzd with | some d => .fz d | none => .nw (.tup ((cut' ds l u).map .leaf))) := o'
      rw [fzd_tup] at o'
      exact k _ q _ W' _ t' S' o'
  · obtain ⟨ds, e, q⟩ := hu
    obtain ⟨p, vs, rfl, g, rs⟩ := els_L e o3 O.S2
    exact .inl ⟨p, vs, rfl, .of g, fun l' n => O.newL q (rs.cut l u) l' n⟩
theorem dp_callB {id : String} {x : Str} {r : List V → Hp → VK → Prop} {p : Pos} {Rd : List Rs → (Rs → Prop) → Prop} (hc : CallR X (.builtin id) r)
    (I : ∀ (H : Hp) (Q : VK) (W : Wd) (fp xf : List Addr) (Q0 : Rs → Prop) rs vs W2 H2 g, Rd rs Q0 → Ops X.K H Q Q0 W2 H2 W fp xf → ResAll X.K H fp W2 H2 vs rs g → Fresh H W2 g → r vs H2 Q)
    (hm : X.mg x = none) (hv : bootBuiltins x = some (.builtin id)) (ha : PA X (a :: es) (LA X.K mr)) (hg : Gl X x := by rfl) (hn : x ≠ "__name__" := by decide) (hdb : (x == ("__debug__" : Str)) = false := by decide)
    (hs : starEach (a :: es) X.env = (false, eval a X.env) :: starEach es X.env := by rfl) (hpl : (backTo pos (starEach es X.env)).any (·.1) = false := by rfl) : PE X (.Call (.Name x p) (a :: es) [] pos) (LP X.K (mB Rd mr)) :=
  pe_imp (pe_callB hc hg hm hv ha hn hdb hs hpl) fun σ H Q h => LA.ops h fun W fp xf Q0 rs vs W2 H2 g hr O os F => I H Q W fp xf Q0 rs vs W2 H2 g hr O os F
theorem dp_callTy {T : String} {x : Str} {r : List V → Hp → VK → Prop} {p : Pos} {Rd : List Rs → (Rs → Prop) → Prop} (hc : CallR X (.type T) r)
    (I : ∀ (H : Hp) (Q : VK) (W : Wd) (fp xf : List Addr) (Q0 : Rs → Prop) rs vs W2 H2 g, Rd rs Q0 → Ops X.K H Q Q0 W2 H2 W fp xf → ResAll X.K H fp W2 H2 vs rs g → Fresh H W2 g → r vs H2 Q)
    (hm : X.mg x = none) (hv : bootBuiltins x = some (.type T)) (ha : PA X (a :: es) (LA X.K mr)) (hg : Gl X x := by rfl) (hn : x ≠ "__name__" := by decide) (hdb : (x == ("__debug__" : Str)) = false := by decide)
    (hs : starEach (a :: es) X.env = (false, eval a X.env) :: starEach es X.env := by rfl) (hpl : (backTo pos (starEach es X.env)).any (·.1) = false := by rfl) : PE X (.Call (.Name x p) (a :: es) [] pos) (LP X.K (mB Rd mr)) :=
  pe_imp (pe_callTy hc hg hm hv ha hn hdb hs hpl) fun σ H Q h => LA.ops h fun W fp xf Q0 rs vs W2 H2 g hr O os F => I H Q W fp xf Q0 rs vs W2 H2 g hr O os F
end
end R
namespace R
open PySem PySem.Spec PyProof.Rows L2
section
variable {X : Cx} {a b c : Expr} {ma mb mc : DE} {pos : Pos} {es : List Expr} {mr : DA}
theorem dp_len {p : Pos} (hm : X.mg "len" = none) (ha : PA X [a] (LA X.K mr)) (hg : Gl X "len" := by rfl) (hs : starEach [a] X.env = (false, eval a X.env) :: starEach [] X.env := by rfl) : PE X (.Call (.Name "len" p) [a] [] pos) (LP X.K (mB oLen mr)) :=
  dp_callB (call_len_seq.or call_len_str) (fun H Q W fp xf Q0 rs vs W2 H2 g hr O os F => by
    unfold oLen at hr
    split at hr
    · obtain ⟨v, rfl, o⟩ := os.one F
      exact .inr ⟨_, congrArg (fun z => [z]) (str_of o), by rw [← sizeL_eq]; exact hr.1, O.fin hr.2 (.int _)⟩
    · obtain ⟨ts, e, q⟩ := hr
      obtain ⟨v, rfl, o⟩ := os.one F
      obtain ⟨p, us, f, rfl, s, w, _⟩ := kids_ok e o O.S2
      exact .inl ⟨p, us, rfl, s, by rw [w.len]; exact O.fin q (.int _)⟩
    · exact hr.elim) hm PySem.boot_len ha hg (hs := hs)
theorem dp_int1 {p : Pos} (hm : X.mg "int" = none) (ha : PA X [a] (LA X.K mr)) (hg : Gl X "int" := by rfl) (hs : starEach [a] X.env = (false, eval a X.env) :: starEach [] X.env := by rfl) : PE X (.Call (.Name "int" p) [a] [] pos) (LP X.K (mB oInt1 mr)) :=
  dp_callTy call_int1 (fun H Q W fp xf Q0 rs vs W2 H2 g hr O os F => by
    unfold oInt1 at hr
    split at hr
    · obtain ⟨v, rfl, o⟩ := os.one F
      exact .inl ⟨_, congrArg (fun z => [z]) (int_of o), O.fin hr (.int _)⟩
    · obtain ⟨v, rfl, o⟩ := os.one F
      exact .inr ⟨_, congrArg (fun z => [z]) (bl_of o), O.fin hr (.int _)⟩
    · exact hr.elim) hm (by decide +kernel) ha hg (hs := hs)
theorem min_if (i j : Int) : (if j < i then j else i) = min i j := by
  rw [Int.min_def]
  split <;> split <;> omega
theorem max_if (i j : Int) : (if j > i then j else i) = max i j := by
  rw [Int.max_def]
  split <;> split <;> omega
theorem dp_min2 {p : Pos} (hc : X.calm = true) (hm : X.mg "min" = none) (ha : PA X [a, b] (LA X.K mr)) (hg : Gl X "min" := by rfl) (hs : starEach [a, b] X.env = (false, eval a X.env) :: starEach [b] X.env := by rfl) (hpl : (backTo pos (starEach [b] X.env)).any (·.1) = false := by rfl) : PE X (.Call (.Name "min" p) [a, b] [] pos) (LP X.K (mB oMin2 mr)) :=
  dp_callB (call_min2 hc) (fun H Q W fp xf Q0 rs vs W2 H2 g hr O os F => by
    unfold oMin2 at hr
    split at hr
    · obtain ⟨v, u, rfl, o1, o2⟩ := os.two F
      refine ⟨_, _, by rw [int_of o1, int_of o2], ?_⟩
      rw [min_if]
      exact O.fin hr (.int _)
    · exact hr.elim) hm (by decide +kernel) ha hg (hs := hs) (hpl := hpl)
theorem dp_max2 {p : Pos} (hc : X.calm = true) (hm : X.mg "max" = none) (ha : PA X [a, b] (LA X.K mr)) (hg : Gl X "max" := by rfl) (hs : starEach [a, b] X.env = (false, eval a X.env) :: starEach [b] X.env := by rfl) (hpl : (backTo pos (starEach [b] X.env)).any (·.1) = false := by rfl) : PE X (.Call (.Name "max" p) [a, b] [] pos) (LP X.K (mB oMax2 mr)) :=
  dp_callB (call_max2 hc) (fun H Q W fp xf Q0 rs vs W2 H2 g hr O os F => by
    unfold oMax2 at hr
    split at hr
    · obtain ⟨v, u, rfl, o1, o2⟩ := os.two F
      refine ⟨_, _, by rw [int_of o1, int_of o2], ?_⟩
      rw [max_if]
      exact O.fin hr (.int _)
    · exact hr.elim) hm (by decide +kernel) ha hg (hs := hs) (hpl := hpl)
def rSumT (K : PySem.W.Frag) : List V → Hp → VK → Prop := fun vs H Q => ∃ (a : Addr) (ns : List Int), vs = [V.ref a] ∧ SqT K H a (ns.map V.int) ∧ Q (.int ns.sum) H
theorem cr_sumT (hc : X.calm = true) : CallR X (.builtin "sum") (rSumT X.K) := by
  intro pins s σ H vs us Q I r h
  obtain ⟨a, ns, rfl, hs, q⟩ := h
  obtain ⟨its, rv, hl, _⟩ := I.tuple hs
  rw [Vals.ref1 r]
  have hi : IntsAre its ns := rv.ints
  obtain ⟨xs, e⟩ := hi.allInts.items
  have hn : numsOf (intItems xs).toList = ns := by rw [← e]; exact hi.numsOf
  rw [nums_intItems] at hn
  have hl2 : s.heap.IsTuple a (intItems xs) := by
    rw [e] at hl
    exact hl
  refine PySem.W.ktm_sumG (I.ok.hd hc) hl2 fun h' tk t' hk => ?_
  rw [preSum_eq, List.take_of_length_le (by simp), hn]
  exact ⟨.int _, H, I.kept hk, ⟨_, rfl⟩, q⟩
theorem dp_sum {p : Pos} (hc : X.calm = true) (hm : X.mg "sum" = none) (ha : PA X [a] (LA X.K mr)) (hg : Gl X "sum" := by rfl) (hs : starEach [a] X.env = (false, eval a X.env) :: starEach [] X.env := by rfl) : PE X (.Call (.Name "sum" p) [a] [] pos) (LP X.K (mB oSum mr)) :=
  dp_callB ((cr_sum hc).or (cr_sumT hc)) (fun H Q W fp xf Q0 rs vs W2 H2 g hr O os F => by
    unfold oSum at hr
    split at hr
    · obtain ⟨ns, e, q⟩ := hr
      obtain ⟨v, rfl, o⟩ := os.one F
      cases (show Rep X.K W2 v (.tup _) from o) with
      | tup g r =>
        have e2 := allOf_ints e r
        subst e2
        exact .inr ⟨_, ns, rfl, .of (O.S2.sub _ _ g), O.fin q (.int _)⟩
    · obtain ⟨ds, ns, e1, e2, q⟩ := hr
      obtain ⟨v, rfl, o⟩ := os.one F
      obtain ⟨p, us, rfl, g, r⟩ := els_L e1 o O.S2
      have e3 := allOf_ints e2 r
      subst e3
      exact .inl ⟨p, ns, rfl, .of g, O.fin q (.int _)⟩
    · exact hr.elim) hm (by decide +kernel) ha hg (hs := hs)
theorem dp_all {p : Pos} (hc : X.calm = true) (hm : X.mg "all" = none) (ha : PA X [a] (LA X.K mr)) (hg : Gl X "all" := by rfl) (hs : starEach [a] X.env = (false, eval a X.env) :: starEach [] X.env := by rfl) : PE X (.Call (.Name "all" p) [a] [] pos) (LP X.K (mB oAll mr)) :=
  dp_callB (cr_all hc) (fun H Q W fp xf Q0 rs vs W2 H2 g hr O os F => by
    unfold oAll at hr
    split at hr
    · obtain ⟨ds, ns, e1, e2, q⟩ := hr
      obtain ⟨v, rfl, o⟩ := os.one F
      obtain ⟨p, us, rfl, g, r⟩ := els_L e1 o O.S2
      have e3 := allOf_bls e2 r
      subst e3
      exact ⟨p, ns, rfl, .of g, O.fin q (.bl _)⟩
    · exact hr.elim) hm (by decide +kernel) ha hg (hs := hs)
theorem dp_tuple {p : Pos} (hm : X.mg "tuple" = none) (ha : PA X [a] (LA X.K mr)) (hg : Gl X "tuple" := by rfl) (hs : starEach [a] X.env = (false, eval a X.env) :: starEach [] X.env := by rfl) : PE X (.Call (.Name "tuple" p) [a] [] pos) (LP X.K (mB oTuple mr)) :=
  dp_callTy call_tuple_of (fun H Q W fp xf Q0 rs vs W2 H2 g hr O os F => by
    unfold oTuple at hr
    split at hr
    · obtain ⟨v, rfl, o⟩ := os.one F
      cases (show Rep X.K W2 v (.tup _) from o) with
      | tup g r => exact ⟨_, _, rfl, .inr ⟨.of (O.S2.sub _ _ g), O.fin hr (.tup g r)⟩⟩
    · obtain ⟨ds, e, q⟩ := hr
      obtain ⟨v, rfl, o⟩ := os.one F
      obtain ⟨p, us, rfl, g, r⟩ := els_L e o O.S2
      refine ⟨p, us, rfl, .inl ⟨.of g, fun l n => ?_⟩⟩
      obtain ⟨t4, S4, w4, nd, z⟩ := new_node (o := .tup us) O.t O.S2 (OwnAll.leafs (vs := []) r) ⟨List.nodup_nil, fun _ m => by cases m⟩ n
      have ow : Own X.K W2 (upd H2 l (.tup us)) (.ref l) (.tup (ds.map .leaf)) [l] := .tup upd_same w4
      have zz : ∀ a ∈ [l], H a = none ∧ W2.G a = none ∧ W2.S a = none := fun a m => z a m
      obtain ⟨W', t', S', _, o'⟩ := ffz_ok (r := .nw (.tup (ds.map .leaf))) (v := .ref l) O.S t4 S4 ⟨_, ow, nd, zz⟩
      have o' : ResOk X.K H fp W' _ (.ref l) (match (OT.tup (ds.map .leaf)).fzd with | some d => .fz d | none => .nw (.tup (ds.map .leaf))) := o'
      rw [fzd_tup] at o'
      exact O.k _ q _ W' _ t' S' o'
    · exact hr.elim) hm (by decide +kernel) ha hg (hs := hs)
end
end R
namespace R
open PySem PySem.Spec PyProof.Rows L2
section
variable {K : PySem.W.Frag} {W W1 W2 W' : Wd} {H H1 H2 H' : Hp} {f f1 fp xf : List Addr} {σ : L2.St} {Q : VK} {r : Rs} {v : V} {env : Env}
theorem List.set_getElem_self_some {α : Type} {l : List α} {i : Nat} {x : α} (h : l[i]? = some x) : l.set i x = l := by
  obtain ⟨hi, e⟩ := List.getElem?_eq_some_iff.mp h
  rw [← e, List.set_getElem_self]
theorem Sat.perm {fp' xf' : List Addr} (s : Sat K W H fp xf) (p : fp'.Perm fp) (x : ∀ a ∈ xf', a ∈ xf) : Sat K W H fp' xf' :=
  ⟨s.sub, s.vol, p.nodup_iff.mpr s.nd, fun a m => s.off a (p.mem_iff.mp m), fun a m => ⟨fun q => (s.xof a (x a m)).1 (p.mem_iff.mp q), (s.xof a (x a m)).2⟩⟩
theorem Sat.less {g : List Addr} (s : Sat K W H (g ++ fp) xf) : Sat K W H fp xf :=
  ⟨s.sub, s.vol, (List.nodup_append.mp s.nd).2.1, fun a m => s.off a (List.mem_append_right _ m), fun a m => ⟨fun q => (s.xof a m).1 (List.mem_append_right _ q), (s.xof a m).2⟩⟩
theorem EnvOk.len (E : EnvOk K W H σ env fp xf) : σ.length = env.length := by
  induction E with
  | nil => rfl
  | no _ ih => simp [ih]
  | fz _ _ ih => simp [ih]
  | nw _ _ ih => simp [ih]
  | ex _ _ ih => simp [ih]
theorem EnvOk.clear {σ : L2.St} {env : Env} {fp xf : List Addr} (E : EnvOk K W H σ env fp xf) : ∀ (i : Nat) (x : Option V), ∃ f fp' xf', EnvOk K W H (σ.set i x) (env.set i none) fp' xf' ∧ fp.Perm (f ++ fp') ∧ (∀ a ∈ xf', a ∈ xf) ∧
    ∀ t v, env[i]? = some (some (.nw t)) → σ[i]? = some (some v) → Own K W H v t f := by
  induction E with
  | nil => intro i x; exact ⟨[], [], [], .nil, .refl _, fun _ m => m, fun t v e => by simp at e⟩
  | no E ih =>
    intro i x
    cases i with
    | zero => exact ⟨[], _, _, .no E, .refl _, fun _ m => m, fun t v e => by simp at e⟩
    | succ i =>
      obtain ⟨f, fp', xf', a, b, c, d⟩ := ih i x
      exact ⟨f, fp', xf', .no a, b, c, fun t v e1 e2 => d t v (by simpa using e1) (by simpa using e2)⟩
  | fz r E ih =>
    intro i x
    cases i with
    | zero => exact ⟨[], _, _, .no E, .refl _, fun _ m => m, fun t v e => by simp at e⟩
    | succ i =>
      obtain ⟨f, fp', xf', a, b, c, d⟩ := ih i x
      exact ⟨f, fp', xf', .fz r a, b, c, fun t v e1 e2 => d t v (by simpa using e1) (by simpa using e2)⟩
  | nw r E ih =>
    rename_i v t f0 σ e fp xf
    intro i x
    cases i with
    | zero => exact ⟨f0, _, _, .no E, .refl _, fun _ m => m, fun t v e1 e2 => by simp at e1 e2; subst e1 e2; exact r⟩
    | succ i =>
      obtain ⟨f, fp', xf', a, b, c, d⟩ := ih i x
      refine ⟨f, f0 ++ fp', xf', .nw r a, ?_, c, fun t v e1 e2 => d t v (by simpa using e1) (by simpa using e2)⟩
      have q : (f0 ++ (f ++ fp')).Perm (f ++ (f0 ++ fp')) := by
        rw [← List.append_assoc, ← List.append_assoc]
        exact List.perm_append_comm.append_right _
      exact (b.append_left f0).trans q
  | ex r E ih =>
    intro i x
    cases i with
    | zero => exact ⟨[], _, _, .no E, .refl _, fun _ m => List.mem_append_right _ m, fun t v e => by simp at e⟩
    | succ i =>
      obtain ⟨f, fp', xf', a, b, c, d⟩ := ih i x
      exact ⟨f, fp', _, .ex r a, b, fun z m => (List.mem_append.mp m).elim (List.mem_append_left _) fun m => List.mem_append_right _ (c z m), fun t v e1 e2 => d t v (by simpa using e1) (by simpa using e2)⟩
theorem EnvOk.fill {σ : L2.St} {env : Env} {fp xf : List Addr} (E : EnvOk K W H σ env fp xf) : ∀ {i : Nat}, i < σ.length → env[i]? = some none →
    (∀ d, r = .fz d → Rep K W v d → EnvOk K W H (σ.set i (some v)) (env.set i (some r)) fp xf) ∧
    (∀ t f, r = .nw t → Own K W H v t f → ∃ fp', EnvOk K W H (σ.set i (some v)) (env.set i (some r)) fp' xf ∧ fp'.Perm (f ++ fp)) ∧
    (∀ t f, r = .ex t → Own K W H v t f → ∃ xf', EnvOk K W H (σ.set i (some v)) (env.set i (some r)) fp xf' ∧ ∀ a ∈ xf', a ∈ f ∨ a ∈ xf) := by
  induction E with
  | nil => intro i hi; simp at hi
  | no E ih =>
    intro i hi he
    cases i with
    | zero => exact ⟨fun d e q => by subst e; exact .fz q E, fun t f e q => by subst e; exact ⟨_, .nw q E, .refl _⟩, fun t f e q => by subst e; exact ⟨_, .ex q E, fun a m => List.mem_append.mp m⟩⟩
    | succ i =>
      obtain ⟨a, b, c⟩ := ih (i := i) (by simpa using hi) (by simpa using he)
      refine ⟨fun d e q => .no (a d e q), fun t f e q => ?_, fun t f e q => ?_⟩
      · obtain ⟨fp', x, y⟩ := b t f e q
        exact ⟨fp', .no x, y⟩
      · obtain ⟨fp', x, y⟩ := c t f e q
        exact ⟨fp', .no x, y⟩
  | fz r0 E ih =>
    intro i hi he
    cases i with
    | zero => simp at he
    | succ i =>
      obtain ⟨a, b, c⟩ := ih (i := i) (by simpa using hi) (by simpa using he)
      refine ⟨fun d e q => .fz r0 (a d e q), fun t f e q => ?_, fun t f e q => ?_⟩
      · obtain ⟨fp', x, y⟩ := b t f e q
        exact ⟨fp', .fz r0 x, y⟩
      · obtain ⟨fp', x, y⟩ := c t f e q
        exact ⟨fp', .fz r0 x, y⟩
  | nw r0 E ih =>
    rename_i f0 _ _ fp xf
    intro i hi he
    cases i with
    | zero => simp at he
    | succ i =>
      obtain ⟨a, b, c⟩ := ih (i := i) (by simpa using hi) (by simpa using he)
      refine ⟨fun d e q => .nw r0 (a d e q), fun t f e q => ?_, fun t f e q => ?_⟩
      · obtain ⟨fp', x, y⟩ := b t f e q
        refine ⟨f0 ++ fp', .nw r0 x, (y.append_left f0).trans ?_⟩
        rw [← List.append_assoc, ← List.append_assoc]
        exact List.perm_append_comm.append_right _
      · obtain ⟨fp', x, y⟩ := c t f e q
        exact ⟨fp', .nw r0 x, y⟩
  | ex r0 E ih =>
    intro i hi he
    cases i with
    | zero => simp at he
    | succ i =>
      obtain ⟨a, b, c⟩ := ih (i := i) (by simpa using hi) (by simpa using he)
      refine ⟨fun d e q => .ex r0 (a d e q), fun t f e q => ?_, fun t f e q => ?_⟩
      · obtain ⟨fp', x, y⟩ := b t f e q
        exact ⟨fp', .ex r0 x, y⟩
      · obtain ⟨fp', x, y⟩ := c t f e q
        refine ⟨_, .ex r0 x, fun a m => ?_⟩
        rcases List.mem_append.mp m with m | m
        · exact .inr (List.mem_append_left _ m)
        · exact (y a m).imp id (List.mem_append_right _)
def SlotOk (K : PySem.W.Frag) (W : Wd) (H : Hp) (fp : List Addr) (v : V) (r : Rs) (f : List Addr) : Prop := match r with
  | .fz d => f = [] ∧ Rep K W v d
  | .nw t => Own K W H v t f
  | .ex t => f = [] ∧ ∃ g, Own K W H v t g ∧ ∀ a ∈ g, a ∉ fp ∧ W.S a = none
  | .br _ => False
theorem perm4 (g fr f fp1 : List Addr) : (g ++ (fr ++ (f ++ fp1))).Perm (fr ++ (f ++ (g ++ fp1))) := by
  have a : (g ++ (fr ++ (f ++ fp1))).Perm (fr ++ (g ++ (f ++ fp1))) := by
    rw [← List.append_assoc g fr, ← List.append_assoc fr g]
    exact List.perm_append_comm.append_right _
  have b : (g ++ (f ++ fp1)).Perm (f ++ (g ++ fp1)) := by
    rw [← List.append_assoc, ← List.append_assoc]
    exact List.perm_append_comm.append_right _
  exact a.trans (b.append_left fr)
theorem EnvOk.put {i : Nat} {f fr : List Addr} (E : EnvOk K W H σ env fp xf) (S : Sat K W H (fr ++ (f ++ fp)) xf) (o : SlotOk K W H (fr ++ (f ++ fp)) v r f) : ∃ fp' xf', EnvOk K W H (σ.set i (some v)) (env.set i (some r)) fp' xf' ∧ Sat K W H (fr ++ fp') xf' ∧ ∀ a ∈ fp', a ∈ f ∨ a ∈ fp := by
  by_cases hi : i < σ.length
  case neg =>
    rw [List.set_eq_of_length_le (by omega), List.set_eq_of_length_le (by rw [← E.len]; omega)]
    refine ⟨fp, xf, E, Sat.less (g := f) (S.perm ?_ fun _ m => m), fun _ m => .inr m⟩
    rw [← List.append_assoc f fr, ← List.append_assoc fr f]
    exact List.perm_append_comm.append_right _
  obtain ⟨g, fp1, xf1, E1, p1, x1, _⟩ := E.clear i none
  have hi2 : i < (σ.set i none).length := by simpa using hi
  have he : (env.set i none)[i]? = some none := by
    rw [List.getElem?_set_self]
    rw [← E.len]; exact hi
  have sub1 : ∀ a ∈ fp1, a ∈ fp := fun a m => p1.mem_iff.mpr (List.mem_append_right _ m)
  have S1 : Sat K W H (fr ++ (f ++ fp1)) xf1 := by
    have q : (g ++ (fr ++ (f ++ fp1))).Perm (fr ++ (f ++ fp)) := (perm4 g fr f fp1).trans ((p1.symm.append_left f).append_left fr)
    exact (S.perm q x1).less
  obtain ⟨a, b, c⟩ := E1.fill (r := r) (v := v) hi2 he
  have es : (σ.set i none).set i (some v) = σ.set i (some v) := List.set_set _
  have ee : (env.set i none).set i (some r) = env.set i (some r) := List.set_set _
  rw [es, ee] at a b c
  cases r with
  | fz d =>
    obtain ⟨rfl, o⟩ := o
    exact ⟨fp1, xf1, a d rfl o, S1, fun z m => .inr (sub1 z m)⟩
  | nw t =>
    obtain ⟨fp', e, p⟩ := b t f rfl o
    exact ⟨fp', xf1, e, S1.perm (p.append_left fr) fun _ m => m, fun z m => (List.mem_append.mp (p.mem_iff.mp m)).imp id (sub1 z)⟩
  | ex t =>
    obtain ⟨rfl, g2, o, z2⟩ := o
    obtain ⟨xf', e, p⟩ := c t g2 rfl o
    refine ⟨fp1, xf', e, ⟨S1.sub, S1.vol, S1.nd, S1.off, fun z m => ?_⟩, fun z m => .inr (sub1 z m)⟩
    rcases p z m with m | m
    · refine ⟨fun q => (z2 z m).1 ?_, (z2 z m).2, o.alloc z m⟩
      rcases List.mem_append.mp q with q | q
      · exact List.mem_append_left _ q
      · exact List.mem_append_right _ (sub1 z q)
    · exact S1.xof z m
  | br t => exact o.elim
end
structure Post (K : PySem.W.Frag) (W : Wd) (H : Hp) (fp : List Addr) (pr : List Nat) (σ σ' : L2.St) (W' : Wd) (H' : Hp) (env' : Env) (fp' xf' : List Addr) : Prop where
  t : Stp W H fp W' H'
  E : EnvOk K W' H' σ' env' fp' xf'
  S : Sat K W' H' fp' xf'
  nf : ∀ a ∈ fp', a ∈ fp ∨ H a = none
  pr : ∀ i ∈ pr, σ'[i]? = σ[i]?
def RetOk (K : PySem.W.Frag) (H : Hp) (fp fp' : List Addr) (W' : Wd) (H' : Hp) (v : V) (r : Rs) : Prop := match r with
  | .fz d => Rep K W' v d
  | .nw t => ∃ f, Own K W' H' v t f ∧ f.Nodup ∧ ∀ a ∈ f, (H a = none ∨ a ∈ fp) ∧ a ∉ fp' ∧ W'.G a = none ∧ W'.S a = none
  | _ => False
structure RtOk (K : PySem.W.Frag) (ex : Nat → Hp → Prop) (W : Wd) (H : Hp) (fp : List Addr) (pr : List Nat) (σ : L2.St) (Kr : Rs → Env → Prop) (Dr : V → Hp → Prop) : Prop where
  rt : ∀ r e, Kr r e → ∀ v σ' W' H' fp' xf', Post K W H fp pr σ σ' W' H' e fp' xf' → RetOk K H fp fp' W' H' v r → Dr v H'
  x : ∀ k e, Kr (.fz (.exn k)) e → ∀ σ' W' H' fp' xf', Post K W H fp pr σ σ' W' H' e fp' xf' → ex k H'
instance {K : PySem.W.Frag} {ex : Nat → Hp → Prop} {W : Wd} {H : Hp} {fp : List Addr} {pr : List Nat} {σ : L2.St} {Kr : Rs → Env → Prop} {Dr : V → Hp → Prop} : CoeFun (RtOk K ex W H fp pr σ Kr Dr) (fun _ => ∀ r e, Kr r e → ∀ v σ' W' H' fp' xf', Post K W H fp pr σ σ' W' H' e fp' xf' → RetOk K H fp fp' W' H' v r → Dr v H') := ⟨RtOk.rt⟩
def LS (K : PySem.W.Frag) (ex : Nat → Hp → Prop) (pr : List Nat) (m : DS) : TS := fun D σ H => ∃ (W : Wd) (env : Env) (fp xf : List Addr) (K0 : DK), EnvOk K W H σ env fp xf ∧ Sat K W H fp xf ∧ m env K0 ∧
  (∀ e, K0.nx e → ∀ σ' W' H' fp' xf', Post K W H fp pr σ σ' W' H' e fp' xf' → D.nx σ' H') ∧
  (∀ e, K0.bk e → ∀ σ' W' H' fp' xf', Post K W H fp pr σ σ' W' H' e fp' xf' → D.bk σ' H') ∧
  (∀ e, K0.ct e → ∀ σ' W' H' fp' xf', Post K W H fp pr σ σ' W' H' e fp' xf' → D.ct σ' H') ∧
  RtOk K ex W H fp pr σ K0.rt D.rt
def exT : Nat → Hp → Prop := fun _ _ => True
section
variable {K : PySem.W.Frag} {W W1 W2 W' : Wd} {H H1 H2 H' : Hp} {f f1 fp fp1 fp2 xf xf1 xf2 : List Addr} {σ σ1 σ2 : L2.St} {Q : VK} {r : Rs} {v : V} {env env1 env2 : Env} {pr : List Nat}
theorem Post.pure (t : Stp W H [] W1 H1) (E : EnvOk K W1 H1 σ env fp xf) (S : Sat K W1 H1 fp xf) : Post K W H fp pr σ σ W1 H1 env fp xf := ⟨t.up, E, S, fun _ m => .inl m, fun _ _ => rfl⟩
theorem Post.trans (a : Post K W H fp pr σ σ1 W1 H1 env1 fp1 xf1) (b : Post K W1 H1 fp1 pr σ1 σ2 W2 H2 env2 fp2 xf2) : Post K W H fp pr σ σ2 W2 H2 env2 fp2 xf2 :=
  ⟨a.t.trans b.t a.nf, b.E, b.S, fun c m => (b.nf c m).elim (a.nf c) fun z => .inr (by
    cases q : H c with
    | none => rfl
    | some o => exact absurd z (a.t.al c (some_ne q))), fun i m => (b.pr i m).trans (a.pr i m)⟩
theorem RetOk.back {fp'' : List Addr} (h : RetOk K H1 fp1 fp'' W2 H2 v r) (a : Post K W H fp pr σ σ1 W1 H1 env1 fp1 xf1) : RetOk K H fp fp'' W2 H2 v r := by
  cases r with
  | fz d => exact h
  | nw t =>
    obtain ⟨f, o, nd, z⟩ := h
    refine ⟨f, o, nd, fun c m => ⟨?_, (z c m).2⟩⟩
    rcases (z c m).1 with q | q
    · cases q2 : H c with
      | none => exact .inl rfl
      | some o => exact absurd q (a.t.al c (some_ne q2))
    · exact (a.nf c q).symm
  | br t => exact h
  | ex t => exact h
theorem RetOk.of (h : ResOk K H fp W2 H2 v r) (ho : r.own) (S : Sat K W H fp xf) : RetOk K H fp fp W2 H2 v r := by
  cases r with
  | fz d => exact h
  | nw t =>
    obtain ⟨f, o, nd, z⟩ := h
    exact ⟨f, o, nd, fun a m => ⟨.inl (z a m).1, fun q => (S.off a q).2.2 (z a m).1, (z a m).2⟩⟩
  | br t => exact ho.elim
  | ex t => exact ho.elim
theorem RtOk.after {ex : Nat → Hp → Prop} {Kr : Rs → Env → Prop} {Dr : V → Hp → Prop} (P : Post K W H fp pr σ σ1 W1 H1 env1 fp1 xf1) (rt : RtOk K ex W H fp pr σ Kr Dr) : RtOk K ex W1 H1 fp1 pr σ1 Kr Dr :=
  ⟨fun r e q v σ' W' H' fp' xf' p o => rt.rt r e q v σ' W' H' fp' xf' (P.trans p) (o.back P), fun k e q σ' W' H' fp' xf' p => rt.x k e q σ' W' H' fp' xf' (P.trans p)⟩
theorem LS.from {ex : Nat → Hp → Prop} {m : DS} {D : Ends} {K0 : DK} (P : Post K W H fp pr σ σ1 W1 H1 env1 fp1 xf1) (h : m env1 K0)
    (nx : ∀ e, K0.nx e → ∀ σ' W' H' fp' xf', Post K W H fp pr σ σ' W' H' e fp' xf' → D.nx σ' H')
    (bk : ∀ e, K0.bk e → ∀ σ' W' H' fp' xf', Post K W H fp pr σ σ' W' H' e fp' xf' → D.bk σ' H')
    (ct : ∀ e, K0.ct e → ∀ σ' W' H' fp' xf', Post K W H fp pr σ σ' W' H' e fp' xf' → D.ct σ' H')
    (rt : RtOk K ex W H fp pr σ K0.rt D.rt) : LS K ex pr m D σ1 H1 :=
  ⟨W1, env1, fp1, xf1, K0, P.E, P.S, h, fun e q σ' W' H' fp' xf' p => nx e q σ' W' H' fp' xf' (P.trans p), fun e q σ' W' H' fp' xf' p => bk e q σ' W' H' fp' xf' (P.trans p),
    fun e q σ' W' H' fp' xf' p => ct e q σ' W' H' fp' xf' (P.trans p), rt.after P⟩
theorem ResOk.toSlot (h : ResOk K H fp W2 H2 v r) (hs : r.slot) (S : Sat K W H fp xf) (S2 : Sat K W2 H2 fp xf) : ∃ f, SlotOk K W2 H2 (f ++ fp) v r f ∧ Sat K W2 H2 (f ++ fp) xf ∧ ∀ a ∈ f, H a = none := by
  cases r with
  | fz d => exact ⟨[], ⟨rfl, h⟩, S2, fun _ m => by cases m⟩
  | nw t =>
    obtain ⟨f, o, nd, z⟩ := h
    refine ⟨f, o, ⟨S2.sub, S2.vol, List.nodup_append.mpr ⟨nd, S2.nd, fun a m b m2 e => ?_⟩, fun a m => ?_, fun a m => ⟨fun q => ?_, (S2.xof a m).2⟩⟩, fun a m => (z a m).1⟩
    · subst e
      exact (S.off a m2).2.2 (z a m).1
    · rcases List.mem_append.mp m with m | m
      · exact ⟨(z a m).2.1, (z a m).2.2, o.alloc a m⟩
      · exact S2.off a m
    · rcases List.mem_append.mp q with q | q
      · exact (S.xof a m).2.2 (z a q).1
      · exact (S2.xof a m).1 q
  | ex t =>
    obtain ⟨f, o, z⟩ := h
    exact ⟨[], ⟨rfl, f, o, fun a m => ⟨(z a m).2, (z a m).1⟩⟩, S2, fun _ m => by cases m⟩
  | br t => exact hs.elim
theorem Post.store {i : Nat} (S : Sat K W H fp xf) (t : Stp W H [] W1 H1) (E : EnvOk K W1 H1 σ env fp xf) (S1 : Sat K W1 H1 fp xf) (o : ResOk K H fp W1 H1 v r) (hs : r.slot) (hp : i ∉ pr) :
    ∃ fp' xf', Post K W H fp pr σ (σ.set i (some v)) W1 H1 (env.set i (some r)) fp' xf' := by
  obtain ⟨f, so, sf, z⟩ := o.toSlot hs S S1
  obtain ⟨fp', xf', E', S', y⟩ := E.put (fr := []) sf so
  refine ⟨fp', xf', t.up, E', S', fun a m => (y a m).elim (fun q => .inr (z a q)) .inl, fun j m => ?_⟩
  rw [List.getElem?_set_ne]
  intro e
  exact hp (by rw [e]; exact m)
end
section
variable {X : Cx} {a b c : Expr} {ma mb mc : DE} {pos : Pos} {ta tb : DT} {st : Stmt} {rest s1 s2 : List Stmt} {m m1 m2 : DS} {pr : List Nat}
theorem dss_nil : PSs X [] (LS X.K ex pr mNext) := pss_imp pss_nil fun D σ H h => by
  obtain ⟨W, env, fp, xf, K0, E, S, hm, nx, _⟩ := h
  exact nx _ hm σ W H fp xf (.pure .refl E S)
theorem dss_cons (h1 : PS X st (LS X.K ex pr m1)) (h2 : PSs X rest (LS X.K ex pr m2)) : PSs X (st :: rest) (LS X.K ex pr (mSeq m1 m2)) := pss_imp (pss_cons h1 h2) fun D σ H h => by
  obtain ⟨W, env, fp, xf, K0, E, S, hm, nx, bk, ct, rt⟩ := h
  exact ⟨W, env, fp, xf, _, E, S, hm, fun e q σ' W' H' fp' xf' P => LS.from P q nx bk ct rt, bk, ct, rt⟩
theorem dss_one (h1 : PS X st (LS X.K ex pr m1)) : PSs X [st] (LS X.K ex pr m1) := pss_one h1
theorem ds_never : PS X st (LS X.K ex pr mNever) := ps_imp ps_never fun D σ H h => by
  obtain ⟨W, env, fp, xf, K0, E, S, hm, _⟩ := h
  exact hm
theorem ds_if (hc : PT X c (LT X.K ta)) (ha : PSs X s1 (LS X.K ex pr m1)) (hb : PSs X s2 (LS X.K ex pr m2)) : PS X (.If c s1 s2 pos) (LS X.K ex pr (mIfS ta m1 m2)) := ps_imp (ps_if hc ha hb) fun D σ H h => by
  obtain ⟨W, env, fp, xf, K0, E, S, hm, nx, bk, ct, rt⟩ := h
  refine LT.next E S hm fun c hc W1 H1 t1 S1 E1 => ?_
  cases c with
  | true => exact iteT (LS.from (.pure t1 E1 S1) (show m1 env K0 from hc) nx bk ct rt)
  | false => exact iteF (LS.from (.pure t1 E1 S1) (show m2 env K0 from hc) nx bk ct rt)
theorem ds_ret (ha : PE X a (LP X.K ma)) : PS X (.Return (some a) pos) (LS X.K ex pr (mRet ma)) := ps_imp (ps_ret ha) fun D σ H h => by
  obtain ⟨W, env, fp, xf, K0, E, S, hm, nx, bk, ct, rt⟩ := h
  refine LP.next E S hm fun r hr v W1 H1 t1 S1 E1 o => ?_
  exact rt r env hr.2 v σ W1 H1 fp xf (.pure t1 E1 S1) (.of o hr.1 S)
theorem ds_drop (ha : PE X a (LP X.K ma)) (hs : swapsWith a none pos.line X.env = pure false := by rfl) : PS X (.Expr a pos) (LS X.K ex pr (mDrop ma)) := ps_imp (ps_expr ha hs) fun D σ H h => by
  obtain ⟨W, env, fp, xf, K0, E, S, hm, nx, bk, ct, rt⟩ := h
  refine LP.next E S hm fun r hr v W1 H1 t1 S1 E1 o => ?_
  exact nx env hr σ W1 H1 fp xf (.pure t1 E1 S1)
theorem ds_fz {i : Nat} (hp : i ∉ pr := by decide) (h : PS X st (LS X.K ex pr m)) : PS X st (LS X.K ex pr (mFzS i m)) := ps_imp h fun D σ H h => by
  obtain ⟨W, env, fp, xf, K0, E, S, ⟨t, d, he, z, hm⟩, nx, bk, ct, rt⟩ := h
  obtain ⟨v, ev, _⟩ := E.get he S
  obtain ⟨f, fp1, xf1, E1, p1, x1, ow⟩ := E.clear i none
  have o := ow t v he ev
  have sp : Sat X.K W H (f ++ fp1) xf1 := S.perm p1.symm x1
  obtain ⟨nd, _, dj⟩ := List.nodup_append.mp sp.nd
  have zf : ∀ a ∈ f, W.G a = none ∧ W.S a = none ∧ H a ≠ none := fun a m => sp.off a (List.mem_append_left _ m)
  obtain ⟨W', F, R, _⟩ := freeze o z nd fun a m => ⟨(zf a m).1, (zf a m).2.1⟩
  have S1 := F.sat sp.less zf fun a m => ⟨fun q => dj a m a q rfl, fun q => (sp.xof a q).1 (List.mem_append_left _ m)⟩
  have l := F.le fun a m => ⟨(zf a m).1, (zf a m).2.1⟩
  have E2 := E1.mono (W' := W') (H' := H) l fun _ _ _ e => e
  have hi : i < σ.length := (List.getElem?_eq_some_iff.mp ev).1
  have he2 : (env.set i none)[i]? = some none := by
    rw [List.getElem?_set_self]
    rw [← E.len]; exact hi
  have E3 := (E2.fill (r := .fz d) (v := v) (by simpa using hi) he2).1 d rfl R
  rw [List.set_set, List.set_set] at E3
  have es : σ.set i (some v) = σ := List.set_getElem_self_some ev
  rw [es] at E3
  have P : Post X.K W H fp pr σ σ W' H (env.set i (some (.fz d))) fp1 xf1 := ⟨⟨fun a h n => F.out a fun q => n (p1.mem_iff.mpr (List.mem_append_left _ q)), fun _ _ e _ _ => e, fun _ h => h⟩, E3, S1, fun a m => .inl (p1.mem_iff.mpr (List.mem_append_right _ m)), fun _ _ => rfl⟩
  exact LS.from P hm nx bk ct rt
end
end R
namespace R
open PySem PySem.Spec PyProof.Rows L2
def LG (K : PySem.W.Frag) (pr : Nat → Prop) (g : DG) : TG := fun v σ H Q => ∃ (W : Wd) (env : Env) (fp xf f fr : List Addr) (r : Rs) (Q0 : Env → Prop), EnvOk K W H σ env fp xf ∧ Sat K W H (fr ++ (f ++ fp)) xf ∧ ResAll K H (fr ++ (f ++ fp)) W H [v] [r] f ∧ g env r Q0 ∧
  ∀ e, Q0 e → ∀ σ' fp' xf', EnvOk K W H σ' e fp' xf' → Sat K W H (fr ++ fp') xf' → (∀ a ∈ fp', a ∈ f ∨ a ∈ fp) → (∀ i, pr i → σ'[i]? = σ[i]?) → Q σ' H
def LGs (K : PySem.W.Frag) (pr : Nat → Prop) (gs : List DG) : TGs := fun vs σ H Q => ∃ (W : Wd) (env : Env) (fp xf f fr : List Addr) (rs : List Rs) (Q0 : Env → Prop), EnvOk K W H σ env fp xf ∧ Sat K W H (fr ++ (f ++ fp)) xf ∧ ResAll K H (fr ++ (f ++ fp)) W H vs rs f ∧ gsN gs rs env Q0 ∧
  ∀ e, Q0 e → ∀ σ' fp' xf', EnvOk K W H σ' e fp' xf' → Sat K W H (fr ++ fp') xf' → (∀ a ∈ fp', a ∈ f ∨ a ∈ fp) → (∀ i, pr i → σ'[i]? = σ[i]?) → Q σ' H
section
variable {K : PySem.W.Frag} {W W1 W2 W' : Wd} {H H1 H2 H' : Hp} {f f1 fp fp1 fp2 xf xf1 xf2 : List Addr} {σ σ1 σ2 : L2.St} {Q : VK} {r : Rs} {v : V} {env env1 env2 : Env} {pr : List Nat}
theorem slot_of {fq : List Addr} {H0 : Hp} (h : ResAll K H0 fq W H [v] [r] f) (hs : r.slot) : SlotOk K W H fq v r f := by
  cases h with
  | fz a b => cases b; exact ⟨rfl, a⟩
  | nw a b => cases b; rw [List.append_nil]; exact a
  | br a z b => exact hs.elim
  | ex a z b => cases b; exact ⟨rfl, _, a, fun c m => ⟨(z c m).2, (z c m).1⟩⟩
end
section
variable {X : Cx} {a b c : Expr} {ma mb mc : DE} {pos : Pos} {ta tb : DT} {st : Stmt} {rest s1 s2 : List Stmt} {m m1 m2 : DS} {pr : List Nat} {g : DG} {gs : List DG} {es : List Expr}
theorem dg_name {i : Nat} {x : Str} {pr : Nat → Prop} (hN : X.N.Nodup) (hi : X.N[i]? = some x) (hx : Loc X.env.scope x := by first | exact Or.inl rfl | exact Or.inr rfl) (hp : ¬ pr i := by decide) (hf : X.fn x = true ∨ X.env.scope.names.lookup x = some .local := by first | exact .inl rfl | exact .inr rfl | assumption) :
    PG X (.Name x pos) (LG X.K pr (gN i)) := by
  refine ⟨fun pins s σ H v u Q I r h => (pg_name hN hi hx hf).run pins s σ H v u Q I r ?_⟩
  obtain ⟨W, env, fp, xf, f, fr, rs, Q0, E, S, o, ⟨hs, hq⟩, k⟩ := h
  obtain ⟨fp', xf', E', S', y⟩ := E.put (i := i) S (slot_of o hs)
  exact k _ hq _ fp' xf' E' S' y fun j m => by
    rw [List.getElem?_set_ne]
    intro e
    exact hp (by rw [e]; exact m)
theorem dgs_nil {pr : Nat → Prop} : PGs X [] (LGs X.K pr []) := by
  refine ⟨fun pins s σ H vs us Q I r h => pgs_nil.run pins s σ H vs us Q I r ?_⟩
  obtain ⟨W, env, fp, xf, f, fr, rs, Q0, E, S, o, hq, k⟩ := h
  cases rs with
  | nil =>
    obtain ⟨rfl, rfl⟩ := o.nil_inv
    exact ⟨rfl, k _ hq _ fp xf E S (fun a m => .inr m) fun _ _ => rfl⟩
  | cons r rs => exact hq.elim
theorem ResAll.head {K : PySem.W.Frag} {H0 : Hp} {fq : List Addr} {W : Wd} {H : Hp} {vs : List V} {r : Rs} {rs : List Rs} {f : List Addr} (o : ResAll K H0 fq W H vs (r :: rs) f) : ∃ v us f1 f2, vs = v :: us ∧ f = f1 ++ f2 ∧ ResAll K H0 fq W H [v] [r] f1 ∧ ResAll K H0 fq W H us rs f2 := by
  cases o with
  | fz a b => exact ⟨_, _, [], _, rfl, rfl, .fz a .nil, b⟩
  | nw a b => exact ⟨_, _, _, _, rfl, rfl, by have z := ResAll.nw (H := H0) (fp := fq) a .nil; rw [List.append_nil] at z; exact z, b⟩
  | br a z b => exact ⟨_, _, [], _, rfl, rfl, .br a z .nil, b⟩
  | ex a z b => exact ⟨_, _, [], _, rfl, rfl, .ex a z .nil, b⟩
theorem ResAll.refp {K : PySem.W.Frag} {H0 H1 : Hp} {fq fq' : List Addr} {W : Wd} {H : Hp} {vs : List V} {rs : List Rs} {f : List Addr} (o : ResAll K H0 fq W H vs rs f) (h : ∀ a ∈ fq', a ∈ fq) : ResAll K H1 fq' W H vs rs f := by
  induction o with
  | nil => exact .nil
  | fz a _ ih => exact .fz a ih
  | nw a _ ih => exact .nw a ih
  | br a z _ ih => exact .br a z ih
  | ex a z _ ih => exact .ex a (fun c m => ⟨(z c m).1, fun q => (z c m).2 (h c q)⟩) ih
theorem dgs_cons {pr : Nat → Prop} (h1 : PG X a (LG X.K pr g)) (h2 : PGs X es (LGs X.K pr gs))
    (he : (assignEach (a :: es) X.env).map (·.2) = assign a X.env :: (assignEach es X.env).map (·.2) := by rfl) : PGs X (a :: es) (LGs X.K pr (g :: gs)) := by
  refine ⟨fun pins s σ H vs us Q I rv h => (pgs_cons h1 h2 he).run pins s σ H vs us Q I rv ?_⟩
  obtain ⟨W, env, fp, xf, f, fr, rs, Q0, E, S, o, hq, k⟩ := h
  cases rs with
  | nil => exact hq.elim
  | cons r rs =>
    obtain ⟨v, us, f1, f2, rfl, rfl, o1, o2⟩ := o.head
    refine ⟨v, us, rfl, W, env, fp, xf, f1, fr ++ f2, r, _, E, ?_, ?_, hq, fun e hq σ' fp' xf' E' S' y z => ?_⟩
    · refine S.perm ?_ fun _ m => m
      rw [List.append_assoc, List.append_assoc]
      refine List.Perm.append_left fr ?_
      rw [← List.append_assoc, ← List.append_assoc]
      exact List.perm_append_comm.append_right _
    · refine o1.refp fun a m => ?_
      simp only [List.mem_append] at m ⊢
      rcases m with (m | m) | m | m
      · exact .inl m
      · exact .inr (.inl (.inr m))
      · exact .inr (.inl (.inl m))
      · exact .inr (.inr m)
    · rw [List.append_assoc] at S'
      refine ⟨W, e, fp', xf', f2, fr, rs, _, E', S', ?_, hq, fun e2 hq2 σ2 fp2 xf2 E2 S2 y2 z2 => ?_⟩
      · refine o2.refp fun a m => ?_
        simp only [List.mem_append] at m ⊢
        rcases m with m | m | m
        · exact .inl m
        · exact .inr (.inl (.inr m))
        · exact (y a m).elim (fun q => .inr (.inl (.inl q))) fun q => .inr (.inr q)
      · refine k e2 hq2 σ2 fp2 xf2 E2 S2 (fun a m => ?_) fun i m => (z2 i m).trans (z i m)
        rcases y2 a m with q | q
        · exact .inl (List.mem_append_right _ q)
        · exact (y a q).imp (List.mem_append_left _) id
theorem parts_ok {K : PySem.W.Frag} {H0 : Hp} {fq : List Addr} {W : Wd} {H : Hp} {v : V} {r : Rs} {rs : List Rs} {f fp xf fr : List Addr} (h : r.parts = some rs) (o : ResAll K H0 fq W H [v] [r] f) (S : Sat K W H (fr ++ (f ++ fp)) xf) :
    ∃ a vs g, v = .ref a ∧ SqT K H a vs ∧ ResAll K H0 fq W H vs rs g ∧ Sat K W H (fr ++ (g ++ fp)) xf ∧ ∀ x ∈ g, x ∈ f := by
  cases r with
  | fz d =>
    cases d with
    | tup ds =>
      cases h
      cases o with
      | fz a b =>
        cases b
        cases a with
        | tup g rr =>
          refine ⟨_, _, [], rfl, .of (S.sub _ _ g), ?_, S, fun _ m => by cases m⟩
          have key : ∀ {vs : List V} {ds : List D}, RepAll K W vs ds → ResAll K H0 fq W H vs (ds.map .fz) [] := by
            intro vs ds
            induction ds generalizing vs with
            | nil => intro h; cases h; exact .nil
            | cons d ds ih => intro h; cases h with | cons a b => exact .fz a (ih b)
          exact key rr
    | _ => cases h
  | nw t =>
    cases t with
    | tup ts =>
      cases h
      cases o with
      | nw a b =>
        cases b
        rw [List.append_nil] at S ⊢
        cases a with
        | tup g rr =>
          rename_i p us f'
          have key : ∀ {vs : List V} {ts : List OT} {f : List Addr}, OwnAll K W H vs ts f → ResAll K H0 fq W H vs (ts.map nwOf) f := by
            intro vs ts
            induction ts generalizing vs with
            | nil => intro f h; cases h; exact .nil
            | cons t ts ih =>
              intro f h
              cases h with
              | cons a b =>
                cases t with
                | leaf d => cases a with | leaf a => exact .fz a (ih b)
                | lst _ => exact .nw a (ih b)
                | tup _ => exact .nw a (ih b)
                | ins _ _ _ => exact .nw a (ih b)
                | d0 => exact .nw a (ih b)
                | xo => exact .nw a (ih b)
                | dk _ _ => exact .nw a (ih b)
          refine ⟨p, us, f', rfl, .of g, key rr, ?_, fun _ m => List.mem_cons_of_mem _ m⟩
          refine Sat.less (g := [p]) (S.perm ?_ fun _ m => m)
          exact (List.perm_append_comm (l₁ := [p]) (l₂ := fr)).append_right (f' ++ fp) |>.trans (by rw [List.append_assoc]; exact .refl _) |> fun z => by rw [List.append_assoc] at z; exact z
    | _ => cases h
  | br t => cases h
  | ex t =>
    cases t with
    | tup ts =>
      cases h
      cases o with
      | ex a z b =>
        cases b
        cases a with
        | tup g rr =>
          rename_i p us f'
          have key : ∀ {vs : List V} {ts : List OT} {f : List Addr}, OwnAll K W H vs ts f → (∀ a ∈ f, W.S a = none ∧ a ∉ fq) → ResAll K H0 fq W H vs (ts.map exOf) [] := by
            intro vs ts
            induction ts generalizing vs with
            | nil => intro f h _; cases h; exact .nil
            | cons t ts ih =>
              intro f h z
              cases h with
              | cons a b =>
                have zb := fun c m => z c (List.mem_append_right _ m)
                have za := fun c m => z c (List.mem_append_left _ m)
                cases t with
                | leaf d => cases a with | leaf a => exact .fz a (ih b zb)
                | lst _ => exact .ex a za (ih b zb)
                | tup _ => exact .ex a za (ih b zb)
                | ins _ _ _ => exact .ex a za (ih b zb)
                | d0 => exact .ex a za (ih b zb)
                | xo => exact .ex a za (ih b zb)
                | dk _ _ => exact .ex a za (ih b zb)
          exact ⟨p, us, [], rfl, .of g, key rr fun c m => z c (List.mem_cons_of_mem _ m), S, fun _ m => by cases m⟩
    | _ => cases h
theorem ResAll.len {K : PySem.W.Frag} {H0 : Hp} {fq : List Addr} {W : Wd} {H : Hp} {vs : List V} {rs : List Rs} {f : List Addr} (o : ResAll K H0 fq W H vs rs f) : vs.length = rs.length := by
  induction o with
  | nil => rfl
  | fz _ _ ih => simp [ih]
  | nw _ _ ih => simp [ih]
  | br _ _ _ ih => simp [ih]
  | ex _ _ _ ih => simp [ih]
theorem dg_tup {k n : Nat} {pr : Nat → Prop} (hc : X.calm = true) (h : PGs X es (LGs X.K pr gs)) (hg : gs.length = n := by rfl) (hn : (assignEach es X.env).length = n := by rfl) (hst : (assignEach es X.env).findIdx? (·.1) = none := by rfl) : PG X (.Tuple es k pos) (LG X.K pr (gT gs)) := by
  refine ⟨fun pins s σ H v u Q I rv h' => (pg_tup hc h hn hst).run pins s σ H v u Q I rv ?_⟩
  obtain ⟨W, env, fp, xf, f, fr, r, Q0, E, S, o, ⟨ps, ep, el, hq⟩, kk⟩ := h'
  obtain ⟨a, vs, g, rfl, ht, os, S', y⟩ := parts_ok ep o S
  refine ⟨a, vs, rfl, ht, by rw [os.len, el, hg], W, env, fp, xf, g, fr, ps, Q0, E, S', os.refp fun a m => ?_, hq, fun e q σ' fp' xf' E' S' y2 z2 => kk e q σ' fp' xf' E' S' (fun c m => (y2 c m).imp (y c) id) z2⟩
  simp only [List.mem_append] at m ⊢
  rcases m with m | m | m
  · exact .inl m
  · exact .inr (.inl (y a m))
  · exact .inr (.inr m)
theorem LG.of {K : PySem.W.Frag} {W W1 : Wd} {H H1 : Hp} {fp xf : List Addr} {σ : L2.St} {env : Env} {r : Rs} {v : V} {g : DG} {Q0 : Env → Prop} {Q : L2.St → Hp → Prop} (S : Sat K W H fp xf) (t : Stp W H [] W1 H1) (E : EnvOk K W1 H1 σ env fp xf) (S1 : Sat K W1 H1 fp xf) (o : ResOk K H fp W1 H1 v r) (h : g env r Q0)
    (k : ∀ e, Q0 e → ∀ σ' fp' xf', Post K W H fp pr σ σ' W1 H1 e fp' xf' → Q σ' H1) : LG K (· ∈ pr) g v σ H1 Q := by
  have fin : ∀ f, Sat K W1 H1 ([] ++ (f ++ fp)) xf → (∀ a ∈ f, H a = none) → ResAll K H1 ([] ++ (f ++ fp)) W1 H1 [v] [r] f → LG K (· ∈ pr) g v σ H1 Q := fun f s z o => ⟨W1, env, fp, xf, f, [], r, Q0, E, s, o, h, fun e q σ' fp' xf' E' S' y2 z2 =>
    k e q σ' fp' xf' ⟨t.up, E', S', fun a m => (y2 a m).elim (fun q => .inr (z a q)) .inl, z2⟩⟩
  cases r with
  | fz d => exact fin [] S1 (fun _ m => by cases m) (.fz o .nil)
  | nw x =>
    obtain ⟨f, so, sf, z⟩ := o.toSlot trivial S S1
    have w := ResAll.nw (H := H1) (fp := [] ++ (f ++ fp)) (v := v) so .nil
    rw [List.append_nil] at w
    exact fin f sf z w
  | br x =>
    obtain ⟨f, o, z⟩ := o
    exact fin [] S1 (fun _ m => by cases m) (.br o z .nil)
  | ex x =>
    obtain ⟨f, o, z⟩ := o
    exact fin [] S1 (fun _ m => by cases m) (.ex o z .nil)
theorem ds_asgG {tg : Expr} (ha : PE X a (LP X.K ma)) (hg : PG X tg (LG X.K (· ∈ pr) g)) (hs : swapsWithSole [tg] a pos.line X.env = pure false := by rfl) (hw : swappedStores [tg] a X.env = pure none := by rfl)
    (h1 : (assignEach [tg] X.env).map (·.2) = [assign tg X.env] := by rfl) : PS X (.Assign [tg] a pos) (LS X.K ex pr (mAsgG g ma)) := ps_imp (ps_asg ha hg hs hw h1) fun D σ H h => by
  obtain ⟨W, env, fp, xf, K0, E, S, hm, nx, bk, ct, rt⟩ := h
  refine LP.next E S hm fun r hr v W1 H1 t1 S1 E1 o => ?_
  exact LG.of S t1 E1 S1 o hr fun e q σ' fp' xf' P => nx e q σ' W1 H1 fp' xf' P
theorem ds_asg {i : Nat} {x : Str} {p : Pos} (hN : X.N.Nodup) (hi : X.N[i]? = some x) (ha : PE X a (LP X.K ma)) (hx : Loc X.env.scope x := by first | exact Or.inl rfl | exact Or.inr rfl) (hp : i ∉ pr := by decide) (hs : swapsWith a (some (.Name x p)) pos.line X.env = pure false := by rfl)
    (hf : X.fn x = true ∨ X.env.scope.names.lookup x = some .local := by first | exact .inl rfl | exact .inr rfl | assumption) : PS X (.Assign [.Name x p] a pos) (LS X.K ex pr (mAsgG (gN i) ma)) :=
  ps_imp (ps_set hN hi hx ha hs hf) fun D σ H h => by
  obtain ⟨W, env, fp, xf, K0, E, S, hm, nx, bk, ct, rt⟩ := h
  refine LP.next E S hm fun r hr v W1 H1 t1 S1 E1 o => ?_
  obtain ⟨fp', xf', P⟩ := Post.store (i := i) (pr := pr) S t1 E1 S1 o hr.1 hp
  exact nx _ hr.2 _ W1 H1 fp' xf' P
theorem ip_of {op : Operator} {r : R2} (ho : OpR X (inplaceOp op) r) : PIp X op r := fun pins s σ H x y v u Q I rx ry q => ho pins s σ H x y v u Q I rx ry q
theorem ds_aug {i : Nat} {x : Str} {p : Pos} {op : Operator} {r2 : R2} {Rd : Rs → Rs → (Rs → Prop) → Prop} (ho : OpR X (inplaceOp op) r2)
    (I : ∀ (H : Hp) (Q : VK) (W : Wd) (fp xf : List Addr) (Q0 : Rs → Prop) r1 rr v1 v2 W2 H2, Rd r1 rr Q0 → Ops X.K H Q Q0 W2 H2 W fp xf → ResOk X.K H fp W2 H2 v1 r1 → ResOk X.K H fp W2 H2 v2 rr → r2 v1 v2 H2 Q)
    (hN : X.N.Nodup) (hi : X.N[i]? = some x) (ha : PE X a (LP X.K ma)) (hx : Loc X.env.scope x := by first | exact Or.inl rfl | exact Or.inr rfl) (hp : i ∉ pr := by decide)
    (hf : X.fn x = true ∨ X.env.scope.names.lookup x = some .local := by first | exact .inl rfl | exact .inr rfl | assumption) : PS X (.AugAssign (.Name x p) op a pos) (LS X.K ex pr (mAug i Rd ma)) :=
  ps_imp (ps_aug hN hi hx ha (ip_of ho) hf) fun D σ H h => by
  obtain ⟨W, env, fp, xf, K0, E, S, ⟨d, he, hm⟩, nx, bk, ct, rt⟩ := h
  obtain ⟨v, ev, _, od⟩ := E.get he S
  refine ⟨v, ev, LP.next E S hm fun r hr v2 W1' H1 t1' S1' E1' o' => ?_⟩
  obtain ⟨W1, t1, S1, _, o⟩ := ffz_ok S t1' S1' o'
  have E1 := E.keep S t1
  have l := t1.le S fun _ m => by cases m
  exact I H _ W fp xf _ _ _ v v2 W1 H1 hr ⟨S, t1, S1, fun r hr v' W' H' t' S' o' => by
    obtain ⟨fp', xf', P⟩ := Post.store (i := i) (pr := pr) S t' (E.keep S t') S' o' hr.1 hp
    exact nx _ hr.2 _ W' H' fp' xf' P⟩ ((od d rfl).mono l) o
theorem ds_augI {i : Nat} {x : Str} {p : Pos} {op : Operator} {C C' : Int → Int → Prop} {g : Int → Int → Int} {g' : Int → Int → Int} (ho : OpR X (inplaceOp op) (rI C' fun i j => .int (g' i j))) (hC : ∀ i j, C i j → C' i j) (hg : ∀ i j, C i j → g' i j = g i j)
    (hN : X.N.Nodup) (hi : X.N[i]? = some x) (ha : PE X a (LP X.K ma)) (hx : Loc X.env.scope x := by first | exact Or.inl rfl | exact Or.inr rfl) (hp : i ∉ pr := by decide)
    (hf : X.fn x = true ∨ X.env.scope.names.lookup x = some .local := by first | exact .inl rfl | exact .inr rfl | assumption) : PS X (.AugAssign (.Name x p) op a pos) (LS X.K ex pr (mAug i (i2 C fun i j => .int (g i j)) ma)) :=
  ds_aug ho (fun H Q W fp xf Q0 r1 rr v1 v2 W2 H2 hr O o1 o2 => by
    obtain ⟨i, j, rfl, rfl, hc, q⟩ := i2_inv hr
    refine ⟨i, j, int_of o1, int_of o2, hC i j hc, O.fin q ?_⟩
    show Rep X.K W2 (V.int (g' i j)) _
    rw [hg i j hc]
    exact .int _) hN hi ha hx hp hf
theorem ds_while (hp : PassesOwn (model X.prog X.w) X.A X.env X.xe) (hc : PT X c (LT X.K ta)) (hb : PSs X s1 (LS X.K ex pr m)) : PS X (.While c s1 [] pos) (LS X.K ex pr (mWhile ta m)) := ps_imp (ps_while hp hc hb) fun D σ H h => by
  obtain ⟨W, env, fp, xf, K0, E, S, ⟨Wm, ⟨m0, w0⟩, turn⟩, nx, bk, ct, rt⟩ := h
  refine ⟨fun m σ' H' => ∃ e W' fp' xf', Wm m e ∧ Post X.K W H fp pr σ σ' W' H' e fp' xf', ⟨m0, env, W, fp, xf, w0, .pure .refl E S⟩, fun m1 σ' H' ⟨e, W', fp', xf', w, P⟩ => ?_⟩
  refine LT.next P.E P.S (turn m1 e w) fun c hc W1 H1 t1 S1 E1 => ?_
  have P1 := P.trans (.pure t1 E1 S1)
  cases c with
  | true =>
    refine iteT ⟨fun σ2 H2 => ∃ m', m' < m1 ∧ ∃ e W' fp' xf', Wm m' e ∧ Post X.K W H fp pr σ σ2 W' H2 e fp' xf', fun _ _ h => h, ?_⟩
    exact LS.from P1 hc (fun e ⟨m', l, w'⟩ σ2 W2 H2 fp2 xf2 P2 => ⟨m', l, e, W2, fp2, xf2, w', P2⟩) nx (fun e ⟨m', l, w'⟩ σ2 W2 H2 fp2 xf2 P2 => ⟨m', l, e, W2, fp2, xf2, w', P2⟩) rt
  | false => exact iteF (nx e hc σ' W1 H1 fp' xf' P1)
end
end R
namespace R
open PySem PySem.Spec PyProof.Rows L2
def ItOk (K : PySem.W.Frag) (J : It) (xs : List Rs) (W : Wd) (H : Hp) (f fp : List Addr) : Prop := ∀ W' H' fp' xf', Stp W H f W' H' → W.Le W' → Sat K W' H' fp' xf' → (∀ a ∈ fp', a ∈ fp ∨ H a = none) →
  (∀ i, xs.length ≤ i → J.stop i H') ∧ (∀ i, i < xs.length → J.go i H') ∧ ∀ i x H'' r, J.yld i H' x H'' → xs[i]? = some r → Stp W' H' [] W' H'' ∧ Sat K W' H'' fp' xf' ∧ ResOk K H' fp' W' H'' x r
def LI (K : PySem.W.Frag) (m : DI) : TI := fun σ H R => ∃ (W : Wd) (env : Env) (fp xf : List Addr) (Q0 : Bool → List Rs → Prop), EnvOk K W H σ env fp xf ∧ Sat K W H fp xf ∧ m env Q0 ∧
  ∀ st xs, Q0 st xs → ∀ J W' H', Stp W H [] W' H' → Sat K W' H' fp xf → (∀ f, (st = true ∨ f = []) → (∀ a ∈ f, a ∈ fp) → ItOk K J xs W' H' f fp) → R J H'
section
variable {K : PySem.W.Frag} {W W1 W2 W' : Wd} {H H1 H2 H' : Hp} {f f1 fp fp1 fp2 xf xf1 xf2 : List Addr} {σ σ1 σ2 : L2.St} {Q : VK} {r : Rs} {v : V} {env env1 env2 : Env} {pr : List Nat}
theorem items_stay {ts : List OT} (o : ResOk K H fp W1 H1 v r) (ek : r.t.kids = some ts) (S1 : Sat K W1 H1 fp xf) : ∃ (p : Addr) (vs : List V), v = .ref p ∧ vs.length = ts.length ∧
    (((∃ xs, SqL K H1 p xs) ∧ ∀ f, (r.stays = true ∨ f = []) → (∀ a ∈ f, a ∈ fp) → ∀ W' H' fp' xf', Stp W1 H1 f W' H' → W1.Le W' → Sat K W' H' fp' xf' → SqL K H' p vs) ∨
      ((∃ xs, SqT K H1 p xs) ∧ ∀ f, (r.stays = true ∨ f = []) → (∀ a ∈ f, a ∈ fp) → ∀ W' H' fp' xf', Stp W1 H1 f W' H' → W1.Le W' → Sat K W' H' fp' xf' → SqT K H' p vs)) ∧
    ∀ f, (r.stays = true ∨ f = []) → (∀ a ∈ f, a ∈ fp) → ∀ W' H' fp' xf', Stp W1 H1 f W' H' → W1.Le W' → Sat K W' H' fp' xf' → (∀ a ∈ fp', a ∈ fp ∨ H1 a = none) → ∀ (i : Nat) (u : V) (x : Rs), vs[i]? = some u → (ts.map (Rs.kid r))[i]? = some x → ResOk K H' fp' W' H' u x := by
  have lf : ∀ {d : D}, Rep K W1 v d → (OT.leaf d).kids = some ts → ∃ (p : Addr) (vs : List V) (ds : List D), v = .ref p ∧ ts = ds.map .leaf ∧ RepAll K W1 vs ds ∧
      (((∃ xs, SqL K H1 p xs) ∧ ∀ W' H' fp' xf', W1.Le W' → Sat K W' H' fp' xf' → SqL K H' p vs) ∨ ((∃ xs, SqT K H1 p xs) ∧ ∀ W' H' fp' xf', W1.Le W' → Sat K W' H' fp' xf' → SqT K H' p vs)) := by
    intro d q h
    cases q with
    | lst g r => cases h; exact ⟨_, _, _, rfl, rfl, r, .inl ⟨⟨_, .of (S1.sub _ _ g)⟩, fun W' H' fp' xf' l S => .of (S.sub _ _ (l.g _ _ g))⟩⟩
    | tup g r => cases h; exact ⟨_, _, _, rfl, rfl, r, .inr ⟨⟨_, .of (S1.sub _ _ g)⟩, fun W' H' fp' xf' l S => .of (S.sub _ _ (l.g _ _ g))⟩⟩
    | rol g r => cases h; exact ⟨_, _, _, rfl, rfl, r, .inl ⟨⟨_, SqL.mono S1.sub g⟩, fun W' H' fp' xf' l S => SqL.mono S.sub (SqL.mono l.g g)⟩⟩
    | non => cases h
    | bl _ => cases h
    | int _ => cases h
    | str _ => cases h
    | ins _ _ => cases h
    | vol _ => cases h
    | dct _ _ => cases h
    | any _ => cases h
    | adr _ => cases h
    | cod _ => cases h
    | obj _ _ => cases h
  have key : ∀ {vs : List V} {ds : List D} {i : Nat} {u : V} {d : D}, RepAll K W1 vs ds → vs[i]? = some u → ds[i]? = some d → Rep K W1 u d := by
    intro vs ds i
    induction i generalizing vs ds with
    | zero => intro u d h e1 e2; cases h with | nil => simp at e1 | cons a b => simp at e1 e2; subst e1 e2; exact a
    | succ i ih => intro u d h e1 e2; cases h with | nil => simp at e1 | cons a b => exact ih b (by simpa using e1) (by simpa using e2)
  have fzk : ∀ {r : Rs} {ds : List D} {vs : List V}, RepAll K W1 vs ds → ∀ W' H' fp', W1.Le W' → ∀ (i : Nat) (u : V) (x : Rs), vs[i]? = some u → ((ds.map OT.leaf).map (Rs.kid r))[i]? = some x → ResOk K H' fp' W' H' u x := by
    intro r ds vs rr W' H' fp' l i u x eu ex
    rw [List.getElem?_map, List.getElem?_map] at ex
    cases q : ds[i]? with
    | none => rw [q] at ex; cases ex
    | some d =>
      rw [q] at ex
      have ex : some (r.kid (.leaf d)) = some x := ex
      cases ex
      have w := (key rr eu q).mono l
      cases r <;> exact w
  -- cells that stay
  have own : ∀ {t : OT} {g : List Addr}, Own K W1 H1 v t g → t.kids = some ts → (∀ a ∈ g, W1.S a = none) → ∃ (p : Addr) (vs : List V), v = .ref p ∧ vs.length = ts.length ∧
      (((∃ xs, SqL K H1 p xs) ∧ ∀ f, (∀ a ∈ g, a ∉ f) → ∀ W' H' fp' xf', Stp W1 H1 f W' H' → W1.Le W' → Sat K W' H' fp' xf' → SqL K H' p vs) ∨ ((∃ xs, SqT K H1 p xs) ∧ ∀ f, (∀ a ∈ g, a ∉ f) → ∀ W' H' fp' xf', Stp W1 H1 f W' H' → W1.Le W' → Sat K W' H' fp' xf' → SqT K H' p vs)) ∧
      ∀ f, (∀ a ∈ g, a ∉ f) → ∀ W' H', Stp W1 H1 f W' H' → W1.Le W' → ∀ (i : Nat) (u : V), vs[i]? = some u → ∃ (t : OT) (h : List Addr), ts[i]? = some t ∧ Own K W' H' u t h ∧ ∀ a ∈ h, a ∈ g := by
    intro t g o h z
    have go : ∀ {p : Addr} {vs : List V} {g' : List Addr}, OwnAll K W1 H1 vs ts g' → (∀ a ∈ g', a ∈ g) → ∀ f, (∀ a ∈ g, a ∉ f) → ∀ W' H', Stp W1 H1 f W' H' → W1.Le W' → ∀ (i : Nat) (u : V), vs[i]? = some u → ∃ (t : OT) (h : List Addr), ts[i]? = some t ∧ Own K W' H' u t h ∧ ∀ a ∈ h, a ∈ g := by
      intro p vs g' w sub f n W' H' st l i u eu
      have hi : i < ts.length := by
        rw [← w.len]
        exact (List.getElem?_eq_some_iff.mp eu).1
      obtain ⟨u', h, e1, o1, s1⟩ := w.get (List.getElem?_eq_getElem hi)
      rw [eu] at e1
      cases e1
      exact ⟨_, h, List.getElem?_eq_getElem hi, o1.mono l fun a m o e => st.kp a o e (n a (sub a (s1 a m))) (z a (sub a (s1 a m))), fun a m => sub a (s1 a m)⟩
    cases o with
    | leaf q =>
      obtain ⟨p, vs, ds, e1, e2, rr, zz⟩ := lf q h
      refine ⟨p, vs, e1, by rw [rr.len, e2, List.length_map], ?_, ?_⟩
      · rcases zz with ⟨y, w⟩ | ⟨y, w⟩
        · exact .inl ⟨y, fun _ _ W' H' fp' xf' _ l S => w W' H' fp' xf' l S⟩
        · exact .inr ⟨y, fun _ _ W' H' fp' xf' _ l S => w W' H' fp' xf' l S⟩
      · subst e2
        exact go (p := p) (OwnAll.leafs (vs := []) rr) fun _ m => by cases m
    | lst g1 w =>
      cases h
      exact ⟨_, _, rfl, w.len, .inl ⟨⟨_, .of g1⟩, fun f n W' H' fp' xf' st l S => .of (st.kp _ _ g1 (n _ List.mem_cons_self) (z _ List.mem_cons_self))⟩, go (p := 0) w fun _ m => List.mem_cons_of_mem _ m⟩
    | tup g1 w =>
      cases h
      exact ⟨_, _, rfl, w.len, .inr ⟨⟨_, .of g1⟩, fun f n W' H' fp' xf' st l S => .of (st.kp _ _ g1 (n _ List.mem_cons_self) (z _ List.mem_cons_self))⟩, go (p := 0) w fun _ m => List.mem_cons_of_mem _ m⟩
    | ins _ _ => cases h
    | d0 _ => cases h
    | xo _ => cases h
    | dk _ _ => cases h
  cases r with
  | fz d =>
    obtain ⟨p, vs, ds, rfl, rfl, rr, z⟩ := lf o ek
    refine ⟨p, vs, rfl, by rw [rr.len, List.length_map], ?_, fun f _ _ W' H' fp' xf' t l S y i u x eu ex => fzk (r := .fz d) rr W' H' fp' l i u x eu ex⟩
    rcases z with ⟨y, w⟩ | ⟨y, w⟩
    · exact .inl ⟨y, fun _ _ _ W' H' fp' xf' _ l S => w W' H' fp' xf' l S⟩
    · exact .inr ⟨y, fun _ _ _ W' H' fp' xf' _ l S => w W' H' fp' xf' l S⟩
  | nw t =>
    obtain ⟨g, ow, nd, z⟩ := o
    obtain ⟨p, vs, rfl, hl, zz, w⟩ := own ow ek fun a m => (z a m).2.2
    refine ⟨p, vs, rfl, hl, ?_, fun f hf _ W' H' fp' xf' t l S y i u x eu ex => ?_⟩
    · rcases zz with ⟨y, w⟩ | ⟨y, w⟩
      · exact .inl ⟨y, fun f hf _ W' H' fp' xf' t l S => w f (fun a _ m => by rw [hf.resolve_left Bool.false_ne_true] at m; cases m) W' H' fp' xf' t l S⟩
      · exact .inr ⟨y, fun f hf _ W' H' fp' xf' t l S => w f (fun a _ m => by rw [hf.resolve_left Bool.false_ne_true] at m; cases m) W' H' fp' xf' t l S⟩
    · have hf := hf.resolve_left Bool.false_ne_true
      subst hf
      obtain ⟨c, h, e1, o1, s1⟩ := w [] (fun a _ m => by cases m) W' H' t l i u eu
      rw [List.getElem?_map, e1] at ex
      cases ex
      have zz : ∀ a ∈ h, W'.S a = none := fun a m => (t.kpS (ow.alloc a (s1 a m))).2.trans (z a (s1 a m)).2.2
      cases c with
      | leaf d => cases o1 with | leaf q => exact q
      | lst _ => exact ⟨h, o1, zz⟩
      | tup _ => exact ⟨h, o1, zz⟩
      | ins _ _ _ => exact ⟨h, o1, zz⟩
      | d0 => exact ⟨h, o1, zz⟩
      | xo => exact ⟨h, o1, zz⟩
      | dk _ _ => exact ⟨h, o1, zz⟩
  | br t =>
    obtain ⟨g, ow, z⟩ := o
    obtain ⟨p, vs, rfl, hl, zz, w⟩ := own ow ek z
    refine ⟨p, vs, rfl, hl, ?_, fun f hf _ W' H' fp' xf' t l S y i u x eu ex => ?_⟩
    · rcases zz with ⟨y, w⟩ | ⟨y, w⟩
      · exact .inl ⟨y, fun f hf _ W' H' fp' xf' t l S => w f (fun a _ m => by rw [hf.resolve_left Bool.false_ne_true] at m; cases m) W' H' fp' xf' t l S⟩
      · exact .inr ⟨y, fun f hf _ W' H' fp' xf' t l S => w f (fun a _ m => by rw [hf.resolve_left Bool.false_ne_true] at m; cases m) W' H' fp' xf' t l S⟩
    · have hf := hf.resolve_left Bool.false_ne_true
      subst hf
      obtain ⟨c, h, e1, o1, s1⟩ := w [] (fun a _ m => by cases m) W' H' t l i u eu
      rw [List.getElem?_map, e1] at ex
      cases ex
      have zz : ∀ a ∈ h, W'.S a = none := fun a m => (t.kpS (ow.alloc a (s1 a m))).2.trans (z a (s1 a m))
      cases c with
      | leaf d => cases o1 with | leaf q => exact q
      | lst _ => exact ⟨h, o1, zz⟩
      | tup _ => exact ⟨h, o1, zz⟩
      | ins _ _ _ => exact ⟨h, o1, zz⟩
      | d0 => exact ⟨h, o1, zz⟩
      | xo => exact ⟨h, o1, zz⟩
      | dk _ _ => exact ⟨h, o1, zz⟩
  | ex t =>
    obtain ⟨g, ow, z⟩ := o
    obtain ⟨p, vs, rfl, hl, zz, w⟩ := own ow ek fun a m => (z a m).1
    refine ⟨p, vs, rfl, hl, ?_, fun f _ hf W' H' fp' xf' t l S y i u x eu ex => ?_⟩
    · rcases zz with ⟨y, w⟩ | ⟨y, w⟩
      · exact .inl ⟨y, fun f _ hf W' H' fp' xf' t l S => w f (fun a m m2 => (z a m).2 (hf a m2)) W' H' fp' xf' t l S⟩
      · exact .inr ⟨y, fun f _ hf W' H' fp' xf' t l S => w f (fun a m m2 => (z a m).2 (hf a m2)) W' H' fp' xf' t l S⟩
    · obtain ⟨c, h, e1, o1, s1⟩ := w f (fun a m m2 => (z a m).2 (hf a m2)) W' H' t l i u eu
      rw [List.getElem?_map, e1] at ex
      cases ex
      have zz : ∀ a ∈ h, W'.S a = none ∧ a ∉ fp' := fun a m => by
        have ma := s1 a m
        refine ⟨(t.wx a (ow.alloc a ma) fun m2 => (z a ma).2 (hf a m2)).2.trans (z a ma).1, fun q => ?_⟩
        rcases y a q with q | q
        · exact (z a ma).2 q
        · exact ow.alloc a ma q
      cases c with
      | leaf d => cases o1 with | leaf q => exact q
      | lst _ => exact ⟨h, o1, zz⟩
      | tup _ => exact ⟨h, o1, zz⟩
      | ins _ _ _ => exact ⟨h, o1, zz⟩
      | d0 => exact ⟨h, o1, zz⟩
      | xo => exact ⟨h, o1, zz⟩
      | dk _ _ => exact ⟨h, o1, zz⟩
end
def iSeq (K : PySem.W.Frag) (tl : TE) : TI := fun σ H R => tl σ H fun x H1 => ∃ a, x = .ref a ∧ (((∃ xs, SqL K H1 a xs) ∧ R (Itl K a) H1) ∨ ((∃ xs, SqT K H1 a xs) ∧ R (Itt K a) H1))
section
variable {X : Cx} {tg a b c : Expr} {ma mb mc : DE} {pos : Pos} {ta tb : DT} {st : Stmt} {rest s1 s2 : List Stmt} {m m1 m2 : DS} {pr : List Nat} {g : DG} {gs : List DG} {es : List Expr} {mi : DI} {mr : DA}
theorem pi_seq {l : Expr} {tl : TE} (hl : PE X l tl) : PI X tg l (iSeq X.K tl) := by
  refine ⟨fun pins s σ H R I h => ?_⟩
  refine thn (hl.run pins s σ H _ I h) fun v s1 ⟨x, H1, I1, r1, q1⟩ => ?_
  obtain ⟨a, e, q⟩ := q1
  subst e
  cases r1
  rcases q with ⟨⟨xs, hq⟩, q⟩ | ⟨⟨xs, hq⟩, q⟩
  · obtain ⟨its, rv, p, hz⟩ := I1.list hq
    refine wpAny_pyIter_list p.isList ?_
    refine ⟨s1.heap.objs.size, [s1.heap.objs.size], _, _, H1, rfl, I1.kept (t' := s1.toks) fun b o e => Heap.get?_push_of_some _ e, turn_list a _, ⟨_, Heap.get?_push_size _ rfl, rfl, rfl⟩, fun b hb => ?_, q⟩
    have e : b = s1.heap.objs.size := by simpa using hb
    subst e
    exact I1.fpOk (Nat.le_refl _) (I1.hok.fresh (Nat.le_refl _))
  · obtain ⟨its, rv, p, hz⟩ := I1.tuple hq
    refine wpAny_pyIter_tuple (show s1.heap.IsTuple a its.toArray from p) ?_
    refine ⟨s1.heap.objs.size, [s1.heap.objs.size], _, _, H1, rfl, I1.kept (t' := s1.toks) fun b o e => Heap.get?_push_of_some _ e, turn_tuple a _, ⟨_, Heap.get?_push_size _ rfl, rfl, rfl⟩, fun b hb => ?_, q⟩
    have e : b = s1.heap.objs.size := by simpa using hb
    subst e
    exact I1.fpOk (Nat.le_refl _) (I1.hok.fresh (Nat.le_refl _))
theorem pi_imp {t t' : TI} (h : PI X tg a t) (k : ∀ σ H Q, t' σ H Q → t σ H Q) : PI X tg a t' := ⟨fun pins s σ H Q I w => h.run pins s σ H Q I (k σ H Q w)⟩
theorem di_list (ha : PE X a (LP X.K ma)) : PI X tg a (LI X.K (mItL ma)) := pi_imp (pi_seq ha) fun σ H R h => by
  obtain ⟨W, env, fp, xf, Q0, E, S, hm, k⟩ := h
  refine LP.next E S hm fun r ⟨ts, ek, hq⟩ v W1' H1 t1' S1' E1' o' => ?_
  obtain ⟨W1, t1, S1, _, o⟩ := ffz_ok S t1' S1' o'
  obtain ⟨p, vs, rfl, hl, zz, w⟩ := items_stay o ek S1
  have lx : (ts.map (Rs.kid r.ffz)).length = ts.length := List.length_map _
  refine ⟨p, rfl, ?_⟩
  rcases zz with ⟨e, z⟩ | ⟨e, z⟩
  · refine .inl ⟨e, k _ _ hq _ W1 H1 t1 S1 fun f hf hs W' H' fp' xf' t l S' y => ⟨fun i hi => ⟨vs, z f hf hs W' H' fp' xf' t l S', by omega⟩, fun i hi => ?_, fun i x H'' c hy hx => ?_⟩⟩
    · have hi2 : i < vs.length := by omega
      exact ⟨vs, vs[i], z f hf hs W' H' fp' xf' t l S', List.getElem?_eq_getElem hi2⟩
    · obtain ⟨rfl, hv⟩ := hy
      exact ⟨.refl, S', w f hf hs W' H'' fp' xf' t l S' y i x c (hv vs (z f hf hs W' H'' fp' xf' t l S')) hx⟩
  · refine .inr ⟨e, k _ _ hq _ W1 H1 t1 S1 fun f hf hs W' H' fp' xf' t l S' y => ⟨fun i hi => ⟨vs, z f hf hs W' H' fp' xf' t l S', by omega⟩, fun i hi => ?_, fun i x H'' c hy hx => ?_⟩⟩
    · have hi2 : i < vs.length := by omega
      exact ⟨vs, vs[i], z f hf hs W' H' fp' xf' t l S', List.getElem?_eq_getElem hi2⟩
    · obtain ⟨rfl, hv⟩ := hy
      exact ⟨.refl, S', w f hf hs W' H'' fp' xf' t l S' y i x c (hv vs (z f hf hs W' H'' fp' xf' t l S')) hx⟩
theorem rng_len (lo : Int) (n : Nat) : (rng lo n).length = n := by unfold rng; rw [List.length_map, List.length_range]
theorem rng_get {lo : Int} {n i : Nat} {r : Rs} (h : (rng lo n)[i]? = some r) : r = .fz (.int (lo + (i : Int))) := by
  unfold rng at h
  rw [List.getElem?_map] at h
  cases q : (List.range n)[i]? with
  | none => rw [q] at h; cases h
  | some j =>
    rw [q] at h
    have hj : j = i := by
      obtain ⟨hi, e⟩ := List.getElem?_eq_some_iff.mp q
      rw [List.getElem_range] at e
      exact e.symm
    subst hj
    cases h
    rfl
theorem rng_ok {K : PySem.W.Frag} {W : Wd} {H : Hp} {f fp : List Addr} {lo : Int} {n : Nat} : ItOk K (Itr lo n) (rng lo n) W H f fp := fun W' H' fp' xf' t l S y => ⟨fun i hi => by rw [rng_len] at hi; exact hi, fun i hi => by rw [rng_len] at hi; exact hi, fun i x H'' r hy hx => by
  obtain ⟨rfl, rfl⟩ := hy
  rw [rng_get hx]
  exact ⟨.refl, S, Rep.int _⟩⟩
theorem di_rng1 {p : Pos} (hm : X.mg "range" = none) (ha : PE X a (LP X.K ma)) (hg : Gl X "range" := by rfl) (hs : starEach [a] X.env = [(false, eval a X.env)] := by rfl) : PI X tg (.Call (.Name "range" p) [a] [] pos) (LI X.K (mItR1 ma)) :=
  pi_imp (pi_range1 hg hm (pa_cons ha pa_nil hs) hs) fun σ H R h => by
  obtain ⟨W, env, fp, xf, Q0, E, S, hm, k⟩ := h
  refine LP.next E S hm fun r hr v W1 H1 t1 S1 E1 o => ?_
  split at hr
  · obtain ⟨h1, h2, q⟩ := hr
    refine ⟨_, congrArg (fun z => [z]) (int_of o), h1, h2, ?_⟩
    exact k _ _ q _ W1 H1 t1 S1 fun f _ _ => rng_ok
  · exact hr.elim
theorem di_rng2 {p : Pos} (hm : X.mg "range" = none) (ha : PE X a (LP X.K ma)) (hb : PE X b (LP X.K mb)) (hg : Gl X "range" := by rfl) (hs : starEach [a, b] X.env = [(false, eval a X.env), (false, eval b X.env)] := by rfl) (hs2 : starEach [b] X.env = [(false, eval b X.env)] := by rfl) : PI X tg (.Call (.Name "range" p) [a, b] [] pos) (LI X.K (mItR2 ma mb)) :=
  pi_imp (pi_range2 hg hm (pa_cons ha (pa_cons hb pa_nil hs2) (by rw [hs, hs2])) hs hs2) fun σ H R h => by
  obtain ⟨W, env, fp, xf, Q0, E, S, hm, k⟩ := h
  refine LP.next E S hm fun r hr v W1 H1 t1 S1 E1 o => ?_
  refine LP.next E1 S1 hr fun r2 hr2 v2 W2 H2 t2 S2 E2 o2 => ?_
  split at hr2
  · obtain ⟨h1, h2, h3, h4, q⟩ := hr2
    refine ⟨_, _, by rw [int_of o, int_of o2], ⟨h1, h2, h3, h4⟩, ?_⟩
    exact k _ _ q _ W2 H2 (t1.tr0 t2) S2 fun f _ _ => rng_ok
  · exact hr2.elim
theorem ds_for (hp : PassesOwn (model X.prog X.w) X.A X.env X.xe) (hc : X.calm = true) (hi : PI X tg a (LI X.K mi)) (hg : PG X tg (LG X.K (· ∈ pr) g)) (hb : PSs X s1 (LS X.K ex pr m)) (hs : ∀ x, foldedSetIterable a X.env x = pure x := by intro _; rfl) :
    PS X (.For tg a s1 [] pos) (LS X.K ex pr (mFor mi g m)) := ps_imp (ps_for hp hc hi hg hb hs) fun D σ H h => by
  obtain ⟨W, env, fp, xf, K0, E, S, hm, nx, bk, ct, rt⟩ := h
  refine ⟨W, env, fp, xf, _, E, S, hm, fun st xs ⟨hst, Pv, p0, turn, done⟩ J W1 H1 t1 S1 it => ?_⟩
  have IO := it fp (.inl hst) fun _ m => m
  refine ⟨fun i n σ' H' => i + n = xs.length ∧ ∃ e W' fp' xf', Pv i e ∧ Post X.K W H fp pr σ σ' W' H' e fp' xf' ∧ Stp W1 H1 fp W' H' ∧ ∀ a ∈ fp', a ∈ fp ∨ H1 a = none, ⟨xs.length, by omega, env, W1, fp, xf, p0, .pure t1 (E.keep S t1) S1, .refl, fun _ m => .inl m⟩, fun i n σ' H' ⟨hl, e, W', fp', xf', pi, P, t2, y⟩ => ?_⟩
  have l2 := t2.le S1 fun a m => .inl m
  obtain ⟨i1, i2, i3⟩ := IO W' H' fp' xf' t2 l2 P.S y
  cases n with
  | zero =>
    refine .inl ⟨i1 i (by omega), ?_⟩
    have ei : i = xs.length := by omega
    subst ei
    exact nx e (done e pi) σ' W' H' fp' xf' P
  | succ n =>
    have hi : i < xs.length := by omega
    refine .inr ⟨i2 i hi, fun σ2 H2 => ∃ e W' fp' xf', Pv (i + 1) e ∧ Post X.K W H fp pr σ σ2 W' H2 e fp' xf' ∧ Stp W1 H1 fp W' H2 ∧ ∀ a ∈ fp', a ∈ fp ∨ H1 a = none, fun σ2 H2 h => ⟨n, Nat.lt_succ_self n, by omega, h⟩, fun x H2 hy => ?_⟩
    obtain ⟨t3, S3, o3⟩ := i3 i x H2 _ hy (List.getElem?_eq_getElem hi)
    have E3 := P.E.keep P.S t3
    have comb : ∀ {σ3 W3 H3 e3 fp3 xf3}, Post X.K W' H' fp' pr σ' σ3 W3 H3 e3 fp3 xf3 → Stp W1 H1 fp W3 H3 ∧ ∀ a ∈ fp3, a ∈ fp ∨ H1 a = none := fun P3 => ⟨t2.trans P3.t y, fun a m => (P3.nf a m).elim (y a) fun z => .inr (by
      cases q : H1 a with
      | none => rfl
      | some o => exact absurd z (t2.al a (some_ne q)))⟩
    refine LG.of P.S t3 E3 S3 o3 (turn i _ e (List.getElem?_eq_getElem hi) pi) fun e4 q4 σ4 fp4 xf4 P4 => ?_
    have P5 := P.trans P4
    have again : ∀ e5, Pv (i + 1) e5 → ∀ σ5 W5 H5 fp5 xf5, Post X.K W H2 fp4 pr σ4 σ5 W5 H5 e5 fp5 xf5 → True := fun _ _ _ _ _ _ _ _ => trivial
    refine ⟨W', e4, fp4, xf4, _, P4.E, P4.S, q4, fun e5 q5 σ5 W5 H5 fp5 xf5 P6 => ?_, fun e5 q5 σ5 W5 H5 fp5 xf5 P6 => nx e5 q5 σ5 W5 H5 fp5 xf5 (P5.trans P6), fun e5 q5 σ5 W5 H5 fp5 xf5 P6 => ?_, rt.after P5⟩
    · have c := comb (P4.trans P6)
      exact ⟨e5, W5, fp5, xf5, q5, P5.trans P6, c.1, c.2⟩
    · have c := comb (P4.trans P6)
      exact ⟨e5, W5, fp5, xf5, q5, P5.trans P6, c.1, c.2⟩
end
end R
namespace R
open PySem PySem.Spec PyProof.Rows L2
section
variable {K : PySem.W.Frag} {W W1 W2 W' : Wd} {H H1 H2 H' : Hp} {f f1 fp fp1 fp2 xf xf1 xf2 : List Addr} {σ σ1 σ2 : L2.St} {Q : VK} {r : Rs} {v : V} {env env1 env2 : Env}
theorem Sat.lend (S : Sat K W H fp xf) : Sat K W H [] (fp ++ xf) := ⟨S.sub, S.vol, List.nodup_nil, fun _ m => (by cases m), fun a m => ⟨by simp, (List.mem_append.mp m).elim (fun q => ⟨(S.off a q).2.1, (S.off a q).2.2⟩) fun q => (S.xof a q).2⟩⟩
theorem Sat.less0 {xf' : List Addr} (S : Sat K W H fp xf) (h : ∀ a ∈ xf', a ∈ xf) : Sat K W H fp xf' := ⟨S.sub, S.vol, S.nd, S.off, fun a m => S.xof a (h a m)⟩
theorem Sat.back {xf' : List Addr} (S : Sat K W H fp xf) (t : Stp W H [] W' H') (S' : Sat K W' H' [] xf') : Sat K W' H' fp xf :=
  ⟨S'.sub, S'.vol, S.nd, fun a m => by
    obtain ⟨o1, o2, o3⟩ := S.off a m
    obtain ⟨e1, e2⟩ := t.kpS o3
    exact ⟨e1.trans o1, e2.trans o2, t.al a o3⟩, fun a m => by
    obtain ⟨o1, o2, o3⟩ := S.xof a m
    exact ⟨o1, (t.kpS o3).2.trans o2, t.al a o3⟩⟩
theorem EnvOk.lent (E : EnvOk K W H σ env fp xf) : ∃ xf', EnvOk K W H σ (Env.lent env) [] xf' ∧ ∀ a ∈ xf', a ∈ fp ∨ a ∈ xf := by
  induction E with
  | nil => exact ⟨[], .nil, fun _ m => by cases m⟩
  | no _ ih => obtain ⟨x, e, z⟩ := ih; exact ⟨x, .no e, z⟩
  | fz q _ ih => obtain ⟨x, e, z⟩ := ih; exact ⟨x, .fz q e, z⟩
  | nw q _ ih => obtain ⟨x, e, z⟩ := ih; exact ⟨_, .ex q e, fun a m => (List.mem_append.mp m).elim (fun m => .inl (List.mem_append_left _ m)) fun m => (z a m).imp (List.mem_append_right _) id⟩
  | ex q _ ih => obtain ⟨x, e, z⟩ := ih; exact ⟨_, .ex q e, fun a m => (List.mem_append.mp m).elim (fun m => .inr (List.mem_append_left _ m)) fun m => (z a m).imp id (List.mem_append_right _)⟩
theorem EnvOk.wipe (E : EnvOk K W H σ env [] xf) : ∀ ws : List Nat, ∃ xf', EnvOk K W H (L2.wipe σ ws) (Env.wipe env ws) [] xf' ∧ ∀ a ∈ xf', a ∈ xf
  | [] => ⟨xf, E, fun _ m => m⟩
  | w :: ws => by
    obtain ⟨x, e, z⟩ := EnvOk.wipe E ws
    obtain ⟨f, fp', xf', e2, p, z2, _⟩ := e.clear w none
    have h : f ++ fp' = [] := List.nil_perm.mp p |> fun q => q
    obtain ⟨_, rfl⟩ := List.append_eq_nil_iff.mp h
    exact ⟨xf', e2, fun a m => z a (z2 a m)⟩
theorem wipe_at (σ : L2.St) : ∀ (ws : List Nat) (i : Nat), (L2.wipe σ ws)[i]? = if i ∈ ws ∧ i < σ.length then some none else σ[i]?
  | [], i => by rw [if_neg (by simp)] <;> rfl
  | w :: ws, i => by
    show ((L2.wipe σ ws).set w none)[i]? = _
    by_cases e : w = i
    · subst e
      by_cases hl : w < σ.length
      · rw [List.getElem?_set_self (by rw [L2.wipe_length]; exact hl), if_pos ⟨List.mem_cons_self, hl⟩]
      · rw [List.getElem?_eq_none (by rw [List.length_set, L2.wipe_length]; omega), if_neg (fun z => hl z.2), List.getElem?_eq_none (by omega)]
    · rw [List.getElem?_set_ne e, wipe_at σ ws i]
      have q : (i ∈ w :: ws ∧ i < σ.length) ↔ (i ∈ ws ∧ i < σ.length) := by
        constructor
        · rintro ⟨a, b⟩
          exact ⟨(List.mem_cons.mp a).resolve_left fun z => e z.symm, b⟩
        · rintro ⟨a, b⟩
          exact ⟨List.mem_cons_of_mem _ a, b⟩
      by_cases h : i ∈ ws ∧ i < σ.length
      · rw [if_pos h, if_pos (q.mpr h)]
      · rw [if_neg h, if_neg fun z => h (q.mp z)]
theorem wipe_same {σ2 : L2.St} {ws : List Nat} (hl : σ2.length = σ.length) (h : ∀ i, i ∉ ws → σ2[i]? = (L2.wipe σ ws)[i]?) : L2.wipe σ2 ws = L2.wipe σ ws := by
  apply List.ext_getElem?
  intro i
  rw [wipe_at, wipe_at, hl]
  by_cases hi : i ∈ ws ∧ i < σ.length
  · rw [if_pos hi, if_pos hi]
  · rw [if_neg hi, if_neg hi]
    by_cases m : i ∈ ws
    · have : ¬ i < σ.length := fun z => hi ⟨m, z⟩
      rw [List.getElem?_eq_none (by omega), List.getElem?_eq_none (by omega)]
    · rw [h i m, wipe_at, if_neg fun z => m z.1]
theorem ResOk.lent (h : ResOk K H fp W1 H1 v r) : ∃ f, ResAll K H [] W1 H1 [v] [r.arg] f ∧ f = [] := by
  cases r with
  | fz d => exact ⟨[], .fz h .nil, rfl⟩
  | nw t => obtain ⟨f, o, _, z⟩ := h; exact ⟨[], .ex o (fun a m => ⟨(z a m).2.2, by simp⟩) .nil, rfl⟩
  | br t => obtain ⟨f, o, z⟩ := h; exact ⟨[], .ex o (fun a m => ⟨z a m, by simp⟩) .nil, rfl⟩
  | ex t => obtain ⟨f, o, z⟩ := h; exact ⟨[], .ex o (fun a m => ⟨(z a m).1, by simp⟩) .nil, rfl⟩
theorem OwnAll.snoc {t : OT} : ∀ {vs : List V} {ts : List OT} {g : List Addr}, OwnAll K W H vs ts g → Own K W H v t f → OwnAll K W H (vs ++ [v]) (ts ++ [t]) (g ++ f)
  | _, _, _, .nil, o => by
    have z := OwnAll.cons o .nil
    rw [List.append_nil] at z
    exact z
  | _, _, _, .cons a b, o => by
    rw [List.append_assoc]
    exact .cons a (OwnAll.snoc b o)
structure LcOk (K : PySem.W.Frag) (W : Wd) (H : Hp) (fp xf : List Addr) (D : Addr) (acc : List OT) (W' : Wd) (H' : Hp) : Prop where
  t : Stp W H [] W' H'
  S : Sat K W' H' fp xf
  own : ∃ vs g, H' D = some (.lst vs) ∧ OwnAll K W' H' vs acc g ∧ (D :: g).Nodup ∧ ∀ a ∈ D :: g, H a = none ∧ W'.G a = none ∧ W'.S a = none
theorem LcOk.keep {D : Addr} {acc : List OT} (L : LcOk K W H fp xf D acc W1 H1) (t : Stp W1 H1 [] W2 H2) (S : Sat K W2 H2 fp xf) : LcOk K W H fp xf D acc W2 H2 := by
  obtain ⟨vs, g, hD, ow, nd, z⟩ := L.own
  have l := t.le L.S fun _ m => by cases m
  have al : ∀ a ∈ D :: g, H1 a ≠ none := fun a m => (List.mem_cons.mp m).elim (fun e => by rw [e, hD]; exact fun z => nomatch z) (ow.alloc a)
  refine ⟨L.t.tr0 t, S, vs, g, t.kp D _ hD (by simp) (z D List.mem_cons_self).2.2, ow.mono l fun a m o e => t.kp a o e (by simp) (z a (List.mem_cons_of_mem _ m)).2.2, nd, fun a m => ?_⟩
  obtain ⟨e1, e2⟩ := t.kpS (al a m)
  exact ⟨(z a m).1, e1.trans (z a m).2.1, e2.trans (z a m).2.2⟩
theorem Sat.wr {p : Addr} {o : HO} (S : Sat K W H fp xf) (g : W.G p = none) (s : W.S p = none) : Sat K W (upd H p o) fp xf := by
  have n : ∀ a, H a ≠ none → upd H p o a ≠ none := fun a z => by
    by_cases e : a = p
    · rw [e, upd_same]; exact fun z => nomatch z
    · rw [upd_ne e]; exact z
  refine ⟨fun a u e => ?_, ⟨fun a k ps e => ?_, fun p q e => let ⟨x, cs, y⟩ := S.vol.tb p q e; ⟨x, cs, (upd_ne (fun z => by rw [z, s] at x; cases x)).trans y⟩⟩, S.nd, fun a m => ⟨(S.off a m).1, (S.off a m).2.1, n a (S.off a m).2.2⟩, fun a m => ⟨(S.xof a m).1, (S.xof a m).2.1, n a (S.xof a m).2.2⟩⟩
  · have q : a ≠ p := fun z => by rw [z, g] at e; cases e
    rw [upd_ne q]; exact S.sub a u e
  · obtain ⟨x, u, y, w⟩ := S.vol a k ps e
    have q : a ≠ p := fun z => by rw [z, s] at e; cases e
    exact ⟨x, u, by rw [upd_ne q]; exact y, w⟩
theorem LcOk.snoc {D : Addr} {acc : List OT} {t : OT} (L : LcOk K W H fp xf D acc W1 H1) (h : r.item = some t) (t1 : Stp W1 H1 [] W2 H2) (S2 : Sat K W2 H2 fp xf) (o : ResOk K H1 fp1 W2 H2 v r) : ∃ vs, H2 D = some (.lst vs) ∧ vs.length = acc.length ∧ LcOk K W H fp xf D (acc ++ [t]) W2 (upd H2 D (.lst (vs ++ [v]))) := by
  obtain ⟨vs, g, hD, ow, nd, z⟩ := L.own
  have l := t1.le L.S fun _ m => by cases m
  have al : ∀ a ∈ D :: g, H1 a ≠ none := fun a m => (List.mem_cons.mp m).elim (fun e => by rw [e, hD]; exact fun z => nomatch z) (ow.alloc a)
  have hD2 := t1.kp D _ hD (by simp) (z D List.mem_cons_self).2.2
  have ow2 := ow.mono l fun a m o e => t1.kp a o e (by simp) (z a (List.mem_cons_of_mem _ m)).2.2
  have z2 : ∀ a ∈ D :: g, H a = none ∧ W2.G a = none ∧ W2.S a = none := fun a m => by
    obtain ⟨e1, e2⟩ := t1.kpS (al a m)
    exact ⟨(z a m).1, e1.trans (z a m).2.1, e2.trans (z a m).2.2⟩
  have L2o : ∃ f, Own K W2 H2 v t f ∧ f.Nodup ∧ ∀ a ∈ f, H1 a = none ∧ W2.G a = none ∧ W2.S a = none := by
    cases r with
    | fz d => cases h; exact ⟨[], .leaf o, List.nodup_nil, fun _ m => by cases m⟩
    | nw x => cases h; exact o
    | br x => cases h
    | ex x => cases h
  obtain ⟨f, of, ndf, zf⟩ := L2o
  obtain ⟨nD, ng⟩ := List.nodup_cons.mp nd
  have dj : ∀ a ∈ D :: g, a ∉ f := fun a m m2 => al a m (zf a m2).1
  have up : ∀ a o, a ≠ D → H2 a = some o → upd H2 D (.lst (vs ++ [v])) a = some o := fun a o n e => (upd_ne n).trans e
  have zD := z2 D List.mem_cons_self
  have fH : ∀ a ∈ f, H a = none := fun a m => by
    cases q : H a with
    | none => rfl
    | some o => exact absurd (zf a m).1 (L.t.al a (some_ne q))
  refine ⟨vs, hD2, ow.len, ⟨?_, ?_, ?_⟩, S2.wr zD.2.1 zD.2.2, vs ++ [v], g ++ f, upd_same, ?_, ?_, fun a m => ?_⟩
  · exact (L.t.tr0 t1).wx
  · intro a o e m s
    refine up a o (fun q => by rw [q, zD.1] at e; cases e) ((L.t.tr0 t1).kp a o e m s)
  · intro a n
    by_cases q : a = D
    · rw [q, upd_same]; exact fun z => nomatch z
    · rw [upd_ne q]; exact (L.t.tr0 t1).al a n
  · refine OwnAll.snoc (ow2.mono (.refl _) fun a m o e => up a o (fun q => nD (by rw [← q]; exact m)) e) (of.mono (.refl _) fun a m o e => up a o (fun q => dj D List.mem_cons_self (by rw [← q]; exact m)) e)
  · rw [← List.cons_append]
    exact List.nodup_append.mpr ⟨nd, ndf, fun a m b m2 e => by subst e; exact dj a m m2⟩
  · rw [← List.cons_append] at m
    rcases List.mem_append.mp m with m | m
    · exact z2 a m
    · exact ⟨fH a m, (zf a m).2⟩
theorem lc_all {mi : DI} {g : DG} {t : DT} {e : DE} {ws : List Nat} (h : LP K (mLc mi g t e ws) σ H Q) : tLc (LI K mi) (LG K (fun i => i ∉ ws) g) (LT K t) (LP K e) ws σ H Q := by
  obtain ⟨W, env, fp, xf, Q0, E, S, hm, k⟩ := h
  refine ⟨W, env, fp, xf, _, E, S, hm, fun st xs ⟨Pv, p0, turn, done⟩ J W1 H1 t1 S1 it D nD => ?_⟩
  have IO := it [] (.inr rfl) fun _ m => by cases m
  have hD0 : H D = none := by
    cases q : H D with
    | none => rfl
    | some o => exact absurd nD (t1.al D (some_ne q))
  have L0 : LcOk K W H fp xf D [] W1 (upd H1 D (.lst [])) := ⟨t1.tr0 (.new nD), S1.new nD, [], [], upd_same, .nil, List.nodup_cons.mpr ⟨by simp, List.nodup_nil⟩, fun a m => by
    rw [List.mem_singleton.mp m]
    exact ⟨hD0, (S1.free nD).1, (S1.free nD).2⟩⟩
  refine ⟨fun i n H' => i + n = xs.length ∧ ∃ acc W', Pv i acc ∧ LcOk K W H fp xf D acc W' H' ∧ Stp W1 H1 [] W' H', ⟨xs.length, by omega, [], W1, p0, L0, .new nD⟩, fun i n H' ⟨hl, acc, W', pi, L, t2⟩ => ?_⟩
  have l2 := t2.le S1 fun _ m => by cases m
  obtain ⟨i1, i2, i3⟩ := IO W' H' fp xf t2 l2 L.S fun _ m => .inl m
  cases n with
  | zero =>
    have ei : i = xs.length := by omega
    subst ei
    refine .inl ⟨i1 _ (Nat.le_refl _), ?_⟩
    obtain ⟨vs, gg, hD, ow, nd, z⟩ := L.own
    exact k _ (done acc pi) _ W' H' L.t L.S ⟨D :: gg, .lst hD ow, nd, z⟩
  | succ n =>
    have hi : i < xs.length := by omega
    refine .inr ⟨i2 i hi, fun H2 => ∃ acc W', Pv (i + 1) acc ∧ LcOk K W H fp xf D acc W' H2 ∧ Stp W1 H1 [] W' H2, fun H2 ⟨acc, W', a, b, c⟩ => ⟨n, Nat.lt_succ_self n, by omega, acc, W', a, b, c⟩, fun x H2 hy => ?_⟩
    obtain ⟨t3, S3, o3⟩ := i3 i x H2 _ hy (List.getElem?_eq_getElem hi)
    have L3 := L.keep t3 S3
    have E3 : EnvOk K W' H2 σ env fp xf := (E.keep S L.t).keep L.S t3
    obtain ⟨hsz, hg⟩ := turn i _ acc (List.getElem?_eq_getElem hi) pi
    obtain ⟨xf1, E4, y4⟩ := E3.lent
    obtain ⟨xf2, E5, y5⟩ := E4.wipe ws
    obtain ⟨f0, oA, rfl⟩ := o3.lent
    have S5 : Sat K W' H2 [] xf2 := S3.lend.less0 fun a m => List.mem_append.mpr (y4 a (y5 a m))
    refine ⟨W', _, [], xf2, [], [], _, _, E5, S5, oA.refp fun _ m => m, hg, fun e1 ⟨hlen, ht⟩ σ6 fp6 xf6 E6 S6 y6 z6 => ?_⟩
    have hfp6 : fp6 = [] := by
      cases fp6 with
      | nil => rfl
      | cons a l => exact ((y6 a List.mem_cons_self).elim (fun m => by cases m) fun m => by cases m)
    subst hfp6
    refine ⟨wipe_same (by rw [E6.len, hlen, E3.len]) fun i hi => z6 i hi, W', e1, [], xf6, _, E6, S6, ht, fun b hb W7 H7 t7 S7 => ?_⟩
    have t37 := t2.tr0 (t3.tr0 t7)
    have Sb : Sat K W7 H7 fp xf := S3.back t7 S7
    have L7 := L3.keep t7 Sb
    cases b with
    | false => exact iteF ⟨acc, W7, hb, L7, t37⟩
    | true =>
      refine iteT ⟨W7, e1, [], xf6, _, E6.keep S6 t7, S7, hb, fun y ⟨ty, ey, py⟩ vy W8 H8 t8 S8 o8 => ?_⟩
      have Sb8 : Sat K W8 H8 fp xf := Sb.back t8 S8
      obtain ⟨vs, hD8, hl8, L9⟩ := L7.snoc ey t8 Sb8 o8
      refine ⟨vs, hD8, by rw [← sizeL_eq, hl8]; exact hsz, acc ++ [ty], W8, py, L9, ?_⟩
      have t18 := t37.tr0 t8
      refine ⟨t18.wx, fun a o e m s => ?_, fun a n => ?_⟩
      · rw [upd_ne fun q => by rw [q, nD] at e; cases e]
        exact t18.kp a o e m s
      · by_cases q : a = D
        · rw [q, upd_same]; exact fun z => nomatch z
        · rw [upd_ne q]; exact t18.al a n
end
section
variable {X : Cx} {tg a b c : Expr} {ma mb mc : DE} {pos : Pos} {ta tb : DT} {st : Stmt} {rest s1 s2 : List Stmt} {m m1 m2 : DS} {pr : List Nat} {g : DG} {gs : List DG} {es : List Expr} {mi : DI} {mr : DA} {elt iter : Expr} {ifs : List Expr} {scope : Scope} {own : List (Str × Nat)}
theorem dts_nil : PTs X [] (LT X.K mYes) := ⟨fun pins s σ H Q I h => by
  obtain ⟨W, env, fp, xf, Q0, E, S, hm, k⟩ := h
  exact pts_nil.run pins s σ H Q I (k true hm W H .refl S)⟩
theorem dp_lc (hc : X.calm = true) (hN : X.N.Nodup) (hi : PI X tg iter (LI X.K mi)) (ok : BlkOk X.N X.env.scope scope own)
    (hg : ∀ (s : Shared) (H : Hp) (C : Addr) (cl : List (Str × Addr)) (fp : List Addr), PG (X.blk s H scope (compEnvC scope cl C X.env) fp) tg (LG X.K (fun i => i ∉ own.map (·.2)) g)) (ht : ∀ (s : Shared) (H : Hp) (C : Addr) (cl : List (Str × Addr)) (fp : List Addr), PTs (X.blk s H scope (compEnvC scope cl C X.env) fp) ifs (LT X.K ta))
    (he : ∀ (s : Shared) (H : Hp) (C : Addr) (cl : List (Str × Addr)) (fp : List Addr), PE (X.blk s H scope (compEnvC scope cl C X.env) fp) elt (LP X.K ma)) (hs : ∀ x, foldedSetIterable iter X.env x = pure x := by intro _; rfl) :
    PE X (.ListComp elt [⟨tg, iter, ifs, 0⟩] scope pos) (LP X.K (mLc mi g ta ma (own.map (·.2)))) := pe_imp (pe_lc hc hN hi ok hg ht he hs) fun σ H Q h => lc_all h
theorem ds_setLcF {i : Nat} {y : Str} {py : Pos} {spos : Pos} (hc : X.calm = true) (hN : X.N.Nodup) (hy : X.N[i]? = some y) (hyl : X.env.scope.names.lookup y = some .local) (hsw : swapsWith (.ListComp elt [⟨tg, iter, ifs, 0⟩] scope pos) (some (.Name y py)) spos.line X.env = pure true)
    (hi : PI X tg iter (LI X.K mi)) (ok : BlkOk X.N X.env.scope scope own)
    (hg : ∀ (s : Shared) (H : Hp) (C : Addr) (cl : List (Str × Addr)) (fp : List Addr), PG (X.blk s H scope (compEnvC scope cl C X.env) fp) tg (LG X.K (fun i => i ∉ own.map (·.2)) g)) (ht : ∀ (s : Shared) (H : Hp) (C : Addr) (cl : List (Str × Addr)) (fp : List Addr), PTs (X.blk s H scope (compEnvC scope cl C X.env) fp) ifs (LT X.K ta))
    (he : ∀ (s : Shared) (H : Hp) (C : Addr) (cl : List (Str × Addr)) (fp : List Addr), PE (X.blk s H scope (compEnvC scope cl C X.env) fp) elt (LP X.K ma)) (hp : i ∉ pr := by decide) (hs : ∀ x, foldedSetIterable iter X.env x = pure x := by intro _; rfl) :
    PS X (.Assign [.Name y py] (.ListComp elt [⟨tg, iter, ifs, 0⟩] scope pos) spos) (LS X.K ex pr (mAsgG (gN i) (mFz (mLc mi g ta ma (own.map (·.2)))))) := ps_imp (ps_setLc hc hN hy hyl hsw hi ok hg ht he hs) fun D σ H h => by
  obtain ⟨W, env, fp, xf, K0, E, S, hm, nx, bk, ct, rt⟩ := h
  have w : LP X.K (mLc mi g ta ma (own.map (·.2))) σ H fun x H1 => gName i x σ H1 D.nx := by
    unfold mAsgG mFz at hm
    refine LP.next E S hm fun r hr v W1 H1 t1 S1 E1 o => ?_
    have fin : ∀ d W' , Stp W H [] W' H1 → Sat X.K W' H1 fp xf → Rep X.K W' v d → gN i env (.fz d) K0.nx → gName i v σ H1 D.nx := fun d W' t S' o hr => by
      obtain ⟨fp', xf', P⟩ := Post.store (i := i) (pr := pr) (r := .fz d) S t (E.keep S t) S' o hr.1 hp
      exact nx _ hr.2 _ W' H1 fp' xf' P
    cases r with
    | fz d => exact fin d W1 t1 S1 o hr
    | nw x =>
      obtain ⟨d, z, q⟩ := hr
      obtain ⟨f, ow, nd, y⟩ := o
      obtain ⟨W', F, R, _⟩ := freeze ow z nd fun a m => (y a m).2
      have za : ∀ a ∈ f, a ∉ fp ∧ a ∉ xf := fun a m => ⟨fun m2 => (S.off a m2).2.2 (y a m).1, fun m2 => (S.xof a m2).2.2 (y a m).1⟩
      exact fin d W' (t1.trans F.stp fun a m => .inr (y a m).1) (F.sat S1 (fun a m => ⟨(y a m).2.1, (y a m).2.2, ow.alloc a m⟩) za) R q
    | br t => exact hr.elim
    | ex t => exact hr.elim
  exact lc_all w
end
end R
namespace R
open PySem PySem.Spec PyProof.Rows L2
structure Room (k : Nat) (A : Around) : Prop extends L2.Room k A where
  gd : A.guards = some []
theorem Room.mono {j k : Nat} {A : Around} (r : Room k A) (h : j ≤ k) : Room j A := ⟨r.toRoom.mono h, r.gd⟩
theorem Room.deeper {k : Nat} {A : Around} (r : Room (k + 1) A) (env : PySem.Env) : Room k (A.deeper env) := ⟨r.toRoom.deeper env, r.gd⟩
theorem Room.make {k : Nat} {A : Around} (r : Room (k + 1) A) (C : Addr) (us : List Value) (kw : List (Str × Value)) : Room k (A.under (.builtin "type.__call__" ⟨.ref C :: us, kw⟩)) := ⟨r.toRoom.make C us kw, by
  have h := r.gd
  first | exact h | simpa [Around.under, Code.guards, Code.isGuard, pushGuards, guardIds] using h⟩
structure FnOk (P : Program) (w : World) (K : PySem.W.Frag) (mg : Str → Option Value) (base : Heap) (CX : CXT) (k : Nat) (f : Addr) (fd : FuncData) (ps : List Str) (sp : Sp) : Prop where
  len : ∀ vs H Q E, sp vs H Q E → vs.length = ps.length
  run : ∀ (A : Around) (outer : List PySem.Env) (s : Shared) (H : Hp) (args : Args) (us : List Value) (vs : List V) (Q : VK) (E : XK), Room k A → Env0 P w K mg base A outer s H → BindsTo s fd args (ps.zip us) → Vals vs us → sp vs H Q E →
    codeAny (model P w) A (.call (.ref f) args) (CR CX outer P w H s Q E) s
section
variable {X : Cx} {CX : CXT} {k n : Nat} {f C : Addr} {fd : FuncData} {ps ks : List Str} {sp : Sp} {dvs : List V} {ds : List Value} {E : XK} {x m : Str} {p pos apos : Pos} {e o : Expr} {es : List Expr} {kws : List Keyword} {ta : TE} {t tk : TA} {pins : List (Addr × Obj)} {σ : L2.St} {H : Hp} {s : Shared} {Q : VK} {us ws : List Value} {vs zs : List V} {g : List Value → List Value → List Value} {gV : List V → List V → List V}
theorem seen (hx : Passes CX X E) (I : Inv X pins σ H s) {r : Result} {s' : Shared} (h : CR CX X.stack X.prog X.w H s Q E r s') : match (generalizing := false) r with | .ok (.ret v) => EP X pins σ Q v s' | .ok _ => False | .error e => X.xe e s' := by
  match r, h with
  | .error e, h => exact hx pins σ H s e s' I h
  | .ok (.ret u), h => exact I.after h
  | .ok .next, h => exact h
  | .ok .brk, h => exact h
  | .ok .cont, h => exact h
theorem run_fn (F : FnOk X.prog X.w X.K X.mg X.base CX k f fd ps sp) (hr : Room k X.A) (hb : Binds X.K fd ps ds) (hd : Vals dvs ds) (hx : Passes CX X E) (I : Inv X pins σ H s) (r : Vals vs us) (h : sp (vs ++ dvs) H Q E) : wpAny (model X.prog X.w) X.A (call (.ref f) us) (EP X pins σ Q) X.xe s :=
  have r2 := r.append hd
  wpAny_call (codeAny_mono (F.run X.A X.stack s H ⟨us, []⟩ _ _ Q E hr I.env0 (hb s us I.kIn (r2.length.symm.trans (F.len _ _ _ _ h))) r2 h) fun _ _ q => seen hx I q)
theorem pe_call (F : FnOk X.prog X.w X.K X.mg X.base CX k f fd ps sp) (hr : Room k X.A) (hg : Gl X x) (hm : X.mg x = some (.ref f)) (hk : PySem.W.keepIn X.K (.ref f) = true) (hb : Binds X.K fd ps ds) (hd : Vals dvs ds) (hx : Passes CX X E)
    (ha : PA X (e :: es) t) (hdb : (x == ("__debug__" : Str)) = false := by decide) (he : starEach (e :: es) X.env = (false, eval e X.env) :: starEach es X.env := by rfl) (hpl : (backTo pos (starEach es X.env)).any (·.1) = false := by rfl) :
    PE X (.Call (.Name x p) (e :: es) [] pos) (tCall sp dvs E t) :=
  ⟨fun pins s σ _ _ I h => wpAny_Call_Name_kw (ld_glob I hg hm (PySem.W.callWith_K (h₀ := X.base) I.ok.mod.kin hk (thn (ha.run pos pins s σ _ _ I h) fun _ _ ⟨_, _, I1, r, q⟩ => ⟨I1.kIn, run_fn F hr hb hd hx I1 r q⟩) he hpl) hdb)⟩
theorem pe_meth {pl : Sem Bool} (he : PE X o ta) (c : Cls X.K C) (hm : Meth X.K C m f) (F : FnOk X.prog X.w X.K X.mg X.base CX k f fd ps sp) (hr : Room k X.A) (hb : Binds X.K fd ps ds) (hd : Vals dvs ds) (hx : Passes CX X E) (ha : PA X (e :: es) t)
    (hst : starEach (e :: es) X.env = (false, eval e X.env) :: starEach es X.env := by rfl) (hpl : (backTo pos (starEach es X.env)).any (·.1) = false := by rfl)
    (ht : eval (.Call (.Attribute o m apos) (e :: es) [] pos) X.env = (do
      let ov ← eval o X.env
      standAt apos.atName
      let (f, first) ← holding [ov] (getMethod ov m pl)
      callWith pos f first (backTo pos (starEach (e :: es) X.env)) (backToKw pos (keywordEach [] X.env))) := by rfl) :
    PE X (.Call (.Attribute o m apos) (e :: es) [] pos) (tMeth C m sp dvs E ta t) := by
  refine ⟨fun pins s σ _ _ I h => PySem.W.methodCall_KW (pl := pl) (thn (he.run pins s σ _ _ I h) fun u s1 ⟨_, _, I1, rx, a, _, _, ex, ea, l, q⟩ => ?_) ht⟩
  subst ex
  cases rx
  exact getmeth_ok I1 ea c hm l (PySem.W.callWith_K (first := [.ref a]) (h₀ := X.base) I.ok.mod.kin hm.kp (thn (ha.run pos pins s1 σ _ _ I1 q) fun us _ ⟨vs, _, I2, r, q2⟩ => ⟨I2.kIn, run_fn (us := .ref a :: us) (vs := .ref a :: vs) F hr hb hd hx I2 (.cons rfl r) q2⟩) hst hpl)
theorem pe_meth0 {pl : Sem Bool} (he : PE X o ta) (c : Cls X.K C) (hm : Meth X.K C m f) (F : FnOk X.prog X.w X.K X.mg X.base CX k f fd ps sp) (hr : Room k X.A) (hb : Binds X.K fd ps ds) (hd : Vals dvs ds) (hx : Passes CX X E)
    (ht : eval (.Call (.Attribute o m apos) [] [] pos) X.env = (do
      let ov ← eval o X.env
      standAt apos.atName
      let (f, first) ← holding [ov] (getMethod ov m pl)
      callWith pos f first (backTo pos (starEach [] X.env)) (backToKw pos (keywordEach [] X.env))) := by rfl) :
    PE X (.Call (.Attribute o m apos) [] [] pos) (tMeth C m sp dvs E ta tNil) := by
  refine ⟨fun pins s σ _ _ I h => PySem.W.methodCall_KW (pl := pl) (thn (he.run pins s σ _ _ I h) fun u s1 ⟨_, _, I1, rx, a, _, _, ex, ea, l, q⟩ => ?_) ht⟩
  subst ex
  cases rx
  exact getmeth_ok I1 ea c hm l (PySem.W.callWith_K0 (first := [.ref a]) I1.kIn hm.kp (run_fn (us := [.ref a]) (vs := [.ref a]) F hr hb hd hx I1 (.cons rfl .nil) q))
theorem run_mk (M : Mk X.K C f) (F : FnOk X.prog X.w X.K X.mg X.base CX k f fd ps sp) (hr : Room (k + 1) X.A) (hx : Passes CX X E) (I : Inv X pins σ H s) (kw : List (Str × Value)) (ys : Addr → List Value) (ts : List V)
    (hb : ∀ (s' : Shared) (a : Addr), X.K.In s'.heap → ps.length = (ys a).length → BindsTo s' fd ⟨.ref a :: us, kw⟩ (ps.zip (ys a))) (r : ∀ a, Vals (.ref a :: ts) (ys a))
    (h : ∀ a dx, H a = none → H dx = none → dx ≠ a → sp (.ref a :: ts) (upd (upd H dx (.own a)) a (.ins C dx [])) (fun v H2 => v = .non ∧ Q (.ref a) H2) E) :
    wpAny (model X.prog X.w) X.A (call (.ref C) us kw) (EP X pins σ Q) X.xe s := by
  have hq := h (s.heap.objs.size + 1) s.heap.objs.size (I.hok.fresh (Nat.le_succ _)) (I.hok.fresh (Nat.le_refl _)) (Nat.ne_of_lt (Nat.lt_succ_self _))
  have I2 := Inv.made (C := C) I
  have r2 := r (s.heap.objs.size + 1)
  refine wpAny_call (make_map (f := f) I.kIn M.makes M.init (beq_iff_eq.mp M.fn) (codeAny_mono (F.run _ X.stack _ _ ⟨.ref (s.heap.objs.size + 1) :: us, kw⟩ _ _ _ E (hr.make C us kw) (I2.env0.make C us kw) (hb _ _ I2.kIn ((F.len _ _ _ _ hq).symm.trans r2.length)) r2 hq) fun r s' q => ?_))
  have q := seen hx I2 q
  match r, q with
  | .error e, q => exact q
  | .ok (.ret u), ⟨_, H', I3, rv, ev, q3⟩ =>
    subst ev
    exact ⟨rv, V.ref (s.heap.objs.size + 1), H', I3, rfl, q3⟩
  | .ok .next, q => exact q
  | .ok .brk, q => exact q
  | .ok .cont, q => exact q
theorem pe_make (M : Mk X.K C f) (F : FnOk X.prog X.w X.K X.mg X.base CX k f fd ps sp) (hr : Room (k + 1) X.A) (hg : Gl X x) (hm : X.mg x = some (.ref C)) (hb : Binds X.K fd ps ds) (hd : Vals dvs ds) (hx : Passes CX X E)
    (ha : PA X (e :: es) t) (hdb : (x == ("__debug__" : Str)) = false := by decide) (he : starEach (e :: es) X.env = (false, eval e X.env) :: starEach es X.env := by rfl) (hpl : (backTo pos (starEach es X.env)).any (·.1) = false := by rfl) :
    PE X (.Call (.Name x p) (e :: es) [] pos) (tMake C sp dvs E t) :=
  ⟨fun pins s σ _ _ I h => wpAny_Call_Name_kw (ld_glob I hg hm (PySem.W.callWith_K (h₀ := X.base) I.ok.mod.kin M.kp (thn (ha.run pos pins s σ _ _ I h) fun us _ ⟨vs, _, I1, r, q⟩ => ⟨I1.kIn, run_mk M F hr hx I1 [] (fun a => .ref a :: (us ++ ds)) (vs ++ dvs) (fun s' a X1 l => hb s' (.ref a :: us) X1 l.symm) (fun _ => .cons rfl (r.append hd)) q⟩) he hpl) hdb)⟩
theorem pe_makeK (M : Mk X.K C f) (F : FnOk X.prog X.w X.K X.mg X.base CX k f fd ps sp) (hr : Room (k + 1) X.A) (hg : Gl X x) (hm : X.mg x = some (.ref C)) (hb : KBn X.K fd ps (n + 1) ks g (fun a b => a ++ b)) (hx : Passes CX X E) (ha : PA X (e :: es) t) (hkw : PK X kws tk)
    (hall : (backToKw pos (keywordEach kws X.env)).all (·.1.isSome) = true := by rfl) (hks : (backToKw pos (keywordEach kws X.env)).filterMap (·.1) = ks := by rfl) (hdb : (x == ("__debug__" : Str)) = false := by decide)
    (he : starEach (e :: es) X.env = (false, eval e X.env) :: starEach es X.env := by rfl) (hpl : ((backTo pos (starEach (e :: es) X.env)).any (·.1) || (backToKw pos (keywordEach kws X.env)).any (·.1.isNone)) = false := by rfl) :
    PE X (.Call (.Name x p) (e :: es) kws pos) (tMakeK C n ks.length sp (fun a b => a ++ b) E t tk) := by
  refine ⟨fun pins s σ _ _ I h => wpAny_Call_Name_kw (ld_glob I hg hm (PySem.W.callWith_KW (h₀ := X.base) I.ok.mod.kin M.kp hall (thn (ha.run pos pins s σ _ _ I h) fun us s1 ⟨vs, _, I1, r, q⟩ => ?_) hpl he) hdb)⟩
  refine thn (hkw.run pos pins s1 σ _ _ I1 q) fun ws s2 ⟨zs, _, I2, rz, l1, l2, q2⟩ => ⟨I2.kIn, ?_⟩
  rw [hks]
  exact run_mk M F hr hx I2 (ks.zip ws) (fun a => g (.ref a :: us) ws) (vs ++ zs) (fun s' a X1 _ => hb.to s' (.ref a :: us) ws X1 (by rw [List.length_cons, ← r.length, l1]) (rz.length.symm.trans l2)) (fun a => hb.rel (show Vals (V.ref a :: vs) (Value.ref a :: us) from .cons rfl r) rz) q2
end
section
variable {P : Program} {w : World} {K : PySem.W.Frag} {mg : Str → Option Value} {base : Heap} {x qual : Str} {params : Arguments} {body : List Stmt} {scope : Scope} {dvs : List V} {kws : List (Str × V)} {f : Addr} {fd : FuncData}
def CodeAt (K : PySem.W.Frag) (f : Addr) (cdv : Value) (q : Str) : Prop := ∃ (oc : Value) (od : Option Addr) (osl : Array (Option Value)) (fd : FuncData), K.lookup f = some ⟨oc, od, .func fd, osl⟩ ∧ fd.code = cdv ∧ PySem.W.codeIn K cdv q = true
theorem def_okL {CX : CXT} {N ps : List Str} {k : Nat} {sp : Sp} (F : FunD K x qual params body scope dvs kws f fd) (S : FnScope N ps scope) (len : ∀ vs H Q E, sp vs H Q E → vs.length = ps.length)
    (hbody : ∀ (cdv : Value), CodeAt K f cdv qual → ∀ (A : Around) (outer : List PySem.Env) (s : Shared) (H : Hp) (vs : List V) (Q : VK) (E : XK), Room k (A.deeper (envOfC qual scope s.heap.objs.size f cdv)) → sp vs H Q E →
      ∃ t, PSs (cxOf CX P w K mg base N qual scope f cdv A outer s H E) body t ∧ t { nx := fun _ H' => Q .non H', rt := Q } (L2.start N vs) H) : FnOk P w K mg base CX (k + 1) f fd ps sp := by
  obtain ⟨oc, od, dV, kV, doc, pm, an, cdv, ct, osl, rfl, lk, hcd, _, _⟩ := F.ex
  refine ⟨len, fun A outer s H args us vs Q E hr e0 hb r hsp => ?_⟩
  have KX : K.In s.heap := e0.mod.kin.keeps fun b o e => (e0.bs b o e).1
  refine codeAny_call_function hr.depth (KX _ _ lk) rfl S.co S.gen rfl (PySem.W.codeRec_of KX hcd) (hb _ _ _ _ (wpAny_newFunctionEnv_cells S.kind (fun ⟨n, v⟩ hy => (S.par n (List.of_mem_zip hy).1).imp id fun q => ⟨q, PySem.W.cellsFrom_some _ _ _ (.inl q)⟩) fun env he s1 z => ?_))
  subst he
  refine ⟨(e0.mod.nolimit.keeps fun b o e => (e0.bs b o e).1).keeps z.toInCall.keep, codeAny_func ?_⟩
  obtain ⟨t, ht, hq⟩ := hbody cdv ⟨oc, od, osl, _, lk, rfl, hcd⟩ A outer s H vs Q E (hr.deeper _) hsp
  refine wpAny_mono (ht.run [] s1 (L2.start N vs) H _ (inv_start S hr.hd e0 (len _ _ _ _ hsp) r z) hq) (fun fl s' hs => ?_) fun e s' hs => hs
  match fl, hs with
  | .ret u, ⟨v, _, H', J, rv, q⟩ => exact ⟨v, H', J.os, J.bare, J.base, J.hok, rv, q⟩
  | .next, ⟨_, H', J, q⟩ => exact ⟨.non, H', J.os, J.bare, J.base, J.hok, rfl, q⟩
  | .brk, ⟨_, _, _, q⟩ => exact (show False from q).elim
  | .cont, ⟨_, _, _, q⟩ => exact (show False from q).elim
theorem def_ok {CX : CXT} {N ps : List Str} {k : Nat} {sp : Sp} (F : FunD K x qual params body scope dvs kws f fd) (S : FnScope N ps scope) (len : ∀ vs H Q E, sp vs H Q E → vs.length = ps.length)
    (hbody : ∀ (cdv : Value) (A : Around) (outer : List PySem.Env) (s : Shared) (H : Hp) (vs : List V) (Q : VK) (E : XK), Room k (A.deeper (envOfC qual scope s.heap.objs.size f cdv)) → sp vs H Q E →
      ∃ t, PSs (cxOf CX P w K mg base N qual scope f cdv A outer s H E) body t ∧ t { nx := fun _ H' => Q .non H', rt := Q } (L2.start N vs) H) : FnOk P w K mg base CX (k + 1) f fd ps sp := def_okL F S len fun cdv _ => hbody cdv
end
end R
namespace R
open PySem PySem.Spec PyProof.Rows L2
def spR (K : PySem.W.Frag) (n : Nat) (F : Spec) : Sp := fun vs H Q _ => vs.length = n ∧ ∃ (W : Wd) (ss : Env) (fp xf : List Addr) (Q0 : Rs → Env → Prop), EnvOk K W H (vs.map some) ss fp xf ∧ Sat K W H fp xf ∧ F ss Q0 ∧
  ∀ r ss', Q0 r ss' → ∀ v W' H' fp' xf', Stp W H fp W' H' → EnvOk K W' H' (vs.map some) ss' fp' xf' → Sat K W' H' fp' xf' → (∀ a ∈ fp', a ∈ fp ∨ H a = none) → RetOk K H fp fp' W' H' v r → Q v H'
section
variable {K : PySem.W.Frag} {W W1 W2 W' : Wd} {H H1 H2 H' : Hp} {f f1 fp fp1 fp2 xf xf1 xf2 : List Addr} {σ σ1 σ2 : L2.St} {Q : VK} {r : Rs} {v : V} {env env1 env2 : Env}
theorem EnvOk.pick {σ : L2.St} {env : Env} {fp xf : List Addr} (E : EnvOk K W H σ env fp xf) : ∀ (us : L2.St) (es : Env), us.length = es.length → (∀ (i : Nat) (s : Rs), es[i]? = some (some s) → env[i]? = some (some s) ∧ us[i]? = σ[i]?) → ∃ fp' xf', EnvOk K W H us es fp' xf' ∧ fp'.Sublist fp ∧ ∀ a ∈ xf', a ∈ xf := by
  induction E with
  | nil =>
    intro us es hl h
    have key : ∀ (us : L2.St) (es : Env), us.length = es.length → (∀ (i : Nat) (s : Rs), es[i]? = some (some s) → False) → EnvOk K W H us es [] [] := by
      intro us
      induction us with
      | nil => intro es hl _; cases es with | nil => exact .nil | cons _ _ => simp at hl
      | cons u us ih =>
        intro es hl h
        cases es with
        | nil => simp at hl
        | cons e es =>
          cases e with
          | none => exact .no (ih es (by simpa using hl) fun i s q => h (i + 1) s (by simpa using q))
          | some s => exact (h 0 s rfl).elim
    exact ⟨[], [], key us es hl fun i s q => by have := (h i s q).1; simp at this, .refl _, fun _ m => m⟩
  | no E ih =>
    intro us es hl h
    cases es with
    | nil => cases us with | nil => exact ⟨[], [], .nil, List.nil_sublist _, fun _ m => by cases m⟩ | cons _ _ => simp at hl
    | cons e es =>
      cases us with
      | nil => simp at hl
      | cons u us =>
        obtain ⟨fp', xf', a, b, c⟩ := ih us es (by simpa using hl) fun i s q => by have := h (i + 1) s (by simpa using q); simpa using this
        cases e with
        | none => exact ⟨fp', xf', .no a, b, c⟩
        | some s => have := (h 0 s rfl).1; simp at this
  | fz q E ih =>
    intro us es hl h
    cases es with
    | nil => cases us with | nil => exact ⟨[], [], .nil, List.nil_sublist _, fun _ m => by cases m⟩ | cons _ _ => simp at hl
    | cons e es =>
      cases us with
      | nil => simp at hl
      | cons u us =>
        obtain ⟨fp', xf', a, b, c⟩ := ih us es (by simpa using hl) fun i s q => by have := h (i + 1) s (by simpa using q); simpa using this
        cases e with
        | none => exact ⟨fp', xf', .no a, b, c⟩
        | some s =>
          obtain ⟨e1, e2⟩ := h 0 s rfl
          simp at e1 e2
          subst e1 e2
          exact ⟨fp', xf', .fz q a, b, c⟩
  | nw q E ih =>
    intro us es hl h
    cases es with
    | nil => cases us with | nil => exact ⟨[], [], .nil, List.nil_sublist _, fun _ m => by cases m⟩ | cons _ _ => simp at hl
    | cons e es =>
      cases us with
      | nil => simp at hl
      | cons u us =>
        obtain ⟨fp', xf', a, b, c⟩ := ih us es (by simpa using hl) fun i s q => by have := h (i + 1) s (by simpa using q); simpa using this
        cases e with
        | none => exact ⟨fp', xf', .no a, b.trans (List.sublist_append_right _ _), c⟩
        | some s =>
          obtain ⟨e1, e2⟩ := h 0 s rfl
          simp at e1 e2
          subst e1 e2
          exact ⟨_, xf', .nw q a, List.Sublist.append_left b _, c⟩
  | ex q E ih =>
    intro us es hl h
    cases es with
    | nil => cases us with | nil => exact ⟨[], [], .nil, List.nil_sublist _, fun _ m => by cases m⟩ | cons _ _ => simp at hl
    | cons e es =>
      cases us with
      | nil => simp at hl
      | cons u us =>
        obtain ⟨fp', xf', a, b, c⟩ := ih us es (by simpa using hl) fun i s q => by have := h (i + 1) s (by simpa using q); simpa using this
        cases e with
        | none => exact ⟨fp', xf', .no a, b, fun z m => List.mem_append_right _ (c z m)⟩
        | some s =>
          obtain ⟨e1, e2⟩ := h 0 s rfl
          simp at e1 e2
          subst e1 e2
          exact ⟨fp', _, .ex q a, b, fun z m => (List.mem_append.mp m).elim (List.mem_append_left _) fun m => List.mem_append_right _ (c z m)⟩
theorem Sat.sublist {fp' xf' : List Addr} (S : Sat K W H fp xf) (h : fp'.Sublist fp) (x : ∀ a ∈ xf', a ∈ xf) : Sat K W H fp' xf' :=
  ⟨S.sub, S.vol, S.nd.sublist h, fun a m => S.off a (h.subset m), fun a m => ⟨fun q => (S.xof a (x a m)).1 (h.subset q), (S.xof a (x a m)).2⟩⟩
theorem EnvOk.app {σ2 : L2.St} {env2 : Env} {fp2 xf2 : List Addr} (b : EnvOk K W H σ2 env2 fp2 xf2) {σ : L2.St} {env : Env} {fp xf : List Addr} (a : EnvOk K W H σ env fp xf) : ∃ xf', EnvOk K W H (σ ++ σ2) (env ++ env2) (fp ++ fp2) xf' ∧ ∀ a ∈ xf', a ∈ xf ∨ a ∈ xf2 := by
  induction a with
  | nil => exact ⟨_, b, fun _ m => .inr m⟩
  | no _ ih => obtain ⟨x, e, z⟩ := ih; exact ⟨x, .no e, z⟩
  | fz q _ ih => obtain ⟨x, e, z⟩ := ih; exact ⟨x, .fz q e, z⟩
  | nw q _ ih =>
    obtain ⟨x, e, z⟩ := ih
    refine ⟨x, ?_, z⟩
    have w := EnvOk.nw q e
    rw [← List.append_assoc] at w
    exact w
  | ex q _ ih => obtain ⟨x, e, z⟩ := ih; exact ⟨_, .ex q e, fun a m => (List.mem_append.mp m).elim (fun m => .inl (List.mem_append_left _ m)) fun m => (z a m).imp (List.mem_append_right _) id⟩
theorem EnvOk.nones : ∀ (n : Nat), EnvOk K W H (List.replicate n none) (List.replicate n none) [] []
  | 0 => .nil
  | n + 1 => .no (EnvOk.nones n)
theorem ResAll.lend {vs : List V} {rs : List Rs} {g : List Addr} (os : ResAll K H fp W1 H1 vs rs g) (F : ∀ a ∈ g, W1.S a = none) : ∃ xf', EnvOk K W1 H1 (vs.map some) (rs.map fun r => some r.arg) [] xf' ∧ ∀ a ∈ xf', W1.S a = none ∧ H1 a ≠ none := by
  induction os with
  | nil => exact ⟨[], .nil, fun _ m => by cases m⟩
  | fz q _ ih => obtain ⟨x, e, z⟩ := ih F; exact ⟨x, .fz q e, z⟩
  | nw q _ ih =>
    obtain ⟨x, e, z⟩ := ih fun a m => F a (List.mem_append_right _ m)
    exact ⟨_, .ex q e, fun a m => (List.mem_append.mp m).elim (fun m => ⟨F a (List.mem_append_left _ m), q.alloc a m⟩) (z a)⟩
  | br q y _ ih => obtain ⟨x, e, z⟩ := ih F; exact ⟨_, .ex q e, fun a m => (List.mem_append.mp m).elim (fun m => ⟨y a m, q.alloc a m⟩) (z a)⟩
  | ex q y _ ih => obtain ⟨x, e, z⟩ := ih F; exact ⟨_, .ex q e, fun a m => (List.mem_append.mp m).elim (fun m => ⟨(y a m).1, q.alloc a m⟩) (z a)⟩
theorem Sat.only {xf' : List Addr} (S : Sat K W H fp xf) (h : ∀ a ∈ xf', W.S a = none ∧ H a ≠ none) : Sat K W H [] xf' := ⟨S.sub, S.vol, List.nodup_nil, fun _ m => (by cases m), fun a m => ⟨by simp, h a m⟩⟩
theorem EnvOk.consts : ∀ {vs : List V} {ds : List D}, RepAll K W vs ds → EnvOk K W H (vs.map some) (ds.map fun d => some (.fz d)) [] []
  | _, _, .nil => .nil
  | _, _, .cons a b => .fz a (EnvOk.consts b)
theorem map_none {α : Type} (ss : Env) : (ss.map fun _ => (none : Option α)) = List.replicate ss.length none := by
  induction ss with
  | nil => rfl
  | cons s ss ih => rw [List.map_cons, ih, List.length_cons, List.replicate_succ]
theorem call1 {F : Spec1} {vs dvs : List V} {rs : List Rs} {dv : List D} {n : Nat} {E : XK} {Q0 : Rs → Prop} {g : List Addr} (hn : (vs ++ dvs).length = n) (O : Ops K H Q Q0 W2 H2 W fp xf) (os : ResAll K H fp W2 H2 vs rs g) (G : Fresh H W2 g) (hd : ∀ W, RepAll K W dvs dv)
    (h : F (rs.map (fun r => some r.arg) ++ dv.map fun d => some (.fz d)) fun r => r.own ∧ Q0 r) : spR K n F.io (vs ++ dvs) H2 Q E := by
  obtain ⟨xf1, E1, z1⟩ := os.lend fun a m => (G.2 a m).2.2
  obtain ⟨xf2, E2, z2⟩ := (EnvOk.consts (hd W2)).app E1
  have S2 : Sat K W2 H2 [] xf2 := O.S2.only fun a m => (z2 a m).elim (z1 a) fun m => by cases m
  rw [← List.map_append] at E2
  refine ⟨hn, W2, _, [], xf2, fun r _ => r.own ∧ Q0 r, E2, S2, h, fun r ss' ⟨ho, q⟩ v W' H' fp' xf' t E' S' nf o => ?_⟩
  have Sb := O.S2.back t (S'.sublist (List.nil_sublist _) fun _ m => m)
  refine O.k r q v W' H' (O.t.tr0 t) Sb ?_
  cases r with
  | fz d => exact o
  | nw x =>
    obtain ⟨f, ow, nd, z⟩ := o
    refine ⟨f, ow, nd, fun a m => ⟨?_, (z a m).2.2⟩⟩
    rcases (z a m).1 with q | q
    · cases q2 : H a with
      | none => rfl
      | some o => exact absurd q (O.t.al a (some_ne q2))
    · cases q
  | br x => exact ho.elim
  | ex x => exact ho.elim
end
section
variable {X : Cx} {CX : CXT} {k n : Nat} {f C : Addr} {fd : FuncData} {ps : List Str} {F1 : Spec1} {F0 : Spec} {dvs : List V} {dv : List D} {ds : List Value} {E : XK} {x m : Str} {p pos apos : Pos} {e o : Expr} {es : List Expr} {mo : DE} {ma : DA}
theorem args_eq {rs : List Rs} {dv : List D} : args rs dv = (rs.map Rs.ffz).map (fun r => some r.arg) ++ dv.map fun d => some (.fz d) := by
  unfold args
  rw [List.map_map] <;> rfl
theorem args_len {rs : List Rs} {dv : List D} {vs : List V} {dvs : List V} (h : vs.length = rs.length) (hd : dvs.length = dv.length) : (args rs dv).length = (vs ++ dvs).length := by
  unfold args
  rw [List.length_append, List.length_append, List.length_map, List.length_map, h, hd]
theorem dp_call (F : FnOk X.prog X.w X.K X.mg X.base CX k f fd ps (spR X.K n F1.io)) (hr : Room k X.A) (hm : X.mg x = some (.ref f)) (hk : PySem.W.keepIn X.K (.ref f) = true) (hb : Binds X.K fd ps ds) (hv : Vals dvs ds) (hd : ∀ W, RepAll X.K W dvs dv) (hx : Passes CX X E) (ha : PA X (e :: es) (LA X.K ma))
    (hg : Gl X x := by rfl) (hst : starEach (e :: es) X.env = (false, eval e X.env) :: starEach es X.env := by rfl) (hpl : (backTo pos (starEach es X.env)).any (·.1) = false := by rfl) (hdb : (x == ("__debug__" : Str)) = false := by decide) :
    PE X (.Call (.Name x p) (e :: es) [] pos) (LP X.K (mCall n F1 ma dv)) := pe_imp (pe_call F hr hg hm hk hb hv hx ha hdb hst hpl) fun σ H Q h => by
  obtain ⟨W, env, fp, xf, Q0, En, S, hm, k⟩ := h
  refine LA.next En S hm fun rs ⟨hn, hr⟩ vs W1 H1 g t1 S1 E1 os G => ?_
  obtain ⟨W4, g', t4, S4, _, _, o4, G4, _, _⟩ := os.ffz (.refl _) rfl S t1 S1 G.1 G.2
  rw [args_eq] at hr
  exact call1 ((args_len os.len (hd W1).len).symm.trans hn) ⟨S, t4, S4, k⟩ o4 G4 hd hr
def CellsOk (W : Wd) (fp : List Addr) (r : Rs) (f : List Addr) : Prop := match r with
  | .ex _ => ∀ a ∈ f, W.S a = none ∧ a ∉ fp
  | .fz _ => f = []
  | _ => ∀ a ∈ f, W.S a = none
theorem inst_ok {K : PySem.W.Frag} {W2 : Wd} {H H2 : Hp} {fp xf : List Addr} {v : V} {r : Rs} {C : Nat} {ks : List Str} {ts : List OT} (h : r.t.inst = some (C, ks, ts)) (o : ResOk K H fp W2 H2 v r) (S : Sat K W2 H2 fp xf) : ∃ a dx fs f, v = .ref a ∧ H2 a = some (.ins C dx fs) ∧ fs.map (·.1) = ks ∧ OwnAll K W2 H2 (fs.map (·.2)) ts f ∧ CellsOk W2 fp r f := by
  have lf : ∀ {d : D}, Rep K W2 v d → (OT.leaf d).inst = some (C, ks, ts) → ∃ a dx fs, v = .ref a ∧ H2 a = some (.ins C dx fs) ∧ fs.map (·.1) = ks ∧ OwnAll K W2 H2 (fs.map (·.2)) ts [] := by
    intro d q h
    cases q with
    | ins g r => cases h; exact ⟨_, _, _, rfl, S.sub _ _ g, rfl, OwnAll.leafs (vs := []) r⟩
    | lst _ _ => cases h
    | tup _ _ => cases h
    | rol _ _ => cases h
    | non => cases h
    | bl _ => cases h
    | int _ => cases h
    | str _ => cases h
    | vol _ => cases h
    | dct _ _ => cases h
    | any _ => cases h
    | adr _ => cases h
    | cod _ => cases h
    | obj _ _ => cases h
  have own : ∀ {t : OT} {f : List Addr}, Own K W2 H2 v t f → t.inst = some (C, ks, ts) → ∃ a dx fs f', v = .ref a ∧ H2 a = some (.ins C dx fs) ∧ fs.map (·.1) = ks ∧ OwnAll K W2 H2 (fs.map (·.2)) ts f' ∧ ∀ a ∈ f', a ∈ f := by
    intro t f o h
    cases o with
    | leaf q => obtain ⟨a, dx, fs, x1, x2, x3, x4⟩ := lf q h; exact ⟨a, dx, fs, [], x1, x2, x3, x4, fun _ m => by cases m⟩
    | ins g r => cases h; exact ⟨_, _, _, _, rfl, g, rfl, r, fun _ m => List.mem_cons_of_mem _ m⟩
    | lst _ _ => cases h
    | tup _ _ => cases h
    | d0 _ => cases h
    | xo _ => cases h
    | dk _ _ => cases h
  cases r with
  | fz d => obtain ⟨a, dx, fs, x1, x2, x3, x4⟩ := lf o h; exact ⟨a, dx, fs, [], x1, x2, x3, x4, rfl⟩
  | nw t =>
    obtain ⟨f, o, z⟩ := o
    obtain ⟨a, dx, fs, f', x1, x2, x3, x4, i⟩ := own o h
    exact ⟨a, dx, fs, f', x1, x2, x3, x4, fun a m => (z.2 a (i a m)).2.2⟩
  | br t =>
    obtain ⟨f, o, z⟩ := o
    obtain ⟨a, dx, fs, f', x1, x2, x3, x4, i⟩ := own o h
    exact ⟨a, dx, fs, f', x1, x2, x3, x4, fun a m => z a (i a m)⟩
  | ex t =>
    obtain ⟨f, o, z⟩ := o
    obtain ⟨a, dx, fs, f', x1, x2, x3, x4, i⟩ := own o h
    exact ⟨a, dx, fs, f', x1, x2, x3, x4, fun a m => z a (i a m)⟩
theorem lookup_no {m : Str} : ∀ {fs : List (Str × V)}, (fs.map (·.1)).contains m = false → fs.lookup m = none
  | [], _ => rfl
  | (a, b) :: fs, h => by
    have h2 : (m == a || (fs.map (·.1)).contains m) = false := by
      have h3 := h
      rw [List.map_cons, List.contains_cons] at h3
      exact h3
    obtain ⟨h3, h4⟩ := Bool.or_eq_false_iff.mp h2
    rw [List.lookup_cons, h3]
    exact lookup_no h4
theorem dp_fld (c : Cls X.K C) (n : NoAttr X.K C x) (he : PE X o (LP X.K mo)) (hb : attributeBase o x X.env (eval o X.env) = eval o X.env := by rfl) : PE X (.Attribute o x pos) (LP X.K (mFld C x mo)) := pe_imp (pe_fld he hb) fun σ H Q h => by
  obtain ⟨W, env, fp, xf, Q0, E, S, hm, k⟩ := h
  refine LP.next E S hm fun r ⟨ks, ts, t, ei, ea, q⟩ v W1' H1 t1' S1' E1' o' => ?_
  obtain ⟨W1, t1, S1, _, o⟩ := ffz_ok S t1' S1' o'
  obtain ⟨a, dx, fs, f, rfl, g, rfl, w, z⟩ := inst_ok ei o S1
  have key : ∀ {fs : List (Str × V)} {ts : List OT} {f : List Addr}, OwnAll X.K W1 H1 (fs.map (·.2)) ts f → assoc x (fs.map (·.1)) ts = some t → ∃ u g, fs.lookup x = some u ∧ Own X.K W1 H1 u t g ∧ ∀ a ∈ g, a ∈ f := by
    intro fs
    induction fs with
    | nil => intro ts f w e; cases w; cases e
    | cons p fs ih =>
      obtain ⟨kx, u⟩ := p
      intro ts f w e
      cases w with
      | cons o1 r1 =>
        rename_i t1 ts1 f1 g1
        have e : (if kx = x then some t1 else assoc x (fs.map (·.1)) ts1) = some t := e
        rw [List.lookup_cons]
        by_cases hk : kx = x
        · rw [if_pos hk] at e
          cases e
          rw [hk, beq_self_eq_true]
          exact ⟨u, f1, rfl, o1, fun a m => List.mem_append_left _ m⟩
        · rw [if_neg hk] at e
          have hk2 : (x == kx) = false := by simpa using fun q => hk q.symm
          rw [hk2]
          obtain ⟨u', g', e1, o2, s2⟩ := ih r1 e
          exact ⟨u', g', e1, o2, fun a m => List.mem_append_right _ (s2 a m)⟩
  obtain ⟨u, g2, el, ou, s2⟩ := key w ea
  refine ⟨a, C, dx, fs, u, rfl, g, c, n, el, k _ q u W1 H1 t1 S1 ?_⟩
  generalize r.ffz = r at z
  have lf : ∀ d, t = .leaf d → Rep X.K W1 u d := by
    intro d e
    subst e
    cases ou with
    | leaf q => exact q
  cases r with
  | fz d =>
    have z : f = [] := z
    subst z
    cases t with
    | leaf d => exact lf d rfl
    | lst _ => exact ⟨g2, ou, fun a m => absurd (s2 a m) (by simp)⟩
    | tup _ => exact ⟨g2, ou, fun a m => absurd (s2 a m) (by simp)⟩
    | ins _ _ _ => exact ⟨g2, ou, fun a m => absurd (s2 a m) (by simp)⟩
    | d0 => exact ⟨g2, ou, fun a m => absurd (s2 a m) (by simp)⟩
    | xo => exact ⟨g2, ou, fun a m => absurd (s2 a m) (by simp)⟩
    | dk _ _ => exact ⟨g2, ou, fun a m => absurd (s2 a m) (by simp)⟩
  | nw x =>
    cases t with
    | leaf d => exact lf d rfl
    | lst _ => exact ⟨g2, ou, fun a m => z a (s2 a m)⟩
    | tup _ => exact ⟨g2, ou, fun a m => z a (s2 a m)⟩
    | ins _ _ _ => exact ⟨g2, ou, fun a m => z a (s2 a m)⟩
    | d0 => exact ⟨g2, ou, fun a m => z a (s2 a m)⟩
    | xo => exact ⟨g2, ou, fun a m => z a (s2 a m)⟩
    | dk _ _ => exact ⟨g2, ou, fun a m => z a (s2 a m)⟩
  | br x =>
    cases t with
    | leaf d => exact lf d rfl
    | lst _ => exact ⟨g2, ou, fun a m => z a (s2 a m)⟩
    | tup _ => exact ⟨g2, ou, fun a m => z a (s2 a m)⟩
    | ins _ _ _ => exact ⟨g2, ou, fun a m => z a (s2 a m)⟩
    | d0 => exact ⟨g2, ou, fun a m => z a (s2 a m)⟩
    | xo => exact ⟨g2, ou, fun a m => z a (s2 a m)⟩
    | dk _ _ => exact ⟨g2, ou, fun a m => z a (s2 a m)⟩
  | ex x =>
    cases t with
    | leaf d => exact lf d rfl
    | lst _ => exact ⟨g2, ou, fun a m => z a (s2 a m)⟩
    | tup _ => exact ⟨g2, ou, fun a m => z a (s2 a m)⟩
    | ins _ _ _ => exact ⟨g2, ou, fun a m => z a (s2 a m)⟩
    | d0 => exact ⟨g2, ou, fun a m => z a (s2 a m)⟩
    | xo => exact ⟨g2, ou, fun a m => z a (s2 a m)⟩
    | dk _ _ => exact ⟨g2, ou, fun a m => z a (s2 a m)⟩
theorem meth_all {σ : L2.St} {H : Hp} {Q : VK} (hd : ∀ W, RepAll X.K W dvs dv) (h : LP X.K (mMeth n C m F1 mo ma dv) σ H Q) : tMeth C m (spR X.K n F1.io) dvs E (LP X.K mo) (LA X.K ma) σ H Q := by
  obtain ⟨W, env, fp, xf, Q0, En, S, hm, k⟩ := h
  refine LP.next En S hm fun r ⟨ks, ts, ei, en, hq⟩ v W1' H1 t1' S1' E1' o' => ?_
  obtain ⟨W1, t1, S1, _, o⟩ := ffz_ok S t1' S1' o'
  obtain ⟨a, dx, fs, f, rfl, g, rfl, w, z⟩ := inst_ok ei o S1
  refine ⟨a, dx, fs, rfl, g, lookup_no en, ?_⟩
  refine LA.next (En.keep S t1) S1 hq fun rs ⟨hn, hr⟩ vs W2 H2 g2 t2 S2 E2 os G => ?_
  obtain ⟨W4, g', t4, S4, l4, e4, o4, G4, i4, k4⟩ := os.ffz (.refl _) rfl S1 t2 S2 G.1 G.2
  have l := t4.le S1 fun _ m => by cases m
  have oo := o.keep t4 l
  have O : Ops X.K H Q Q0 W4 H2 W fp xf := ⟨S, t1.tr0 t4, S4, k⟩
  have hlen : (V.ref a :: (vs ++ dvs)).length = n := by
    rw [List.length_cons, ← args_len os.len (hd W2).len]
    exact hn
  have e : some r.lend :: args rs dv = ((r.ffz :: rs.map Rs.ffz).map fun r => some r.arg) ++ dv.map fun d => some (.fz d) := by
    rw [args_eq] <;> rfl
  rw [e] at hr
  have Gb := fresh_back G4 t1.al
  have ob : ResAll X.K H fp W4 H2 vs (rs.map Rs.ffz) g' := o4.back
  generalize r.ffz = q at oo hr
  have fin : ∀ q2 g0, q2.arg = q.arg → ResAll X.K H fp W4 H2 (.ref a :: vs) (q2 :: rs.map Rs.ffz) g0 → Fresh H W4 g0 → spR X.K n F1.io (.ref a :: (vs ++ dvs)) H2 Q E := fun q2 g0 e0 o0 G0 => call1 (vs := .ref a :: vs) hlen O o0 G0 hd (by
    rw [List.map_cons, e0]
    exact hr)
  cases q with
  | fz d => exact fin (.fz d) g' rfl (.fz oo ob) Gb
  | nw x => obtain ⟨f2, ow, nd, zz⟩ := oo; exact fin (.br x) g' rfl (.br ow (fun a m => (zz a m).2.2) ob) Gb
  | br x => obtain ⟨f2, ow, zz⟩ := oo; exact fin (.br x) g' rfl (.br ow zz ob) Gb
  | ex x => obtain ⟨f2, ow, zz⟩ := oo; exact fin (.ex x) g' rfl (.ex ow zz ob) Gb
theorem dp_meth {pl : Sem Bool} (c : Cls X.K C) (hm : Meth X.K C m f) (F : FnOk X.prog X.w X.K X.mg X.base CX k f fd ps (spR X.K n F1.io)) (hr : Room k X.A) (hb : Binds X.K fd ps ds) (hv : Vals dvs ds) (hd : ∀ W, RepAll X.K W dvs dv) (hx : Passes CX X E) (he : PE X o (LP X.K mo)) (ha : PA X (e :: es) (LA X.K ma))
    (hst : starEach (e :: es) X.env = (false, eval e X.env) :: starEach es X.env := by rfl) (hpl : (backTo pos (starEach es X.env)).any (·.1) = false := by rfl)
    (ht : eval (.Call (.Attribute o m apos) (e :: es) [] pos) X.env = (do
      let ov ← eval o X.env
      standAt apos.atName
      let (f, first) ← holding [ov] (getMethod ov m pl)
      callWith pos f first (backTo pos (starEach (e :: es) X.env)) (backToKw pos (keywordEach [] X.env))) := by rfl) :
    PE X (.Call (.Attribute o m apos) (e :: es) [] pos) (LP X.K (mMeth n C m F1 mo ma dv)) := pe_imp (pe_meth (pl := pl) he c hm F hr hb hv hx ha hst hpl ht) fun σ H Q h => meth_all hd h
theorem dp_meth0 {pl : Sem Bool} (c : Cls X.K C) (hm : Meth X.K C m f) (F : FnOk X.prog X.w X.K X.mg X.base CX k f fd ps (spR X.K n F1.io)) (hr : Room k X.A) (hb : Binds X.K fd ps ds) (hv : Vals dvs ds) (hd : ∀ W, RepAll X.K W dvs dv) (hx : Passes CX X E) (he : PE X o (LP X.K mo))
    (ht : eval (.Call (.Attribute o m apos) [] [] pos) X.env = (do
      let ov ← eval o X.env
      standAt apos.atName
      let (f, first) ← holding [ov] (getMethod ov m pl)
      callWith pos f first (backTo pos (starEach [] X.env)) (backToKw pos (keywordEach [] X.env))) := by rfl) :
    PE X (.Call (.Attribute o m apos) [] [] pos) (LP X.K (mMeth n C m F1 mo mNil dv)) := pe_imp (pe_meth0 (pl := pl) he c hm F hr hb hv hx ht) fun σ H Q h => by
  have h2 := meth_all (E := E) hd h
  obtain ⟨W, env, fp, xf, Q0, En, S, hm, k⟩ := h2
  refine LP.next En S hm fun r hq v W1 H1 t1 S1 E1 o => ?_
  obtain ⟨a, dx, fs, ea, g, l, hla⟩ := k r hq v W1 H1 t1 S1 o
  refine ⟨a, dx, fs, ea, g, l, ?_⟩
  obtain ⟨W2, env2, fp2, xf2, Q2, E2, S2, hm2, k2⟩ := hla
  exact k2 _ hm2 [] W2 H1 [] .refl S2 .nil ⟨List.nodup_nil, fun _ m => by cases m⟩
theorem make_all {σ : L2.St} {H : Hp} {Q : VK} (hd : ∀ W, RepAll X.K W dvs dv) (h : LP X.K (mMake n C F0 ma dv) σ H Q) : tMake C (spR X.K n F0) dvs E (LA X.K ma) σ H Q := by
  obtain ⟨W, env, fp, xf, Q0, En, S, hm, k⟩ := h
  refine LA.next En S hm fun rs ⟨hn, hr⟩ vs W1 H1 g t1 S1 E1 os G => ?_
  intro x dx nx ndx ne
  obtain ⟨W4, g', t4, S4, _, _, o4, G4, _, _⟩ := os.ffz (.refl _) rfl S t1 S1 G.1 G.2
  obtain ⟨xf1, Ea, z1⟩ := o4.lend fun a m => (G4.2 a m).2.2
  obtain ⟨xf2, Eb, z2⟩ := (EnvOk.consts (hd W4)).app Ea
  rw [← List.map_append] at Eb
  have nx1 : upd H1 dx (.own x) x = none := by rw [upd_ne (Ne.symm ne)]; exact nx
  have tn := (Stp.new (W := W4) (o := .own x) ndx).tr0 (.new (o := .ins C dx []) nx1)
  have Sn := (S4.new (o := .own x) ndx).new (o := .ins C dx []) nx1
  have En2 := Eb.mono (W' := W4) (H' := upd (upd H1 dx (.own x)) x (.ins C dx [])) (.refl _) fun a m o e => by
    rw [upd_ne (fun q => by rw [q, nx] at e; cases e), upd_ne (fun q => by rw [q, ndx] at e; cases e)]
    exact e
  have fx := S4.free nx
  have ow : Own X.K W4 (upd (upd H1 dx (.own x)) x (.ins C dx [])) (.ref x) (.ins C [] []) [x] := .ins (fs := []) upd_same .nil
  have E3 := EnvOk.nw ow En2
  have S3 : Sat X.K W4 (upd (upd H1 dx (.own x)) x (.ins C dx [])) ([x] ++ ([] ++ [])) xf2 := ⟨Sn.sub, Sn.vol, by simp, fun a m => by
    have e : a = x := by simpa using m
    rw [e]
    exact ⟨fx.1, fx.2, by rw [upd_same]; exact fun z => nomatch z⟩, fun a m => by
    have q : W4.S a = none ∧ H1 a ≠ none := (z2 a m).elim (z1 a) fun m => by cases m
    exact ⟨fun m2 => q.2 (by rw [show a = x by simpa using m2]; exact nx), q.1, tn.al a q.2⟩⟩
  have hlen : (V.ref x :: (vs ++ dvs)).length = n := by
    rw [List.length_cons, ← args_len os.len (hd W1).len]
    exact hn
  rw [args_eq] at hr
  refine ⟨hlen, W4, _, _, xf2, _, E3, S3, hr, fun r ss' ⟨er, t, es, q⟩ v W' H' fp' xf' t5 E5 S5 nf o => ?_⟩
  subst er
  have ev : v = .non := by cases (show Rep X.K W' v .non from o); rfl
  have tall : Stp W H [] W' H' := by
    refine (t4.tr0 tn).trans t5 fun a m => .inr ?_
    have e : a = x := by simpa using m
    rw [e]
    cases z : H x with
    | none => rfl
    | some u => exact absurd nx (t4.al x (some_ne z))
  have Sb := S.back tall (S5.sublist (List.nil_sublist _) fun _ m => m)
  refine ⟨ev, ?_⟩
  cases ss' with
  | nil => cases es
  | cons s0 ss0 =>
    have es : some s0 = some (some (Rs.nw t)) := es
    cases es
    cases E5 with
    | nw ow5 rest =>
      rename_i f5 fp5
      obtain ⟨n1, _, _⟩ := List.nodup_append.mp S5.nd
      refine k _ q _ W' H' tall Sb ⟨f5, ow5, n1, fun a m => ?_⟩
      obtain ⟨o1, o2, _⟩ := S5.off a (List.mem_append_left _ m)
      refine ⟨?_, o1, o2⟩
      rcases nf a (List.mem_append_left _ m) with z | z
      · have e : a = x := by simpa using z
        rw [e]
        cases z : H x with
        | none => rfl
        | some u => exact absurd nx (t4.al x (some_ne z))
      · cases z2 : H a with
        | none => rfl
        | some u => exact absurd z ((t4.tr0 tn).al a (some_ne z2))
theorem dp_make (M : Mk X.K C f) (F : FnOk X.prog X.w X.K X.mg X.base CX k f fd ps (spR X.K n F0)) (hr : Room (k + 1) X.A) (hm : X.mg x = some (.ref C)) (hb : Binds X.K fd ps ds) (hv : Vals dvs ds) (hd : ∀ W, RepAll X.K W dvs dv) (hx : Passes CX X E) (ha : PA X (e :: es) (LA X.K ma))
    (hg : Gl X x := by rfl) (hdb : (x == ("__debug__" : Str)) = false := by decide) (he : starEach (e :: es) X.env = (false, eval e X.env) :: starEach es X.env := by rfl) (hpl : (backTo pos (starEach es X.env)).any (·.1) = false := by rfl) :
    PE X (.Call (.Name x p) (e :: es) [] pos) (LP X.K (mMake n C F0 ma dv)) := pe_imp (pe_make M F hr hg hm hb hv hx ha hdb he hpl) fun σ H Q h => make_all hd h
end
section
variable {P : Program} {w : World} {K : PySem.W.Frag} {mg : Str → Option Value} {base : Heap}
theorem start_env {K : PySem.W.Frag} {W : Wd} {H : Hp} {vs : List V} {ss : Env} {fp xf : List Addr} {N : List Str} {n : Nat} (E : EnvOk K W H (vs.map some) ss fp xf) (h : vs.length = n) : ∃ xf', EnvOk K W H (L2.start N vs) (ss ++ List.replicate (N.length - n) none) fp xf' ∧ ∀ a ∈ xf', a ∈ xf := by
  obtain ⟨xf', e, z⟩ := (EnvOk.nones (K := K) (W := W) (H := H) (N.length - n)).app E
  rw [List.append_nil] at e
  refine ⟨xf', ?_, fun a m => (z a m).elim id fun m => by cases m⟩
  unfold L2.start
  rw [h]
  exact e
theorem fn_RL {x qual : Str} {params : Arguments} {bodyS : List Stmt} {scope : Scope} {dfl : List V} {kws : List (Str × V)} {f : Addr} {fd : FuncData} {N ps : List Str} {k n : Nat} {F0 : Spec} {pr : List Nat} {m : DS} (F : FunD K x qual params bodyS scope dfl kws f fd) (S : FnScope N ps scope) (hn : ps.length = n)
    (body : ∀ (cdv : Value), CodeAt K f cdv qual → ∀ (A : Around) (outer : List PySem.Env) (s : Shared) (H : Hp) (E : XK), Room k (A.deeper (envOfC qual scope s.heap.objs.size f cdv)) → PSs (cxOf CX0 P w K mg base N qual scope f cdv A outer s H E).nox bodyS (LS K exT pr m))
    (wp : ∀ ss Q0, ss.length = n → F0 ss Q0 → m (ss ++ List.replicate (N.length - n) none) { nx := fun e => Q0 (.fz .non) (outs pr n e), rt := fun r e => Q0 r (outs pr n e) }) : FnOk P w K mg base CX0 (k + 1) f fd ps (spR K n F0) := by
  refine def_okL F S (fun vs H Q E h => by rw [hn]; exact h.1) (fun cdv hc A outer s H vs Q E hr h => ⟨LS K exT pr m, (body cdv hc A outer s H E hr).nox, ?_⟩)
  obtain ⟨hl, W, ss, fp, xf, Q0, E0, S0, hF, kk⟩ := h
  have hss : ss.length = n := by
    have e := E0.len
    rw [List.length_map] at e
    omega
  obtain ⟨xf1, E1, z1⟩ := start_env (N := N) E0 hl
  have pick : ∀ {σ' : L2.St} {e : Env} {W' : Wd} {H' : Hp} {fp' xf' : List Addr}, Post K W H fp pr (L2.start N vs) σ' W' H' e fp' xf' → ∃ fp2 xf2, EnvOk K W' H' (vs.map some) (outs pr n e) fp2 xf2 ∧ fp2.Sublist fp' ∧ ∀ a ∈ xf2, a ∈ xf' := by
    intro σ' e W' H' fp' xf' Pt
    refine Pt.E.pick _ _ ?_ fun i s hs => ?_
    · unfold outs
      rw [List.length_map, List.length_map, List.length_range, hl]
    · unfold outs at hs
      rw [List.getElem?_map] at hs
      cases q : (List.range n)[i]? with
      | none => rw [q] at hs; cases hs
      | some j =>
        obtain ⟨hi, ej⟩ := List.getElem?_eq_some_iff.mp q
        rw [List.getElem_range] at ej
        subst ej
        rw [List.length_range] at hi
        rw [q] at hs
        have hs : some (if i ∈ pr then (e[i]?).join else none) = some (some s) := hs
        by_cases hp : i ∈ pr
        · rw [if_pos hp] at hs
          have e2 : (e[i]?).join = some s := Option.some.inj hs
          have e3 : e[i]? = some (some s) := by
            cases q2 : e[i]? with
            | none => rw [q2] at e2; cases e2
            | some y => rw [q2] at e2; exact congrArg some e2
          refine ⟨e3, ?_⟩
          have h4 := Pt.pr i hp
          have h5 : (L2.start N vs)[i]? = (vs.map some)[i]? := by
            unfold L2.start
            rw [List.getElem?_append_left (by rw [List.length_map]; omega)]
          rw [h4, h5]
        · rw [if_neg hp] at hs
          cases hs
  have fin : ∀ r e, Q0 r (outs pr n e) → ∀ v σ' W' H' fp' xf', Post K W H fp pr (L2.start N vs) σ' W' H' e fp' xf' → RetOk K H fp fp' W' H' v r → Q v H' := fun r e q v σ' W' H' fp' xf' Pt o => by
    obtain ⟨fp2, xf2, E2, sl, z2⟩ := pick Pt
    refine kk r _ q v W' H' fp2 xf2 Pt.t E2 (Pt.S.sublist sl z2) (fun a m => Pt.nf a (sl.subset m)) ?_
    cases r with
    | fz d => exact o
    | nw t =>
      obtain ⟨f, ow, nd, z⟩ := o
      exact ⟨f, ow, nd, fun a m => ⟨(z a m).1, fun q => (z a m).2.1 (sl.subset q), (z a m).2.2⟩⟩
    | br t => exact o
    | ex t => exact o
  refine ⟨W, _, fp, xf1, _, E1, S0.less0 z1, wp ss Q0 hss hF, fun e q σ' W' H' fp' xf' Pt => fin _ e q .non σ' W' H' fp' xf' Pt Rep.non, fun _ q => q.elim, fun _ q => q.elim, ⟨fin, fun _ _ _ _ _ _ _ _ _ => trivial⟩⟩
theorem fn_R {x qual : Str} {params : Arguments} {bodyS : List Stmt} {scope : Scope} {dfl : List V} {kws : List (Str × V)} {f : Addr} {fd : FuncData} {N ps : List Str} {k n : Nat} {F0 : Spec} {pr : List Nat} {m : DS} (F : FunD K x qual params bodyS scope dfl kws f fd) (S : FnScope N ps scope) (hn : ps.length = n)
    (body : ∀ (cdv : Value) (A : Around) (outer : List PySem.Env) (s : Shared) (H : Hp) (E : XK), Room k (A.deeper (envOfC qual scope s.heap.objs.size f cdv)) → PSs (cxOf CX0 P w K mg base N qual scope f cdv A outer s H E).nox bodyS (LS K exT pr m))
    (wp : ∀ ss Q0, ss.length = n → F0 ss Q0 → m (ss ++ List.replicate (N.length - n) none) { nx := fun e => Q0 (.fz .non) (outs pr n e), rt := fun r e => Q0 r (outs pr n e) }) : FnOk P w K mg base CX0 (k + 1) f fd ps (spR K n F0) := fn_RL F S hn (fun cdv _ => body cdv) wp
end
end R
namespace R
open PySem PySem.Spec PyProof.Rows L2
section
variable {K : PySem.W.Frag} {W W1 W2 W' : Wd} {H H1 H2 H' : Hp} {f f1 fp fp1 fp2 xf xf1 xf2 : List Addr} {σ σ1 σ2 : L2.St} {Q : VK} {r : Rs} {v : V} {env env1 env2 : Env}
theorem OwnAll.split : ∀ {vs : List V} {ts : List OT} {f : List Addr} {j : Nat} {c : OT}, OwnAll K W H vs ts f → ts[j]? = some c → ∃ u fc rest, vs[j]? = some u ∧ Own K W H u c fc ∧ f.Perm (fc ++ rest) ∧
    ∀ (W' : Wd) (H' : Hp) (u' : V) (c' : OT) (fc' : List Addr), W.Le W' → (∀ a ∈ rest, ∀ o, H a = some o → H' a = some o) → Own K W' H' u' c' fc' → ∃ f', OwnAll K W' H' (vs.set j u') (ts.set j c') f' ∧ f'.Perm (fc' ++ rest)
  | _, _, _, _, _, .nil, h => by simp at h
  | _, _, _, 0, _, .cons (f := f) (g := g) o r, h => by
    simp at h
    subst h
    refine ⟨_, f, g, rfl, o, .refl _, fun W' H' u' c' fc' l k o' => ⟨fc' ++ g, .cons o' (r.mono l k), .refl _⟩⟩
  | _, _, _, j + 1, _, .cons (f := f) (g := g) o r, h => by
    obtain ⟨u, fc, rest, e, o2, p, k⟩ := OwnAll.split (j := j) r (by simpa using h)
    have pc : ∀ (x : List Addr), (f ++ (x ++ rest)).Perm (x ++ (f ++ rest)) := fun x => by
      rw [← List.append_assoc, ← List.append_assoc]
      exact List.perm_append_comm.append_right _
    refine ⟨u, fc, f ++ rest, by simpa using e, o2, (p.append_left f).trans (pc fc), fun W' H' u' c' fc' l q o' => ?_⟩
    obtain ⟨f', a, b⟩ := k W' H' u' c' fc' l (fun a m => q a (List.mem_append_right _ m)) o'
    exact ⟨f ++ f', .cons (o.mono l fun a m => q a (List.mem_append_left _ m)) a, (b.append_left f).trans (pc fc')⟩
inductive AtP (K : PySem.W.Frag) (W : Wd) (H : Hp) : V → OT → List Nat → V → OT → Prop where
  | nil {v : V} {t : OT} : AtP K W H v t [] v t
  | lst {p : Addr} {vs : List V} {ts : List OT} {j : Nat} {js : List Nat} {u v' : V} {c s : OT} : H p = some (.lst vs) → vs[j]? = some u → ts[j]? = some c → AtP K W H u c js v' s → AtP K W H (.ref p) (.lst ts) (j :: js) v' s
  | tup {p : Addr} {vs : List V} {ts : List OT} {j : Nat} {js : List Nat} {u v' : V} {c s : OT} : H p = some (.tup vs) → vs[j]? = some u → ts[j]? = some c → AtP K W H u c js v' s → AtP K W H (.ref p) (.tup ts) (j :: js) v' s
  | ins {p C dx : Addr} {fs : List (Str × V)} {ks : List Str} {ts : List OT} {j : Nat} {js : List Nat} {u v' : V} {c s : OT} : H p = some (.ins C dx fs) → (fs.map (·.2))[j]? = some u → ts[j]? = some c → AtP K W H u c js v' s → AtP K W H (.ref p) (.ins C ks ts) (j :: js) v' s
  | dk {p : Addr} {kvs : List (L2.Key × V)} {ks : List L2.Key} {ts : List OT} {j : Nat} {js : List Nat} {u v' : V} {c s : OT} : H p = some (.dK kvs) → (kvs.map (·.2))[j]? = some u → ts[j]? = some c → AtP K W H u c js v' s → AtP K W H (.ref p) (.dk ks ts) (j :: js) v' s
theorem AtP.at {v v' : V} {t s : OT} {js : List Nat} (h : AtP K W H v t js v' s) : t.at? js = some s := by
  induction h with
  | nil => rfl
  | lst _ _ e _ ih => show (_ : Option OT).bind _ = _; rw [OT.kid?, e]; exact ih
  | tup _ _ e _ ih => show (_ : Option OT).bind _ = _; rw [OT.kid?, e]; exact ih
  | ins _ _ e _ ih => show (_ : Option OT).bind _ = _; rw [OT.kid?, e]; exact ih
  | dk _ _ e _ ih => show (_ : Option OT).bind _ = _; rw [OT.kid?, e]; exact ih
theorem AtP.snoc {v v' u : V} {t s c : OT} {js : List Nat} {j : Nat} (h : AtP K W H v t js v' s) (k : AtP K W H v' s [j] u c) : AtP K W H v t (js ++ [j]) u c := by
  induction h with
  | nil => exact k
  | lst a b e _ ih => exact .lst a b e (ih k)
  | tup a b e _ ih => exact .tup a b e (ih k)
  | ins a b e _ ih => exact .ins a b e (ih k)
  | dk a b e _ ih => exact .dk a b e (ih k)
theorem put_kid {t c s : OT} {j : Nat} {js : List Nat} (h : t.kid? j = some c) : t.put (j :: js) s = t.set? j (c.put js s) := by
  show (match t.kid? j with | some c => t.set? j (c.put js s) | none => t) = _
  rw [h]
theorem place {v v' : V} {t s : OT} {js : List Nat} (h : AtP K W H v t js v' s) : ∀ {f : List Addr}, Own K W H v t f → ∃ fs rest, Own K W H v' s fs ∧ f.Perm (fs ++ rest) ∧
    ∀ (W' : Wd) (H' : Hp) (s' : OT) (fs' : List Addr), W.Le W' → (∀ a ∈ rest, ∀ o, H a = some o → H' a = some o) → Own K W' H' v' s' fs' → ∃ f', Own K W' H' v (t.put js s') f' ∧ f'.Perm (fs' ++ rest) := by
  induction h with
  | nil =>
    intro f o
    exact ⟨f, [], o, by rw [List.append_nil], fun W' H' s' fs' l k o' => ⟨fs', o', by rw [List.append_nil]⟩⟩
  | lst hp hu hc _ ih =>
    rename_i p vs ts j js u v' c s hsub
    intro f o
    cases o with
    | lst g w =>
      rename_i vs2 f2
      rw [hp] at g
      cases g
      obtain ⟨u2, fc, rest, e2, o2, p2, k2⟩ := w.split hc
      rw [hu] at e2
      cases e2
      obtain ⟨fs, rest2, o3, p3, k3⟩ := ih o2
      refine ⟨fs, p :: (rest2 ++ rest), o3, ?_, fun W' H' s' fs' l k o' => ?_⟩
      · refine (List.Perm.cons p (p2.trans (p3.append_right rest))).trans ?_
        rw [List.append_assoc]
        exact List.perm_middle.symm
      · obtain ⟨f', o4, p4⟩ := k3 W' H' s' fs' l (fun a m => k a (List.mem_cons_of_mem _ (List.mem_append_left _ m))) o'
        obtain ⟨f5, o5, p5⟩ := k2 W' H' u _ f' l (fun a m => k a (List.mem_cons_of_mem _ (List.mem_append_right _ m))) o4
        have e5 : vs.set j u = vs := List.set_getElem_self_some hu
        rw [e5] at o5
        rw [put_kid (t := .lst ts) hc]
        refine ⟨p :: f5, .lst (k p List.mem_cons_self _ hp) o5, ?_⟩
        refine (List.Perm.cons p (p5.trans (p4.append_right rest))).trans ?_
        rw [List.append_assoc]
        exact List.perm_middle.symm
  | tup hp hu hc _ ih =>
    rename_i p vs ts j js u v' c s hsub
    intro f o
    cases o with
    | tup g w =>
      rename_i vs2 f2
      rw [hp] at g
      cases g
      obtain ⟨u2, fc, rest, e2, o2, p2, k2⟩ := w.split hc
      rw [hu] at e2
      cases e2
      obtain ⟨fs, rest2, o3, p3, k3⟩ := ih o2
      refine ⟨fs, p :: (rest2 ++ rest), o3, ?_, fun W' H' s' fs' l k o' => ?_⟩
      · refine (List.Perm.cons p (p2.trans (p3.append_right rest))).trans ?_
        rw [List.append_assoc]
        exact List.perm_middle.symm
      · obtain ⟨f', o4, p4⟩ := k3 W' H' s' fs' l (fun a m => k a (List.mem_cons_of_mem _ (List.mem_append_left _ m))) o'
        obtain ⟨f5, o5, p5⟩ := k2 W' H' u _ f' l (fun a m => k a (List.mem_cons_of_mem _ (List.mem_append_right _ m))) o4
        have e5 : vs.set j u = vs := List.set_getElem_self_some hu
        rw [e5] at o5
        rw [put_kid (t := .tup ts) hc]
        refine ⟨p :: f5, .tup (k p List.mem_cons_self _ hp) o5, ?_⟩
        refine (List.Perm.cons p (p5.trans (p4.append_right rest))).trans ?_
        rw [List.append_assoc]
        exact List.perm_middle.symm
  | ins hp hu hc _ ih =>
    rename_i p C dx fs ks ts j js u v' c s hsub
    intro f o
    cases o with
    | ins g w =>
      rename_i dx2 fs2 f2
      rw [hp] at g
      cases g
      obtain ⟨u2, fc, rest, e2, o2, p2, k2⟩ := w.split hc
      rw [hu] at e2
      cases e2
      obtain ⟨fs3, rest2, o3, p3, k3⟩ := ih o2
      refine ⟨fs3, p :: (rest2 ++ rest), o3, ?_, fun W' H' s' fs' l k o' => ?_⟩
      · refine (List.Perm.cons p (p2.trans (p3.append_right rest))).trans ?_
        rw [List.append_assoc]
        exact List.perm_middle.symm
      · obtain ⟨f', o4, p4⟩ := k3 W' H' s' fs' l (fun a m => k a (List.mem_cons_of_mem _ (List.mem_append_left _ m))) o'
        obtain ⟨f5, o5, p5⟩ := k2 W' H' u _ f' l (fun a m => k a (List.mem_cons_of_mem _ (List.mem_append_right _ m))) o4
        have e5 : (fs.map (·.2)).set j u = fs.map (·.2) := List.set_getElem_self_some hu
        rw [e5] at o5
        rw [put_kid (t := .ins C _ ts) hc]
        refine ⟨p :: f5, .ins (k p List.mem_cons_self _ hp) o5, ?_⟩
        refine (List.Perm.cons p (p5.trans (p4.append_right rest))).trans ?_
        rw [List.append_assoc]
        exact List.perm_middle.symm
  | dk hp hu hc _ ih =>
    rename_i p kvs ks ts j js u v' c s hsub
    intro f o
    cases o with
    | dk g w =>
      rename_i fs2 f2
      rw [hp] at g
      cases g
      obtain ⟨u2, fc, rest, e2, o2, p2, k2⟩ := w.split hc
      rw [hu] at e2
      cases e2
      obtain ⟨fs3, rest2, o3, p3, k3⟩ := ih o2
      refine ⟨fs3, p :: (rest2 ++ rest), o3, ?_, fun W' H' s' fs' l k o' => ?_⟩
      · refine (List.Perm.cons p (p2.trans (p3.append_right rest))).trans ?_
        rw [List.append_assoc]
        exact List.perm_middle.symm
      · obtain ⟨f', o4, p4⟩ := k3 W' H' s' fs' l (fun a m => k a (List.mem_cons_of_mem _ (List.mem_append_left _ m))) o'
        obtain ⟨f5, o5, p5⟩ := k2 W' H' u _ f' l (fun a m => k a (List.mem_cons_of_mem _ (List.mem_append_right _ m))) o4
        have e5 : (kvs.map (·.2)).set j u = kvs.map (·.2) := List.set_getElem_self_some hu
        rw [e5] at o5
        rw [put_kid (t := .dk _ ts) hc]
        refine ⟨p :: f5, .dk (k p List.mem_cons_self _ hp) o5, ?_⟩
        refine (List.Perm.cons p (p5.trans (p4.append_right rest))).trans ?_
        rw [List.append_assoc]
        exact List.perm_middle.symm
theorem EnvOk.slot {σ : L2.St} {env : Env} {fp xf : List Addr} (E : EnvOk K W H σ env fp xf) : ∀ {i : Nat} {t : OT} {v : V}, env[i]? = some (some (.nw t)) → σ[i]? = some (some v) → ∃ f rest, Own K W H v t f ∧ fp.Perm (f ++ rest) ∧
    ∀ (W' : Wd) (H' : Hp) (t' : OT) (f' : List Addr), W.Le W' → (∀ a, a ∈ rest ∨ a ∈ xf → ∀ o, H a = some o → H' a = some o) → Own K W' H' v t' f' → ∃ fp', EnvOk K W' H' σ (env.set i (some (.nw t'))) fp' xf ∧ fp'.Perm (f' ++ rest) := by
  induction E with
  | nil => intro i t v e; simp at e
  | no E ih =>
    intro i t v e1 e2
    cases i with
    | zero => simp at e1
    | succ i =>
      obtain ⟨f, rest, a, b, c⟩ := ih (i := i) (t := t) (v := v) (by simpa using e1) (by simpa using e2)
      refine ⟨f, rest, a, b, fun W' H' t' f' l k o => ?_⟩
      obtain ⟨fp', x, y⟩ := c W' H' t' f' l k o
      exact ⟨fp', .no x, y⟩
  | fz q E ih =>
    intro i t v e1 e2
    cases i with
    | zero => simp at e1
    | succ i =>
      obtain ⟨f, rest, a, b, c⟩ := ih (i := i) (t := t) (v := v) (by simpa using e1) (by simpa using e2)
      refine ⟨f, rest, a, b, fun W' H' t' f' l k o => ?_⟩
      obtain ⟨fp', x, y⟩ := c W' H' t' f' l k o
      exact ⟨fp', .fz (q.mono l) x, y⟩
  | nw q E ih =>
    rename_i v0 t0 f0 σ e fp xf
    intro i t v e1 e2
    have pc : ∀ (x rest : List Addr), (f0 ++ (x ++ rest)).Perm (x ++ (f0 ++ rest)) := fun x rest => by
      rw [← List.append_assoc, ← List.append_assoc]
      exact List.perm_append_comm.append_right _
    cases i with
    | zero =>
      simp at e1 e2
      subst e1 e2
      exact ⟨f0, fp, q, .refl _, fun W' H' t' f' l k o => ⟨f' ++ fp, .nw o (E.mono l fun a m => k a m), .refl _⟩⟩
    | succ i =>
      obtain ⟨f, rest, a, b, c⟩ := ih (i := i) (t := t) (v := v) (by simpa using e1) (by simpa using e2)
      refine ⟨f, f0 ++ rest, a, (b.append_left f0).trans (pc f rest), fun W' H' t' f' l k o => ?_⟩
      obtain ⟨fp', x, y⟩ := c W' H' t' f' l (fun a m => k a (m.imp (List.mem_append_right _) id)) o
      exact ⟨f0 ++ fp', .nw (q.mono l fun a m => k a (.inl (List.mem_append_left _ m))) x, (y.append_left f0).trans (pc f' rest)⟩
  | ex q E ih =>
    intro i t v e1 e2
    cases i with
    | zero => simp at e1
    | succ i =>
      obtain ⟨f, rest, a, b, c⟩ := ih (i := i) (t := t) (v := v) (by simpa using e1) (by simpa using e2)
      refine ⟨f, rest, a, b, fun W' H' t' f' l k o => ?_⟩
      obtain ⟨fp', x, y⟩ := c W' H' t' f' l (fun a m => k a (m.imp id (List.mem_append_right _))) o
      exact ⟨fp', .ex (q.mono l fun a m => k a (.inr (List.mem_append_left _ m))) x, y⟩
def PlOk (K : PySem.W.Frag) (W : Wd) (H : Hp) (σ : L2.St) (env : Env) (u : V) (i : Nat) (js : List Nat) : Prop := ∃ t v s, env[i]? = some (some (.nw t)) ∧ σ[i]? = some (some v) ∧ AtP K W H v t js u s
theorem tree_at {i : Nat} {js : List Nat} {t s : OT} (he : env[i]? = some (some (.nw t))) (h : t.at? js = some s) : tree env i js = some s := by
  unfold tree
  rw [he]
  exact h
theorem put_at {i : Nat} {js : List Nat} {t s : OT} (he : env[i]? = some (some (.nw t))) : put env i js s = env.set i (some (.nw (t.put js s))) := by
  unfold put
  rw [he]
theorem place_ok {i : Nat} {js : List Nat} {u : V} {s : OT} {σ : L2.St} (E : EnvOk K W H σ env fp xf) (P : PlOk K W H σ env u i js) (ht : tree env i js = some s) :
    ∃ fs rest, Own K W H u s fs ∧ fp.Perm (fs ++ rest) ∧ ∀ (W' : Wd) (H' : Hp) (s' : OT) (fs' : List Addr), W.Le W' → (∀ a, a ∈ rest ∨ a ∈ xf → ∀ o, H a = some o → H' a = some o) → Own K W' H' u s' fs' → ∃ fp', EnvOk K W' H' σ (put env i js s') fp' xf ∧ fp'.Perm (fs' ++ rest) := by
  obtain ⟨t, v, s2, he, ev, ap⟩ := P
  rw [tree_at he ap.at] at ht
  cases ht
  obtain ⟨f, rest, ow, p, k⟩ := E.slot he ev
  obtain ⟨fs, rest2, os, p2, k2⟩ := place ap ow
  refine ⟨fs, rest2 ++ rest, os, by rw [← List.append_assoc]; exact p.trans (p2.append_right rest), fun W' H' s' fs' l kk o => ?_⟩
  obtain ⟨f', o2, p3⟩ := k2 W' H' s' fs' l (fun a m => kk a (.inl (List.mem_append_left _ m))) o
  obtain ⟨fp', e2, p4⟩ := k W' H' _ f' l (fun a m => kk a (m.imp (List.mem_append_right _) id)) o2
  rw [put_at he]
  exact ⟨fp', e2, by rw [← List.append_assoc]; exact p4.trans (p3.append_right rest)⟩
theorem AtP.mono {v u : V} {t s : OT} {js : List Nat} (h : AtP K W H v t js u s) : ∀ {f : List Addr}, Own K W H v t f → (∀ a ∈ f, ∀ o, H a = some o → H' a = some o) → AtP K W' H' v t js u s := by
  induction h with
  | nil => intro _ _ _; exact .nil
  | lst a b c _ ih =>
    intro f o k
    cases o with
    | lst g w =>
      rw [a] at g
      cases g
      obtain ⟨u2, fc, rest, e2, o2, p2, _⟩ := w.split c
      rw [b] at e2
      cases e2
      exact .lst (k _ List.mem_cons_self _ a) b c (ih o2 fun x m => k x (List.mem_cons_of_mem _ (p2.mem_iff.mpr (List.mem_append_left _ m))))
  | tup a b c _ ih =>
    intro f o k
    cases o with
    | tup g w =>
      rw [a] at g
      cases g
      obtain ⟨u2, fc, rest, e2, o2, p2, _⟩ := w.split c
      rw [b] at e2
      cases e2
      exact .tup (k _ List.mem_cons_self _ a) b c (ih o2 fun x m => k x (List.mem_cons_of_mem _ (p2.mem_iff.mpr (List.mem_append_left _ m))))
  | ins a b c _ ih =>
    intro f o k
    cases o with
    | ins g w =>
      rw [a] at g
      cases g
      obtain ⟨u2, fc, rest, e2, o2, p2, _⟩ := w.split c
      rw [b] at e2
      cases e2
      exact .ins (k _ List.mem_cons_self _ a) b c (ih o2 fun x m => k x (List.mem_cons_of_mem _ (p2.mem_iff.mpr (List.mem_append_left _ m))))
  | dk a b c _ ih =>
    intro f o k
    cases o with
    | dk g w =>
      rw [a] at g
      cases g
      obtain ⟨u2, fc, rest, e2, o2, p2, _⟩ := w.split c
      rw [b] at e2
      cases e2
      exact .dk (k _ List.mem_cons_self _ a) b c (ih o2 fun x m => k x (List.mem_cons_of_mem _ (p2.mem_iff.mpr (List.mem_append_left _ m))))
theorem PlOk.keep {σ : L2.St} {u : V} {i : Nat} {js : List Nat} (P : PlOk K W H σ env u i js) (E : EnvOk K W H σ env fp xf) (S : Sat K W H fp xf) (t : Stp W H [] W' H') : PlOk K W' H' σ env u i js := by
  obtain ⟨t0, v, s2, he, ev, ap⟩ := P
  obtain ⟨f, rest, ow, p, _⟩ := E.slot he ev
  exact ⟨t0, v, s2, he, ev, ap.mono ow fun a m o e => t.kp a o e (by simp) (S.off a (p.mem_iff.mpr (List.mem_append_left _ m))).2.1⟩
def LPl (K : PySem.W.Frag) (m : DP) : TE := fun σ H Q => ∃ (W : Wd) (env : Env) (fp xf : List Addr) (Q0 : Nat → List Nat → Prop), EnvOk K W H σ env fp xf ∧ Sat K W H fp xf ∧ m env Q0 ∧
  ∀ i p, Q0 i p → ∀ u W' H', Stp W H [] W' H' → Sat K W' H' fp xf → PlOk K W' H' σ env u i p → Q u H'
theorem LPl.next {m : DP} {σ : L2.St} {Q1 : Nat → List Nat → Prop} {q : V → Hp → Prop} (E : EnvOk K W H σ env fp xf) (S : Sat K W H fp xf) (h : m env Q1)
    (k : ∀ i p, Q1 i p → ∀ u W1 H1, Stp W H [] W1 H1 → Sat K W1 H1 fp xf → EnvOk K W1 H1 σ env fp xf → PlOk K W1 H1 σ env u i p → q u H1) : LPl K m σ H q :=
  ⟨W, env, fp, xf, Q1, E, S, h, fun i p hq u W1 H1 t1 S1 o => k i p hq u W1 H1 t1 S1 (E.keep S t1) o⟩
theorem wr_list {i : Nat} {js : List Nat} {u : V} {ts : List OT} {σ : L2.St} {pr : List Nat} (E : EnvOk K W H σ env fp xf) (S : Sat K W H fp xf) (P : PlOk K W H σ env u i js) (ht : tree env i js = some (.lst ts)) :
    ∃ (p : Addr) (vs : List V) (g : List Addr), u = .ref p ∧ H p = some (.lst vs) ∧ OwnAll K W H vs ts g ∧ (p :: g).Nodup ∧ (∀ a ∈ p :: g, a ∈ fp) ∧
      ∀ (vs' : List V) (ts' : List OT) (g' : List Addr), OwnAll K W H vs' ts' g' → g'.Nodup → (∀ a ∈ g', (a ∈ g ∨ a ∉ fp ∧ a ∉ xf) ∧ W.G a = none ∧ W.S a = none) →
        ∃ fp', EnvOk K W (upd H p (.lst vs')) σ (put env i js (.lst ts')) fp' xf ∧ Sat K W (upd H p (.lst vs')) fp' xf ∧ Stp W H fp W (upd H p (.lst vs')) ∧ ∀ a ∈ fp', a ∈ fp ∨ a ∈ g' := by
  obtain ⟨fs, rest, os, pm, k⟩ := place_ok E P ht
  cases os with
  | @lst p vs _ g hp w =>
    have nd := pm.nodup_iff.mp S.nd
    obtain ⟨n1, n2, n3⟩ := List.nodup_append.mp nd
    have mp : p ∈ fp := pm.mem_iff.mpr (List.mem_append_left _ List.mem_cons_self)
    obtain ⟨op1, op2, op3⟩ := S.off p mp
    refine ⟨p, vs, g, rfl, hp, w, n1, fun a m => pm.mem_iff.mpr (List.mem_append_left _ m), fun vs' ts' g' w' nd' z' => ?_⟩
    have pg' : p ∉ g' := fun m => by
      rcases (z' p m).1 with q | q
      · exact (List.nodup_cons.mp n1).1 q
      · exact q.1 mp
    have ne : ∀ a, a ≠ p → ∀ o, H a = some o → upd H p (.lst vs') a = some o := fun a n o e => (upd_ne n).trans e
    have ow' : Own K W (upd H p (.lst vs')) (.ref p) (.lst ts') (p :: g') := .lst upd_same (w'.mono (.refl _) fun a m o e => ne a (fun q => pg' (by rw [← q]; exact m)) o e)
    obtain ⟨fp', E', p'⟩ := k W (upd H p (.lst vs')) (.lst ts') (p :: g') (.refl _) (fun a m o e => ne a (fun q => by
      subst q
      rcases m with m | m
      · exact n3 a List.mem_cons_self a m rfl
      · exact (S.xof a m).1 mp) o e) ow'
    have al : ∀ a, H a ≠ none → upd H p (.lst vs') a ≠ none := fun a n => by
      by_cases q : a = p
      · rw [q, upd_same]; exact fun z => nomatch z
      · rw [upd_ne q]; exact n
    have dj : ∀ a ∈ g', a ∉ rest := fun a m m2 => by
      rcases (z' a m).1 with q | q
      · exact n3 a (List.mem_cons_of_mem _ q) a m2 rfl
      · exact q.1 (pm.mem_iff.mpr (List.mem_append_right _ m2))
    have S0 := S.wr (o := .lst vs') op1 op2
    refine ⟨fp', E', ⟨S0.sub, S0.vol, ?_, fun a m => ?_, fun a m => ⟨fun q => ?_, (S0.xof a m).2⟩⟩, ⟨fun _ _ _ => ⟨rfl, rfl⟩, fun a o e m s => ne a (fun q => m (by rw [q]; exact mp)) o e, al⟩, fun a m => ?_⟩
    · refine p'.nodup_iff.mpr (List.nodup_append.mpr ⟨List.nodup_cons.mpr ⟨pg', nd'⟩, n2, fun a m b m2 e => ?_⟩)
      subst e
      rcases List.mem_cons.mp m with q | q
      · subst q; exact n3 a List.mem_cons_self a m2 rfl
      · exact dj a q m2
    · rcases List.mem_append.mp (p'.mem_iff.mp m) with q | q
      · rcases List.mem_cons.mp q with q | q
        · subst q; exact ⟨op1, op2, al a op3⟩
        · exact ⟨(z' a q).2.1, (z' a q).2.2, al a (w'.alloc a q)⟩
      · exact S0.off a (pm.mem_iff.mpr (List.mem_append_right _ q))
    · rcases List.mem_append.mp (p'.mem_iff.mp q) with q | q
      · rcases List.mem_cons.mp q with q | q
        · subst q; exact (S.xof a m).1 mp
        · rcases (z' a q).1 with q | q
          · exact (S.xof a m).1 (pm.mem_iff.mpr (List.mem_append_left _ (List.mem_cons_of_mem _ q)))
          · exact q.2 m
      · exact (S.xof a m).1 (pm.mem_iff.mpr (List.mem_append_right _ q))
    · rcases List.mem_append.mp (p'.mem_iff.mp m) with q | q
      · rcases List.mem_cons.mp q with q | q
        · subst q; exact .inl mp
        · exact .inr q
      · exact .inl (pm.mem_iff.mpr (List.mem_append_right _ q))
end
section
variable {X : Cx} {tg a b c : Expr} {ma mb mc : DE} {pos : Pos} {ta tb : DT} {st : Stmt} {rest s1 s2 : List Stmt} {m m1 m2 : DS} {pr : List Nat} {pl : DP} {x : Str} {C : Addr}
theorem dpl_name {i : Nat} (hN : X.N[i]? = some x := by rfl) (hv : Vis X.env.scope x := by first | exact Or.inl rfl | exact Or.inr (Or.inl rfl) | exact Or.inr (Or.inr rfl)) (hd : (x == ("__debug__" : Str)) = false := by decide)
    (hcd : (x == ("__classdict__" : Str)) = false := by decide) : PE X (.Name x pos) (LPl X.K (plN i)) := pe_imp (pe_var (i := i) hN hv hd hcd) fun σ H Q h => by
  obtain ⟨W, env, fp, xf, Q0, E, S, ⟨⟨t, he⟩, hq⟩, k⟩ := h
  obtain ⟨v, ev, _⟩ := E.get he S
  exact ⟨v, ev, k i [] hq v W H .refl S ⟨t, v, t, he, ev, .nil⟩⟩
theorem idx_get {f : Str} {j : Nat} : ∀ {ks : List Str} {vs : List V} {fs : List (Str × V)}, idx f ks = some j → fs.map (·.1) = ks → ∃ u, fs.lookup f = some u ∧ (fs.map (·.2))[j]? = some u
  | [], _, _, h, _ => by cases h
  | k :: ks, vs, fs, h, e => by
    cases fs with
    | nil => cases e
    | cons p fs =>
      obtain ⟨k1, u⟩ := p
      obtain ⟨rfl, e2⟩ := List.cons.inj e
      have h : (if k1 = f then some 0 else (idx f ks).map (· + 1)) = some j := h
      rw [List.lookup_cons]
      by_cases q : k1 = f
      · rw [if_pos q] at h
        cases h
        rw [q, beq_self_eq_true]
        exact ⟨u, rfl, rfl⟩
      · rw [if_neg q] at h
        have q2 : (f == k1) = false := by simpa using fun z => q z.symm
        rw [q2]
        cases r : idx f ks with
        | none => rw [r] at h; cases h
        | some j2 =>
          rw [r] at h
          cases h
          obtain ⟨u2, a, b⟩ := idx_get (vs := vs) r e2
          exact ⟨u2, a, by simpa using b⟩
theorem dpl_fld (c : Cls X.K C) (n : NoAttr X.K C x) (he : PE X a (LPl X.K pl)) (hb : attributeBase a x X.env (eval a X.env) = eval a X.env := by rfl) : PE X (.Attribute a x pos) (LPl X.K (plF C x pl)) := pe_imp (pe_fld he hb) fun σ H Q h => by
  obtain ⟨W, env, fp, xf, Q0, E, S, hm, k⟩ := h
  refine LPl.next E S hm fun i p ⟨ks, ts, j, et, ej, hq⟩ u W1 H1 t1 S1 E1 P => ?_
  obtain ⟨t, v, s2, he, ev, ap⟩ := P
  have e2 := tree_at he ap.at
  rw [e2] at et
  cases et
  obtain ⟨f, rest, ow, pm, _⟩ := E1.slot he ev
  obtain ⟨fs, rest2, os, p2, _⟩ := place ap ow
  cases os with
  | @ins p0 _ dx fs0 _ g hp w =>
    obtain ⟨u2, el, eu⟩ := idx_get (vs := []) ej rfl
    have hj : j < ts.length := by
      rw [← w.len]
      exact (List.getElem?_eq_some_iff.mp eu).1
    refine ⟨p0, C, dx, fs0, u2, rfl, hp, c, n, el, k i _ hq u2 W1 H1 t1 S1 ⟨t, v, _, he, ev, ap.snoc (.ins hp eu (List.getElem?_eq_getElem hj) .nil)⟩⟩
def one1 (P : Rs → Prop) : List Rs → Prop
  | [r] => P r
  | _ => False
theorem one1_inv {P : Rs → Prop} : ∀ {rs : List Rs}, one1 P rs → ∃ r, rs = [r] ∧ P r
  | [r], h => ⟨r, rfl, h⟩
  | [], h => h.elim
  | _ :: _ :: _, h => h.elim
theorem item_own {K : PySem.W.Frag} {H : Hp} {fp : List Addr} {W' : Wd} {H' : Hp} {v : V} {r : Rs} {t : OT} (o : ResOk K H fp W' H' v r) (h : r.item = some t) : ∃ f, Own K W' H' v t f ∧ f.Nodup ∧ ∀ a ∈ f, H a = none ∧ W'.G a = none ∧ W'.S a = none := by
  cases r with
  | fz d => cases h; exact ⟨[], .leaf o, List.nodup_nil, fun _ m => by cases m⟩
  | nw x => cases h; exact o
  | br x => cases h
  | ex x => cases h
theorem ds_append (ha : PE X a (LPl X.K pl)) (hb : PE X b (LP X.K mb)) {apos : Pos} {p2 : Pos} (hst : starEach [b] X.env = (false, eval b X.env) :: starEach [] X.env := by rfl)
    (hE : ∀ (t : TE), PE X (.Call (.Attribute a "append" apos) [b] [] p2) t → PS X (.Expr (.Call (.Attribute a "append" apos) [b] [] p2) pos) (tDrop t) := by exact fun _ h => ps_expr h)
    (hB : ∀ (t1 : TE) (t2 : TA), PE X a t1 → PA X [b] t2 → PE X (.Call (.Attribute a "append" apos) [b] [] p2) (tBM X.K "list" rAppend t1 t2) := by exact fun _ _ h1 h2 => pe_bm PySem.F.plainAttrs_list PySem.F.slot_list_append PySem.F.type_list_append mt_append h1 h2) :
    PS X (.Expr (.Call (.Attribute a "append" apos) [b] [] p2) pos) (LS X.K ex pr (mAppend pl mb)) := ps_imp (hE _ (hB _ _ ha (da_cons hb da_nil hst))) fun D σ H h => by
  obtain ⟨W, env, fp, xf, K0, E, S, hm, nx, bk, ct, rt⟩ := h
  refine LPl.next E S hm fun i p ⟨ts, et, hl, hq⟩ u W1 H1 t1 S1 E1 P => ?_
  obtain ⟨p0, vs0, g0, rfl, hp0, _⟩ := wr_list (pr := pr) E1 S1 P et
  refine ⟨.inl ⟨rfl, _, .of hp0⟩, ?_⟩
  refine LA.next (m := mCons mb mNil) E1 S1 (Q1 := one1 fun r => ∃ t, r.item = some t ∧ K0.nx (put env i p (.lst (ts ++ [t])))) hq fun rs hr vs W2 H2 g t2 S2 E2 os G => ?_
  obtain ⟨r, rfl, t, ei, hn⟩ := one1_inv hr
  obtain ⟨v, rfl, o⟩ := os.one G
  have P2 := P.keep E1 S1 t2
  obtain ⟨p1, vs1, g1, e1, hp1, w1, nd1, sub1, kk⟩ := wr_list (pr := pr) E2 S2 P2 et
  cases e1
  obtain ⟨f, of, ndf, zf⟩ := item_own o ei
  have dj : ∀ a ∈ f, a ∉ fp ∧ a ∉ xf := fun a m => ⟨fun q => (S1.off a q).2.2 (zf a m).1, fun q => (S1.xof a q).2.2 (zf a m).1⟩
  obtain ⟨fp', E3, S3, st, y⟩ := kk (vs1 ++ [v]) (ts ++ [t]) (g1 ++ f) (w1.snoc of) (List.nodup_append.mpr ⟨(List.nodup_cons.mp nd1).2, ndf, fun a m b m2 e => by subst e; exact (dj a m2).1 (sub1 a (List.mem_cons_of_mem _ m))⟩) fun a m => by
    rcases List.mem_append.mp m with m | m
    · have mf := sub1 a (List.mem_cons_of_mem _ m)
      exact ⟨.inl m, (S2.off a mf).1, (S2.off a mf).2.1⟩
    · exact ⟨.inr (dj a m), (zf a m).2⟩
  refine ⟨p0, vs1, v, rfl, rfl, hp1, by rw [← sizeL_eq, w1.len]; exact hl, nx _ hn σ W2 _ fp' xf ⟨((t1.tr0 t2).up).trans st fun a m => .inl m, E3, S3, fun a m => ?_, fun _ _ => rfl⟩⟩
  rcases y a m with q | q
  · exact .inl q
  · rcases List.mem_append.mp q with q | q
    · exact .inl (sub1 a (List.mem_cons_of_mem _ q))
    · refine .inr ?_
      cases q2 : H a with
      | none => rfl
      | some o => exact absurd (zf a q).1 (t1.al a (some_ne q2))
theorem ds_setVol (ha : PE X a (LP X.K ma)) (hk : PE X b (LP X.K mb)) (he : PE X c (LP X.K mc)) {p1 : Pos} (hs : swapsWithSole [.Subscript a b p1] c pos.line X.env = pure false := by rfl) (hw : swappedStores [.Subscript a b p1] c X.env = pure none := by rfl)
    (h1 : (assignEach [.Subscript a b p1] X.env).map (·.2) = [assign (.Subscript a b p1) X.env] := by rfl) (hg : ∀ (t1 t2 : TE), PE X a t1 → PE X b t2 → PG X (.Subscript a b p1) (gSub t1 t2 rSetL) := by exact fun _ _ x y => pg_sub x y set_list) :
    PS X (.Assign [.Subscript a b p1] c pos) (LS X.K ex pr (mSetVol ma mb mc)) := ps_imp (ps_asg he (hg _ _ ha hk) hs hw h1) fun D σ H h => by
  obtain ⟨W, env, fp, xf, K0, E, S, hm, nx, bk, ct, rt⟩ := h
  refine LP.next E S hm fun r hr v W1 H1 t1 S1 E1 o => ?_
  split at hr
  · rename_i n0
    refine LP.next E1 S1 hr fun r2 hr2 v2 W2 H2 t2 S2 E2 o2 => ?_
    split at hr2
    · rename_i ps
      refine LP.next E2 S2 hr2 fun r3 hr3 v3 W3 H3 t3 S3 E3 o3 => ?_
      split at hr3
      · rename_i n
        obtain ⟨h0, h3, hn⟩ := hr3
        have o2' : Rep X.K W3 v2 (.vol 0 ps) := Rep.mono (t3.le S2 fun _ m => by cases m) o2
        cases o2' with
        | vol s =>
          rename_i p0
          obtain ⟨gn, ob, hp0, x, y, z, e⟩ := S3.vol _ _ _ s
          subst e
          have ev : v = .int n0 := int_of o
          have ej : ∃ j : Nat, ixN 3 n = some j ∧ ∃ x' y' z' : Int, ([V.int x, .int y, .int z] : List V).set j v = [.int x', .int y', .int z'] := by
            have hi : n = 0 ∨ n = 1 ∨ n = 2 := by omega
            rw [ev]
            rcases hi with rfl | rfl | rfl
            · exact ⟨0, rfl, n0, y, z, rfl⟩
            · exact ⟨1, rfl, x, n0, z, rfl⟩
            · exact ⟨2, rfl, x, y, n0, rfl⟩
          obtain ⟨j, ej1, x', y', z', ej2⟩ := ej
          have ne : ∀ a, W3.S a = none → a ≠ p0 := fun a q e => by rw [e, s] at q; cases q
          have up : ∀ a, W3.S a = none → ∀ o, H3 a = some o → upd H3 p0 (.lst ([V.int x, .int y, .int z].set j v)) a = some o := fun a q o e => (upd_ne (ne a q)).trans e
          have al : ∀ a, H3 a ≠ none → upd H3 p0 (.lst ([V.int x, .int y, .int z].set j v)) a ≠ none := fun a n => by
            by_cases q : a = p0
            · rw [q, upd_same]; exact fun z => nomatch z
            · rw [upd_ne q]; exact n
          refine ⟨p0, _, n, j, rfl, int_of o3, hp0, ej1, nx _ hn σ W3 _ fp xf ⟨?_, E3.mono (.refl _) fun a m o e => up a (m.elim (fun q => (S3.off a q).2.1) fun q => (S3.xof a q).2.1) o e, ⟨fun a o e => ?_, ⟨fun a k ps e => ?_, fun p q e => let ⟨x, cs, y⟩ := S3.vol.tb p q e; ⟨x, cs, (upd_ne (fun z => by rw [z, s] at x; cases x)).trans y⟩⟩, S3.nd, fun a m => ⟨(S3.off a m).1, (S3.off a m).2.1, al a (S3.off a m).2.2⟩, fun a m => ⟨(S3.xof a m).1, (S3.xof a m).2.1, al a (S3.xof a m).2.2⟩⟩, fun a m => .inl m, fun _ _ => rfl⟩⟩
          · refine (((t1.tr0 t2).tr0 t3).trans (f1 := []) ⟨fun _ _ _ => ⟨rfl, rfl⟩, fun a o e _ s => up a s o e, al⟩ fun _ m => by cases m).up
          · exact (upd_ne (fun q => by rw [q, gn] at e; cases e)).trans (S3.sub a o e)
          · obtain ⟨g1, ob, g2, g3⟩ := S3.vol a k ps e
            by_cases q : a = p0
            · subst q
              rw [s] at e
              cases e
              exact ⟨g1, _, upd_same, x', y', z', congrArg HO.lst ej2⟩
            · exact ⟨g1, ob, (upd_ne q).trans g2, g3⟩
      · exact hr3.elim
    · exact hr2.elim
  · exact hr.elim
theorem dp_src (ha : PE X a (LP X.K ma)) : PE X a (LP X.K (mSrc ma)) := pe_imp ha fun σ H Q h => by
  obtain ⟨W, env, fp, xf, Q0, E, S, hm, k⟩ := h
  refine LP.next E S hm fun r hr v W1 H1 t1 S1 E1 o => ?_
  split at hr
  · obtain ⟨f, ow, nd, z⟩ := o
    cases ow with
    | @lst p vs _ g hp w =>
      obtain ⟨hn, g1, s1⟩ := z p List.mem_cons_self
      have ev : ∃ x y z : Int, vs = [.int x, .int y, .int z] := by
        cases w with
        | cons a1 w1 =>
          cases w1 with
          | cons a2 w2 =>
            cases w2 with
            | cons a3 w3 =>
              cases w3
              cases a1 with | leaf a1 => cases a1; cases a2 with | leaf a2 => cases a2; cases a3 with | leaf a3 => cases a3; exact ⟨_, _, _, rfl⟩
      obtain ⟨x, y, zz, rfl⟩ := ev
      have np : ∀ a, W1.S a = none ∨ True := fun _ => .inr trivial
      refine k _ hr _ ⟨W1.G, fun a => if a = p then some (0, []) else W1.S a⟩ H1 ⟨fun a h m => ?_, t1.kp, t1.al⟩ ⟨S1.sub, ⟨fun a kk ps e => ?_, fun p' q e => let ⟨x, y⟩ := S1.vol.tb p' q e; ⟨(if_neg (fun z => by rw [z, s1] at x; cases x)).trans x, y⟩⟩, S1.nd, fun a m => ?_, fun a m => ?_⟩ (.vol (if_pos rfl))
      · have q : a ≠ p := fun q => h (by rw [q]; exact hn)
        exact ⟨(t1.wx a h m).1, (if_neg q).trans (t1.wx a h m).2⟩
      · have l : W1.Le ⟨W1.G, fun a => if a = p then some (0, []) else W1.S a⟩ := ⟨fun _ _ e => e, fun a k e => by
          have q : a ≠ p := fun q => by rw [q, s1] at e; cases e
          exact (if_neg q).trans e⟩
        have e : (if a = p then some (0, []) else W1.S a) = some (kk, ps) := e
        by_cases q : a = p
        · rw [if_pos q] at e
          cases e
          rw [q]
          exact ⟨g1, _, hp, x, y, zz, rfl⟩
        · rw [if_neg q] at e
          obtain ⟨x1, ob, x2, x3⟩ := S1.vol a kk ps e
          exact ⟨x1, ob, x2, x3.mono fun _ _ w => w.mono l⟩
      · have q : a ≠ p := fun q => (S.off a m).2.2 (by rw [q]; exact hn)
        exact ⟨(S1.off a m).1, (if_neg q).trans (S1.off a m).2.1, (S1.off a m).2.2⟩
      · have q : a ≠ p := fun q => (S.xof a m).2.2 (by rw [q]; exact hn)
        exact ⟨(S1.xof a m).1, (if_neg q).trans (S1.xof a m).2.1, (S1.xof a m).2.2⟩
  · exact hr.elim
end
end R
namespace R
open PySem PySem.Spec PyProof.Rows L2
theorem pd_shape : ∀ {n : Nat} {d : D} {p : PyData}, d.pd n = some p → p.canLay0 = true ∧ p.depth ≤ n := by
  have key : ∀ {α : Type} (f : D → Option PyData) {n : Nat}, (∀ {d : D} {p : PyData}, f d = some p → p.canLay0 = true ∧ p.depth ≤ n) → ∀ {ds : List D} {ps : List PyData}, allOf f ds = some ps → PyData.canLayAll0 ps = true ∧ PyData.depthAll ps ≤ n := by
    intro α f n h ds
    induction ds with
    | nil => intro ps e; cases e; exact ⟨by rw [PyData.canLayAll0], by rw [PyData.depthAll]; omega⟩
    | cons d ds ih =>
      intro ps e
      rw [allOf] at e
      cases q : f d with
      | none => rw [q] at e; cases e
      | some p =>
        rw [q] at e
        cases q2 : allOf f ds with
        | none => rw [q2] at e; cases e
        | some qs =>
          rw [q2] at e
          cases e
          obtain ⟨a, b⟩ := h q
          obtain ⟨a2, b2⟩ := ih q2
          exact ⟨by rw [PyData.canLayAll0, a, a2] <;> rfl, by rw [PyData.depthAll]; omega⟩
  intro n
  induction n with
  | zero =>
    intro d p e
    cases d with
    | non => cases e; exact ⟨by rw [PyData.canLay0], by rw [PyData.depth]; omega⟩
    | bl b => cases e; exact ⟨by rw [PyData.canLay0], by rw [PyData.depth]; omega⟩
    | int b => cases e; exact ⟨by rw [PyData.canLay0], by rw [PyData.depth]; omega⟩
    | str x =>
      have e : (if PyData.strOk x = true then some (PyData.str x) else none) = some p := e
      by_cases h : PyData.strOk x = true
      · rw [if_pos h] at e; cases e; exact ⟨by rw [PyData.canLay0]; exact h, by rw [PyData.depth]; omega⟩
      · rw [if_neg h] at e; cases e
    | lst _ => cases e
    | tup _ => cases e
    | rol _ => cases e
    | ins _ _ _ => cases e
    | vol _ _ => cases e
    | dct _ _ => cases e
    | any => cases e
    | adr _ => cases e
    | cod _ => cases e
    | obj _ _ => cases e
    | exn _ => cases e
  | succ n ih =>
    intro d p e
    cases d with
    | non => cases e; exact ⟨by rw [PyData.canLay0], by rw [PyData.depth]; omega⟩
    | bl b => cases e; exact ⟨by rw [PyData.canLay0], by rw [PyData.depth]; omega⟩
    | int b => cases e; exact ⟨by rw [PyData.canLay0], by rw [PyData.depth]; omega⟩
    | str x =>
      have e : (if PyData.strOk x = true then some (PyData.str x) else none) = some p := e
      by_cases h : PyData.strOk x = true
      · rw [if_pos h] at e; cases e; exact ⟨by rw [PyData.canLay0]; exact h, by rw [PyData.depth]; omega⟩
      · rw [if_neg h] at e; cases e
    | lst ds =>
      have e : (allOf (D.pd n) ds).map .list = some p := e
      cases q : allOf (D.pd n) ds with
      | none => rw [q] at e; cases e
      | some ps =>
        rw [q] at e
        cases e
        obtain ⟨a, b⟩ := key (α := Nat) _ ih q
        exact ⟨by rw [PyData.canLay0]; exact a, by rw [PyData.depth]; omega⟩
    | tup ds =>
      have e : (allOf (D.pd n) ds).map .tuple = some p := e
      cases q : allOf (D.pd n) ds with
      | none => rw [q] at e; cases e
      | some ps =>
        rw [q] at e
        cases e
        obtain ⟨a, b⟩ := key (α := Nat) _ ih q
        exact ⟨by rw [PyData.canLay0]; exact a, by rw [PyData.depth]; omega⟩
    | rol ds =>
      have e : (allOf (D.pd n) ds).map .list = some p := e
      cases q : allOf (D.pd n) ds with
      | none => rw [q] at e; cases e
      | some ps =>
        rw [q] at e
        cases e
        obtain ⟨a, b⟩ := key (α := Nat) _ ih q
        exact ⟨by rw [PyData.canLay0]; exact a, by rw [PyData.depth]; omega⟩
    | ins _ _ _ => cases e
    | vol _ _ => cases e
    | dct _ _ => cases e
    | any => cases e
    | adr _ => cases e
    | cod _ => cases e
    | obj _ _ => cases e
    | exn _ => cases e
section
variable {K : PySem.W.Frag} {W : Wd} {H : Hp}
theorem rep_dp (sub : ∀ a o, W.G a = some o → H a = some o) : ∀ {n : Nat} {v : V} {d : D} {p : PyData}, Rep K W v d → d.pd n = some p → Dp K H v p := by
  have key : ∀ (f : D → Option PyData), (∀ {v : V} {d : D} {p : PyData}, Rep K W v d → f d = some p → Dp K H v p) → ∀ {ds : List D} {vs : List V} {ps : List PyData}, RepAll K W vs ds → allOf f ds = some ps → DpAll K H vs ps := by
    intro f h ds
    induction ds with
    | nil => intro vs ps r e; cases r; cases e; exact .nil
    | cons d ds ih =>
      intro vs ps r e
      rw [allOf] at e
      cases q : f d with
      | none => rw [q] at e; cases e
      | some p =>
        rw [q] at e
        cases q2 : allOf f ds with
        | none => rw [q2] at e; cases e
        | some qs =>
          rw [q2] at e
          cases e
          cases r with
          | cons a b => exact .cons (h a q) (ih b q2)
  have sc : ∀ {n : Nat} {v : V} {x : Str} {p : PyData}, Rep K W v (.str x) → (D.str x).pd n = some p → Dp K H v p := by
    intro n v x p r e
    have e : (if PyData.strOk x = true then some (PyData.str x) else none) = some p := by cases n <;> exact e
    by_cases h : PyData.strOk x = true
    · rw [if_pos h] at e; cases e; cases r; exact .str x
    · rw [if_neg h] at e; cases e
  intro n
  induction n with
  | zero =>
    intro v d p r e
    cases r with
    | non => cases e; exact .non
    | bl b => cases e; exact .bl b
    | int b => cases e; exact .int b
    | str x => exact sc (n := 0) (.str x) e
    | lst _ _ => cases e
    | tup _ _ => cases e
    | rol _ _ => cases e
    | ins _ _ => cases e
    | vol _ => cases e
    | dct _ _ => cases e
    | any _ => cases e
    | adr _ => cases e
    | cod _ => cases e
    | obj _ _ => cases e
  | succ n ih =>
    intro v d p r e
    cases r with
    | non => cases e; exact .non
    | bl b => cases e; exact .bl b
    | int b => cases e; exact .int b
    | str x => exact sc (n := n + 1) (.str x) e
    | @lst a xs ds g r =>
      have e : (allOf (D.pd n) ds).map .list = some p := e
      cases q : allOf (D.pd n) ds with
      | none => rw [q] at e; cases e
      | some ps => rw [q] at e; cases e; exact .lst (.of (sub _ _ g)) (key _ ih r q)
    | @tup a xs ds g r =>
      have e : (allOf (D.pd n) ds).map .tuple = some p := e
      cases q : allOf (D.pd n) ds with
      | none => rw [q] at e; cases e
      | some ps => rw [q] at e; cases e; exact .tup (.of (sub _ _ g)) (key _ ih r q)
    | @rol a xs ds g r =>
      have e : (allOf (D.pd n) ds).map .list = some p := e
      cases q : allOf (D.pd n) ds with
      | none => rw [q] at e; cases e
      | some ps => rw [q] at e; cases e; exact .lst (SqL.mono sub g) (key _ ih r q)
    | ins _ _ => cases e
    | vol _ => cases e
    | dct _ _ => cases e
    | any _ => cases e
    | adr _ => cases e
    | cod _ => cases e
    | obj _ _ => cases e
theorem own_dp (sub : ∀ a o, W.G a = some o → H a = some o) : ∀ {n : Nat} {v : V} {t : OT} {f : List Addr} {p : PyData}, Own K W H v t f → t.pd n = some p → Dp K H v p ∧ p.canLay0 = true ∧ p.depth ≤ n := by
  have key : ∀ (g : OT → Option PyData) (n : Nat), (∀ {v : V} {t : OT} {f : List Addr} {p : PyData}, Own K W H v t f → g t = some p → Dp K H v p ∧ p.canLay0 = true ∧ p.depth ≤ n) → ∀ {ts : List OT} {vs : List V} {f : List Addr} {ps : List PyData}, OwnAll K W H vs ts f → allOfT g ts = some ps →
      DpAll K H vs ps ∧ PyData.canLayAll0 ps = true ∧ PyData.depthAll ps ≤ n := by
    intro g n h ts
    induction ts with
    | nil => intro vs f ps r e; cases r; cases e; exact ⟨.nil, by rw [PyData.canLayAll0], by rw [PyData.depthAll]; omega⟩
    | cons d ds ih =>
      intro vs f ps r e
      rw [allOfT] at e
      cases q : g d with
      | none => rw [q] at e; cases e
      | some p =>
        rw [q] at e
        cases q2 : allOfT g ds with
        | none => rw [q2] at e; cases e
        | some qs =>
          rw [q2] at e
          cases e
          cases r with
          | cons a b =>
            obtain ⟨x1, x2, x3⟩ := h a q
            obtain ⟨y1, y2, y3⟩ := ih b q2
            exact ⟨.cons x1 y1, by rw [PyData.canLayAll0, x2, y2] <;> rfl, by rw [PyData.depthAll]; omega⟩
  have lf : ∀ {n : Nat} {v : V} {d : D} {p : PyData}, Rep K W v d → (OT.leaf d).pd n = some p → Dp K H v p ∧ p.canLay0 = true ∧ p.depth ≤ n := fun {n} {v} {d} {p} r e => by
    have e : d.pd n = some p := by cases n <;> exact e
    exact ⟨rep_dp sub r e, pd_shape e⟩
  intro n
  induction n with
  | zero =>
    intro v t f p o e
    cases o with
    | leaf r => exact lf (n := 0) r e
    | lst _ _ => cases e
    | tup _ _ => cases e
    | ins _ _ => cases e
    | d0 _ => cases e
    | xo _ => cases e
    | dk _ _ => cases e
  | succ n ih =>
    intro v t f p o e
    cases o with
    | leaf r => exact lf (n := n + 1) r e
    | @lst a xs ts f g r =>
      have e : (allOfT (OT.pd n) ts).map .list = some p := e
      cases q : allOfT (OT.pd n) ts with
      | none => rw [q] at e; cases e
      | some ps =>
        rw [q] at e
        cases e
        obtain ⟨x1, x2, x3⟩ := key _ n ih r q
        exact ⟨.lst (.of g) x1, by rw [PyData.canLay0]; exact x2, by rw [PyData.depth]; omega⟩
    | @tup a xs ts f g r =>
      have e : (allOfT (OT.pd n) ts).map .tuple = some p := e
      cases q : allOfT (OT.pd n) ts with
      | none => rw [q] at e; cases e
      | some ps =>
        rw [q] at e
        cases e
        obtain ⟨x1, x2, x3⟩ := key _ n ih r q
        exact ⟨.tup (.of g) x1, by rw [PyData.canLay0]; exact x2, by rw [PyData.depth]; omega⟩
    | ins _ _ => cases e
    | d0 _ => cases e
    | xo _ => cases e
    | dk _ _ => cases e
theorem shaped8 {p : PyData} (h : p.canLay0 = true ∧ p.depth ≤ 8) : SeqAt.shaped p = true := by
  unfold SeqAt.shaped
  rw [h.1, decide_eq_true (show p.depth ≤ 64 by omega)] <;> rfl
end
section
variable {X : Cx} {a b c : Expr} {ma mb mc : DE} {pos : Pos}
theorem I_eq {σ : L2.St} {H : Hp} {Q : VK} (h : LP X.K (mOp (oEq false) ma mb) σ H Q) : tOp (rEqD X.K) (LP X.K ma) (LP X.K mb) σ H Q := h.two fun W fp xf Q0 r1 r2 v1 v2 W2 H2 hr O o1 o2 => by
  obtain ⟨p, q, e1, e2, hq⟩ := hr
  obtain ⟨f1, w1⟩ := o1.own
  obtain ⟨f2, w2⟩ := o2.own
  obtain ⟨x1, y1⟩ := own_dp O.S2.sub w1 e1
  obtain ⟨x2, y2⟩ := own_dp O.S2.sub w2 e2
  refine ⟨p, q, x1, x2, shaped8 y1, shaped8 y2, O.fin hq ?_⟩
  rw [Bool.bne_false]
  exact .bl _
theorem I_ne {σ : L2.St} {H : Hp} {Q : VK} (h : LP X.K (mOp (oEq true) ma mb) σ H Q) : tOp (rNeD X.K) (LP X.K ma) (LP X.K mb) σ H Q := h.two fun W fp xf Q0 r1 r2 v1 v2 W2 H2 hr O o1 o2 => by
  obtain ⟨p, q, e1, e2, hq⟩ := hr
  obtain ⟨f1, w1⟩ := o1.own
  obtain ⟨f2, w2⟩ := o2.own
  obtain ⟨x1, y1⟩ := own_dp O.S2.sub w1 e1
  obtain ⟨x2, y2⟩ := own_dp O.S2.sub w2 e2
  refine ⟨p, q, x1, x2, shaped8 y1, shaped8 y2, O.fin hq ?_⟩
  rw [Bool.bne_true]
  exact .bl _
theorem dt_eq (hu : X.A.units + 64 < cLine) (ha : PE X a (LP X.K ma)) (hb : PE X b (LP X.K mb)) : PT X (.Compare a [.Eq] [b] pos) (LT X.K (mT (mOp (oEq false) ma mb))) := dt_of (op_eqD hu) (fun _ _ _ h => I_eq h) ha hb (nomark _)
theorem dt_ne (hu : X.A.units + 64 < cLine) (ha : PE X a (LP X.K ma)) (hb : PE X b (LP X.K mb)) : PT X (.Compare a [.NotEq] [b] pos) (LT X.K (mT (mOp (oEq true) ma mb))) := dt_of (op_neD hu) (fun _ _ _ h => I_ne h) ha hb (nomark _)
end
end R
namespace R
open PySem PySem.Spec PyProof.Rows L2
def mCh (f g : Int → Int → Bool) (a b c : DE) : DE := fun env Q => a env fun x => b env fun y => ∃ i j, x.ffz = .fz (.int i) ∧ y.ffz = .fz (.int j) ∧
  if f i j = true then c env fun z => ∃ k, z.ffz = .fz (.int k) ∧ Q (.fz (.bl (g j k))) else Q (.fz (.bl false))
def bLt : Int → Int → Bool := fun i j => decide (i < j)
def bLe : Int → Int → Bool := fun i j => decide (i ≤ j)
def bGt : Int → Int → Bool := fun i j => decide (j < i)
def bGe : Int → Int → Bool := fun i j => decide (j ≤ i)
def OT.ty : OT → Option String
  | .leaf .non => some "NoneType"
  | .leaf (.bl _) => some "bool"
  | .leaf (.int _) => some "int"
  | .leaf (.str _) => some "str"
  | .leaf (.lst _) => some "list"
  | .leaf (.tup _) => some "tuple"
  | .leaf (.dct _ _) => some "dict"
  | .lst _ => some "list"
  | .tup _ => some "tuple"
  | _ => none
def isTy (a b : String) : Bool := a == b || (a == "bool" && b == "int")
def oIs (T : String) (r : Rs) (Q : Rs → Prop) : Prop := ∃ n, r.t.ty = some n ∧ Q (.fz (.bl (isTy n T)))
def oIsC (C : Nat) (r : Rs) (Q : Rs → Prop) : Prop := ∃ ks ts, r.t.inst = some (C, ks, ts) ∧ Q (.fz (.bl true))
def irng (lo : Int) (n : Nat) : List OT := (List.range n).map fun (i : Nat) => OT.leaf (.int (lo + (i : Int)))
def mRngL (tup : Bool) (a b : DE) : DE := fun env Q => a env fun x => b env fun y => ∃ i j, x = .fz (.int i) ∧ y = .fz (.int j) ∧ -1000000 ≤ i ∧ i ≤ 1000000 ∧ -1000000 ≤ j ∧ j ≤ 1000000 ∧ Q (.nw (if tup = true then .tup (irng i (j - i).toNat) else .lst (irng i (j - i).toNat)))
def mD0 : DE := fun _ Q => Q (.nw .d0)
def mSetP (C : Nat) (f : Str) (a : DP) (e : DE) : DS := fun env D => e env fun r => a env fun i p => ∃ t ks ts, r.item = some t ∧ tree env i p = some (.ins C ks ts) ∧ ks.length < 1000 ∧ ks.length = ts.length ∧ D.nx (put env i p (.ins C (putK f t ks ts).1 (putK f t ks ts).2))
def mPopI (j : Nat) (a : DP) (k : DE) : DS := fun env D => a env fun i p => ∃ ts, tree env i p = some (.lst ts) ∧ k env fun r => ∃ n m d, r = .fz (.int n) ∧ -1000000 ≤ n ∧ n ≤ 1000000 ∧ ixN' ts.length n = some m ∧ ts[m]? = some (.leaf d) ∧ D.nx ((put env i p (.lst (ts.eraseIdx m))).set j (some (.fz d)))
section
variable {X : Cx} {tg a b c : Expr} {ma mb mc : DE} {pos : Pos} {ta tb : DT} {st : Stmt} {rest s1 s2 : List Stmt} {m m1 m2 : DS} {pr : List Nat} {pl : DP} {x : Str} {C : Addr} {es : List Expr}
theorem dp_globI {n : Int} (hm : ∃ t, X.mg x = some (.int n t)) (hg : Gl X x := by rfl) (hd : (x == ("__debug__" : Str)) = false := by decide) : PE X (.Name x pos) (LP X.K (mC (.int n))) := by
  obtain ⟨t, e⟩ := hm
  exact dp_glob hg e (v := .int n) ⟨t, rfl⟩ (fun _ => .int n) hd
structure CmpI (X : Cx) (op : CmpOp) (f : Int → Int → Bool) : Prop where
  o : OpR X (compareOp op) (rI0 fun i j => .bl (f i j))
theorem I_le : CmpI X .LtE bLe := ⟨op_le⟩
theorem ffz_int {r : Rs} {i : Int} {K : PySem.W.Frag} {H : Hp} {fp xf : List Addr} {W W' : Wd} {H' : Hp} {v : V} (h : r.ffz = .fz (.int i)) (S : Sat K W H fp xf) (t : Stp W H [] W' H') (S' : Sat K W' H' fp xf) (o : ResOk K H fp W' H' v r) : v = .int i := by
  obtain ⟨W2, _, _, _, o2⟩ := ffz_ok S t S' o
  rw [h] at o2
  exact int_of o2
theorem I_ch {f g : Int → Int → Bool} {σ : L2.St} {H : Hp} {Q : VK} (h : LP X.K (mCh f g ma mb mc) σ H Q) : tChain (rI0 fun i j => .bl (f i j)) (rI0 fun i j => .bl (g i j)) (LP X.K ma) (LP X.K mb) (LP X.K mc) σ H Q := by
  obtain ⟨W, env, fp, xf, Q0, E, S, hm, k⟩ := h
  refine LP.next E S hm fun r1 h1 v1 W1 H1 t1 S1 E1 o1 => ?_
  refine LP.next E1 S1 h1 fun r2 h2 v2 W2 H2 t2 S2 E2 o2 => ?_
  obtain ⟨i, j, ei, ej, h3⟩ := h2
  have e1 := ffz_int ei S t1 S1 o1
  have e2 := ffz_int ej S1 t2 S2 o2
  refine ⟨i, j, e1, e2, f i j, rfl, ?_⟩
  by_cases q : f i j = true
  · rw [if_pos q] at h3
    rw [if_pos q]
    refine LP.next E2 S2 h3 fun r3 h4 v3 W3 H3 t3 S3 E3 o3 => ?_
    obtain ⟨l, el, hq⟩ := h4
    exact ⟨j, l, e2, ffz_int el S2 t3 S3 o3, k _ hq _ W3 H3 ((t1.tr0 t2).tr0 t3) S3 (Rep.bl _)⟩
  · rw [if_neg q] at h3
    rw [if_neg q]
    exact k _ h3 _ W2 H2 (t1.tr0 t2) S2 (Rep.bl _)
theorem dt_chain {op op' : CmpOp} {f g : Int → Int → Bool} (h1 : CmpI X op f) (h2 : CmpI X op' g) (ha : PE X a (LP X.K ma)) (hb : PE X b (LP X.K mb)) (hc : PE X c (LP X.K mc)) (hm : lastMarks [op, op'] [b, c] = false := by with_unfolding_all rfl) :
    PT X (.Compare a [op, op'] [b, c] pos) (LT X.K (mT (mCh f g ma mb mc))) := pt_imp (pt_chain h1.o h2.o ha hb hc hm) fun _ _ _ h => I_ch (lt_lp h)
theorem isTy_ok {n T : String} (hn : n ∈ ["NoneType", "bool", "int", "str", "list", "tuple", "dict"]) (hT : T ∈ ["bool", "int", "str", "list", "tuple", "dict"]) : kitB n T = some (isTy n T) := by
  have key : ∀ n ∈ ["NoneType", "bool", "int", "str", "list", "tuple", "dict"], ∀ T ∈ ["bool", "int", "str", "list", "tuple", "dict"], kitB n T = some (isTy n T) := by decide +kernel
  exact key n hn T hT
theorem ty_ok {K : PySem.W.Frag} {H : Hp} {fp xf : List Addr} {W' : Wd} {H' : Hp} {v : V} {r : Rs} {n : String} (h : r.t.ty = some n) (S' : Sat K W' H' fp xf) (o : ResOk K H fp W' H' v r) : TyX K H' v (.type n) ∧ n ∈ ["NoneType", "bool", "int", "str", "list", "tuple", "dict"] := by
  have lf : ∀ {d : D}, Rep K W' v d → (OT.leaf d).ty = some n → TyX K H' v (.type n) ∧ n ∈ ["NoneType", "bool", "int", "str", "list", "tuple", "dict"] := by
    intro d q h
    cases q with
    | non => cases h; exact ⟨.base .non, by decide⟩
    | bl _ => cases h; exact ⟨.base (.bl _), by decide⟩
    | int _ => cases h; exact ⟨.base (.int _), by decide⟩
    | str _ => cases h; exact ⟨.base (.str _), by decide⟩
    | lst g _ => cases h; exact ⟨.base (.lst (S'.sub _ _ g)), by decide⟩
    | tup g _ => cases h; exact ⟨.base (.tup (S'.sub _ _ g)), by decide⟩
    | rol _ _ => cases h
    | ins _ _ => cases h
    | vol _ => cases h
    | dct g _ => cases h; exact ⟨.base (.dK (S'.sub _ _ g)), by decide⟩
    | any _ => cases h
    | adr _ => cases h
    | cod _ => cases h
    | obj _ _ => cases h
  have ow : ∀ {t : OT} {f : List Addr}, Own K W' H' v t f → t.ty = some n → TyX K H' v (.type n) ∧ n ∈ ["NoneType", "bool", "int", "str", "list", "tuple", "dict"] := by
    intro t f q h
    cases q with
    | leaf q => exact lf q h
    | lst g _ => cases h; exact ⟨.base (.lst g), by decide⟩
    | tup g _ => cases h; exact ⟨.base (.tup g), by decide⟩
    | ins _ _ => cases h
    | d0 _ => cases h
    | xo _ => cases h
    | dk _ _ => cases h
  cases r with
  | fz d => exact lf o h
  | nw t => obtain ⟨f, o, _⟩ := o; exact ow o h
  | br t => obtain ⟨f, o, _⟩ := o; exact ow o h
  | ex t => obtain ⟨f, o, _⟩ := o; exact ow o h
theorem dp_is {T : Str} {n : String} {p p2 : Pos} (hm : X.mg "isinstance" = none) (hm2 : X.mg T = none) (hT : n ∈ ["bool", "int", "str", "list", "tuple", "dict"]) (hv : bootBuiltins T = some (.type n)) (ha : PE X a (LP X.K ma)) (hg : Gl X "isinstance" := by rfl) (hg2 : Gl X T := by rfl)
    (hn : T ≠ "__name__" := by decide) (hdb : (T == ("__debug__" : Str)) = false := by decide) (hs : starEach [a, .Name T p2] X.env = (false, eval a X.env) :: starEach [.Name T p2] X.env := by rfl) (hs2 : starEach [.Name T p2] X.env = (false, eval (.Name T p2) X.env) :: starEach [] X.env := by rfl)
    (hpl : (backTo pos (starEach [.Name T p2] X.env)).any (·.1) = false := by rfl) :
    PE X (.Call (.Name "isinstance" p) [a, .Name T p2] [] pos) (LP X.K (mUn (oIs n) ma)) :=
  pe_imp (pe_callB call_isi hg hm (by decide +kernel) (pa_cons ha (pa_cons (pe_bltn (v := .ty n) hg2 hm2 hv rfl hn hdb) pa_nil hs2) hs) (he := hs) (hpl := hpl)) fun σ H Q h => h.one fun W fp xf Q0 r v W2 H2 ⟨k, ek, q⟩ O o => by
    obtain ⟨t, hk⟩ := ty_ok ek O.S2 o
    exact ⟨v, .ty n, .type k, .type n, isTy k n, rfl, .ty n, t, kit_ty (isTy_ok hk hT), O.fin q (.bl _)⟩
structure IsC (K : PySem.W.Frag) (C : Addr) : Prop where
  cl : Cls K C
  ha : PySem.W.findIn K (.ref C) "__class__" = some (some (.builtin "object.__class__"))
  hn : PySem.W.specialIn K (.builtin "object.__class__") "__get__" = some (some (.builtin "getset_descriptor.__get__"))
  htk : PySem.W.takesIn K (.builtin "object.__class__") = some true
  hm : PySem.W.mroIn K C (.type "object") = some true
  eq : PySem.W.kitOne K (.ref C) (.ref C) = some true
  ne : PySem.W.findIn K (.ref C) "__ne__" = some (some (.builtin "object.__ne__"))
  no : ∀ t ∈ tyNs, PySem.W.kitOne K (.type t) (.ref C) = some false ∧ PySem.W.subIn K (.type t) (.ref C) = some false
theorem dp_isC {T : Str} {p p2 : Pos} (hm : X.mg "isinstance" = none) (hm2 : X.mg T = some (.ref C)) (hi : IsC X.K C) (ha : PE X a (LP X.K ma)) (hg : Gl X "isinstance" := by rfl) (hg2 : Gl X T := by rfl)
    (hdb : (T == ("__debug__" : Str)) = false := by decide) (hs : starEach [a, .Name T p2] X.env = (false, eval a X.env) :: starEach [.Name T p2] X.env := by rfl) (hs2 : starEach [.Name T p2] X.env = (false, eval (.Name T p2) X.env) :: starEach [] X.env := by rfl)
    (hpl : (backTo pos (starEach [.Name T p2] X.env)).any (·.1) = false := by rfl) :
    PE X (.Call (.Name "isinstance" p) [a, .Name T p2] [] pos) (LP X.K (mUn (oIsC C) ma)) :=
  pe_imp (pe_callB call_isi hg hm (by decide +kernel) (pa_cons ha (pa_cons (pe_glob (v := .ref C) hg2 hm2 rfl hdb) pa_nil hs2) hs) (he := hs) (hpl := hpl)) fun σ H Q h => h.one fun W fp xf Q0 r v W2 H2 ⟨ks, ts, ek, q⟩ O o => by
    obtain ⟨a, dx, fs, f, rfl, g, _⟩ := inst_ok ek o O.S2
    exact ⟨.ref a, .ref C, .ref C, .ref C, true, rfl, .own C, .base (.ins g hi.cl hi.ha hi.hn hi.htk hi.hm), hi.eq, O.fin q (.bl _)⟩
theorem irng_rep {K : PySem.W.Frag} {W : Wd} {H : Hp} (i j : Int) : OwnAll K W H (rgV i j) (irng i (j - i).toNat) [] := by
  unfold rgV irng
  generalize List.range (j - i).toNat = l
  induction l with
  | nil => exact .nil
  | cons k l ih => exact .cons (f := []) (.leaf (.int _)) ih
theorem rngL_all {K : PySem.W.Frag} {tup : Bool} {σ : L2.St} {H : Hp} {Q : VK} (h : LP K (mRngL tup ma mb) σ H Q) : LP K ma σ H fun x H1 => LP K mb σ H1 fun y H2 => ∃ i j, x = .int i ∧ y = .int j ∧ RgOk i j ∧ ∀ q, H2 q = none → Q (.ref q) (upd H2 q (if tup = true then .tup (rgV i j) else .lst (rgV i j))) := by
  obtain ⟨W, env, fp, xf, Q0, E, S, hm, k⟩ := h
  refine LP.next E S hm fun r1 h1 v1 W1 H1 t1 S1 E1 o1 => ?_
  refine LP.next E1 S1 h1 fun r2 h2 v2 W2 H2 t2 S2 E2 o2 => ?_
  obtain ⟨i, j, rfl, rfl, b1, b2, b3, b4, q⟩ := h2
  refine ⟨i, j, int_of o1, int_of o2, ⟨by omega, by omega, by omega, by omega, by omega⟩, fun p n => ?_⟩
  have fr := S2.free n
  have hn : H p = none := by
    cases z : H p with
    | none => rfl
    | some u => exact absurd n ((t1.tr0 t2).al p (some_ne z))
  refine k _ q _ W2 _ ((t1.tr0 t2).tr0 (.new n)) (S2.new n) ?_
  cases tup with
  | true => exact ⟨[p], .tup upd_same (irng_rep i j), by simp, fun a m => by rw [List.mem_singleton.mp m]; exact ⟨hn, fr⟩⟩
  | false => exact ⟨[p], .lst upd_same (irng_rep i j), by simp, fun a m => by rw [List.mem_singleton.mp m]; exact ⟨hn, fr⟩⟩
theorem dp_rngTuple2 {p p2 pos2 : Pos} (hc : X.calm = true) (hm : X.mg "tuple" = none) (hm2 : X.mg "range" = none) (ha : PE X a (LP X.K ma)) (hb : PE X b (LP X.K mb)) (hg : Gl X "tuple" := by rfl) (hg2 : Gl X "range" := by rfl)
    (na : starEach [a, b] X.env = (false, eval a X.env) :: starEach [b] X.env := by rfl) (nb : starEach [b] X.env = (false, eval b X.env) :: starEach [] X.env := by rfl) (hp : (backTo pos2 (starEach [b] X.env)).any (·.1) = false := by rfl) (hl : starEach [.Call (.Name "range" p2) [a, b] [] pos2] X.env = (false, eval (.Call (.Name "range" p2) [a, b] [] pos2) X.env) :: starEach [] X.env := by rfl) :
    PE X (.Call (.Name "tuple" p) [.Call (.Name "range" p2) [a, b] [] pos2] [] pos) (LP X.K (mRngL true ma mb)) :=
  pe_imp (pe_tupRg hc hg hm (prg_2 hg2 hm2 ha hb na nb hp) hl) fun σ H Q h => by
    have h2 := rngL_all h
    obtain ⟨W, env, fp, xf, Q0, E, S, hm, k⟩ := h2
    refine ⟨W, env, fp, xf, Q0, E, S, hm, fun r q v W1 H1 t1 S1 o => ?_⟩
    obtain ⟨W', env', fp', xf', Q0', E', S', hm', k'⟩ := k r q v W1 H1 t1 S1 o
    refine ⟨W', env', fp', xf', Q0', E', S', hm', fun r q v W1 H1 t1 S1 o => ?_⟩
    obtain ⟨i, j, e1, e2, ok, z⟩ := k' r q v W1 H1 t1 S1 o
    exact ⟨i, j, e1, e2, ok, z⟩
theorem dp_rngList1 {p p2 pos2 : Pos} (hc : X.calm = true) (hm : X.mg "list" = none) (hm2 : X.mg "range" = none) (ha : PE X a (LP X.K ma)) (hg : Gl X "list" := by rfl) (hg2 : Gl X "range" := by rfl)
    (na : starEach [a] X.env = (false, eval a X.env) :: starEach [] X.env := by rfl) (hl : starEach [.Call (.Name "range" p2) [a] [] pos2] X.env = (false, eval (.Call (.Name "range" p2) [a] [] pos2) X.env) :: starEach [] X.env := by rfl) :
    PE X (.Call (.Name "list" p) [.Call (.Name "range" p2) [a] [] pos2] [] pos) (LP X.K (mRngL false (mC (.int 0)) ma)) :=
  pe_imp (pe_listRg hc hg hm (prg_1 hg2 hm2 ha na) hl) fun σ H Q h => by
    obtain ⟨W, env, fp, xf, Q0, E, S, hm, k⟩ := rngL_all h
    have h3 := k _ hm (.int 0) W H .refl S (Rep.int 0)
    obtain ⟨W', env', fp', xf', Q0', E', S', hm', k'⟩ := h3
    refine ⟨W', env', fp', xf', Q0', E', S', hm', fun r q v W1 H1 t1 S1 o => ?_⟩
    obtain ⟨i, j, e1, e2, ok, z⟩ := k' r q v W1 H1 t1 S1 o
    cases e1
    exact ⟨j, e2, ok, z⟩
theorem dp_d0 : PE X (.Dict [] [] pos) (LP X.K mD0) := pe_imp pe_dnewT fun σ H Q h => by
  obtain ⟨W, env, fp, xf, Q0, E, S, hm, k⟩ := h
  intro p n
  exact k _ hm _ W _ (.new n) (S.new n) ⟨[p], .d0 upd_same, by simp, fun a m => by rw [List.mem_singleton.mp m]; exact ⟨n, S.free n⟩⟩
end
end R
namespace R
open PySem PySem.Spec PyProof.Rows L2
def moveAll : Env → List Nat → Option (List OT × Env)
  | env, [] => some ([], env)
  | env, i :: is => match env[i]? with
    | some (some (.fz d)) => (moveAll env is).map fun p => (.leaf d :: p.1, p.2)
    | some (some (.nw t)) => (moveAll (env.set i none) is).map fun p => (t :: p.1, p.2)
    | _ => none
def mRetP (is : List Nat) : DS := fun env D => ∃ ts e, moveAll env is = some (ts, e) ∧ D.rt (.nw (.tup ts)) e
section
variable {K : PySem.W.Frag} {W W1 W2 W' : Wd} {H H1 H2 H' : Hp} {f f1 fp fp1 fp2 xf xf1 xf2 : List Addr} {σ σ1 σ2 : L2.St} {Q : VK} {r : Rs} {v : V} {env env1 env2 : Env}
theorem EnvOk.take {i : Nat} {t : OT} (E : EnvOk K W H σ env fp xf) (S : Sat K W H fp xf) (e : env[i]? = some (some (.nw t))) : ∃ v f fp' xf', σ[i]? = some (some v) ∧ Own K W H v t f ∧ EnvOk K W H σ (env.set i none) fp' xf' ∧ Sat K W H fp' xf' ∧ fp.Perm (f ++ fp') ∧ ∀ a ∈ xf', a ∈ xf := by
  obtain ⟨v, ev, _⟩ := E.get e S
  obtain ⟨f, fp1, xf1, E1, p1, x1, ow⟩ := E.clear i (some v)
  have es : σ.set i (some v) = σ := List.set_getElem_self_some ev
  rw [es] at E1
  have sp : Sat K W H (f ++ fp1) xf1 := S.perm p1.symm x1
  exact ⟨v, f, fp1, xf1, ev, ow t v e ev, E1, sp.less, p1, x1⟩
def VarsAt (σ : L2.St) : List Nat → List V → Prop
  | [], vs => vs = []
  | i :: is, vs => ∃ v us, vs = v :: us ∧ σ[i]? = some (some v) ∧ VarsAt σ is us
theorem move_ok : ∀ {is : List Nat} {env : Env} {fp xf : List Addr} {ts : List OT} {e : Env}, EnvOk K W H σ env fp xf → Sat K W H fp xf → moveAll env is = some (ts, e) →
    ∃ vs g fp' xf', VarsAt σ is vs ∧ OwnAll K W H vs ts g ∧ EnvOk K W H σ e fp' xf' ∧ Sat K W H fp' xf' ∧ fp.Perm (g ++ fp') ∧ ∀ a ∈ xf', a ∈ xf
  | [], env, fp, xf, ts, e, E, S, h => by
    cases h
    exact ⟨[], [], fp, xf, rfl, .nil, E, S, .refl _, fun _ m => m⟩
  | i :: is, env, fp, xf, ts, e, E, S, h => by
    rw [moveAll] at h
    split at h
    · rename_i d q
      obtain ⟨v, ev, _, od⟩ := E.get q S
      cases z : moveAll env is with
      | none => rw [z] at h; cases h
      | some p =>
        obtain ⟨ts2, e2⟩ := p
        rw [z] at h
        cases h
        obtain ⟨vs, g, fp', xf', a, b, c, d2, p, x⟩ := move_ok E S z
        exact ⟨v :: vs, g, fp', xf', ⟨v, vs, rfl, ev, a⟩, .cons (f := []) (.leaf (od d rfl)) b, c, d2, p, x⟩
    · rename_i t q
      obtain ⟨v, f, fp1, xf1, ev, ow, E1, S1, p1, x1⟩ := E.take S q
      cases z : moveAll (env.set i none) is with
      | none => rw [z] at h; cases h
      | some p =>
        obtain ⟨ts2, e2⟩ := p
        rw [z] at h
        cases h
        obtain ⟨vs, g, fp', xf', a, b, c, d2, p, x⟩ := move_ok E1 S1 z
        refine ⟨v :: vs, f ++ g, fp', xf', ⟨v, vs, rfl, ev, a⟩, .cons ow b, c, d2, ?_, fun a m => x1 a (x a m)⟩
        rw [List.append_assoc]
        exact p1.trans (p.append_left f)
    · cases h
theorem Post.move {pr : List Nat} {g fp' xf' : List Addr} (E : EnvOk K W H σ env1 fp' xf') (S : Sat K W H fp' xf') (p : fp.Perm (g ++ fp')) : Post K W H fp pr σ σ W H env1 fp' xf' :=
  ⟨.refl, E, S, fun a m => .inl (p.mem_iff.mpr (List.mem_append_right _ m)), fun _ _ => rfl⟩
end
def tVars (is : List Nat) : TA := fun σ H Q => ∃ vs, VarsAt σ is vs ∧ Q vs H
section
variable {X : Cx} {tg a b c : Expr} {ma mb mc : DE} {pos : Pos} {ta tb : DT} {st : Stmt} {rest s1 s2 : List Stmt} {m m1 m2 : DS} {pr : List Nat} {pl : DP} {x : Str} {C : Addr} {es : List Expr}
theorem pav_nil : PA X [] (tVars []) := pa_imp pa_nil fun σ H Q ⟨vs, e, q⟩ => by
  rw [show vs = [] from e] at q
  exact q
theorem pav_cons {i : Nat} {is : List Nat} (hr : PA X es (tVars is)) (hN : X.N[i]? = some x := by rfl) (hv : Vis X.env.scope x := by first | exact Or.inl rfl | exact Or.inr (Or.inl rfl) | exact Or.inr (Or.inr rfl)) (hd : (x == ("__debug__" : Str)) = false := by decide)
    (hcd : (x == ("__classdict__" : Str)) = false := by decide) (hs : starEach (.Name x pos :: es) X.env = (false, eval (.Name x pos) X.env) :: starEach es X.env := by rfl) : PA X (.Name x pos :: es) (tVars (i :: is)) :=
  pa_imp (pa_cons (pe_var (i := i) hN hv hd hcd) hr hs) fun σ H Q ⟨vs, ⟨v, us, e, ev, q⟩, k⟩ => by
    subst e
    exact ⟨v, ev, us, q, k⟩
theorem VarsAt.len {σ : L2.St} : ∀ {is : List Nat} {vs : List V}, VarsAt σ is vs → vs.length = is.length
  | [], _, h => by rw [show _ = [] from h] <;> rfl
  | i :: is, _, ⟨v, us, e, _, q⟩ => by rw [e, List.length_cons, List.length_cons, VarsAt.len q]
theorem ds_retP {is : List Nat} {x1 : Nat} {p : Pos} (h : PA X es (tVars is)) (hl : is.length < 100 := by decide) : PS X (.Return (some (.Tuple es x1 p)) pos) (LS X.K ex pr (mRetP is)) := ps_imp (ps_ret (pe_tup h)) fun D σ H h => by
  obtain ⟨W, env, fp, xf, K0, E, S, ⟨ts, e, he, hm⟩, nx, bk, ct, rt⟩ := h
  obtain ⟨vs, g, fp1, xf1, va, ow, E1, S1, p1, x1⟩ := move_ok E S he
  obtain ⟨n1, n2, n3⟩ := List.nodup_append.mp (p1.nodup_iff.mp S.nd)
  refine ⟨vs, va, ?_, fun p n => ?_⟩
  · rw [va.len, ← sizeL_eq]; unfold sizeL; omega
  · have fr := S1.free n
    have P : Post X.K W H fp pr σ σ W (upd H p (.tup vs)) e fp1 xf1 := by
      have P0 := Post.move (pr := pr) E1 S1 p1
      exact P0.trans (Post.pure (.new n) (E1.keep S1 (.new n)) (S1.new n))
    have off : ∀ a ∈ g, W.G a = none ∧ W.S a = none ∧ H a ≠ none := fun a m => S.off a (p1.mem_iff.mpr (List.mem_append_left _ m))
    refine rt _ _ hm _ σ W _ fp1 xf1 P ⟨p :: g, .tup upd_same (ow.mono (.refl _) fun a m o q => by rw [upd_ne (fun z => by rw [z] at m; exact (off p m).2.2 n)]; exact q), ?_, fun a m => ?_⟩
    · exact List.nodup_cons.mpr ⟨fun m => (off p m).2.2 n, n1⟩
    · rcases List.mem_cons.mp m with q | q
      · subst q
        exact ⟨.inl n, fun q => (S1.off a q).2.2 n, fr⟩
      · exact ⟨.inr (p1.mem_iff.mpr (List.mem_append_left _ q)), fun z => n3 a q a z rfl, (off a q).1, (off a q).2.1⟩
end
end R
namespace R
open PySem PySem.Spec PyProof.Rows L2
section
variable {K : PySem.W.Frag} {W W1 W2 W' : Wd} {H H1 H2 H' : Hp} {f f1 fp fp1 fp2 xf xf1 xf2 : List Addr} {σ σ1 σ2 : L2.St} {Q : VK} {r : Rs} {v : V} {env env1 env2 : Env}
theorem wr_ins {i : Nat} {js : List Nat} {u : V} {C : Nat} {ks : List Str} {ts : List OT} {σ : L2.St} {pr : List Nat} (E : EnvOk K W H σ env fp xf) (S : Sat K W H fp xf) (P : PlOk K W H σ env u i js) (ht : tree env i js = some (.ins C ks ts)) :
    ∃ (p dx : Addr) (fs : List (Str × V)) (g : List Addr), u = .ref p ∧ H p = some (.ins C dx fs) ∧ fs.map (·.1) = ks ∧ OwnAll K W H (fs.map (·.2)) ts g ∧ (p :: g).Nodup ∧ (∀ a ∈ p :: g, a ∈ fp) ∧
      ∀ (fs' : List (Str × V)) (ts' : List OT) (g' : List Addr), OwnAll K W H (fs'.map (·.2)) ts' g' → g'.Nodup → (∀ a ∈ g', (a ∈ g ∨ a ∉ fp ∧ a ∉ xf) ∧ W.G a = none ∧ W.S a = none) →
        ∃ fp', EnvOk K W (upd H p (.ins C dx fs')) σ (put env i js (.ins C (fs'.map (·.1)) ts')) fp' xf ∧ Sat K W (upd H p (.ins C dx fs')) fp' xf ∧ Stp W H fp W (upd H p (.ins C dx fs')) ∧ ∀ a ∈ fp', a ∈ fp ∨ a ∈ g' := by
  obtain ⟨fs0, rest, os, pm, k⟩ := place_ok E P ht
  cases os with
  | @ins p _ dx fs _ g hp w =>
    have nd := pm.nodup_iff.mp S.nd
    obtain ⟨n1, n2, n3⟩ := List.nodup_append.mp nd
    have mp : p ∈ fp := pm.mem_iff.mpr (List.mem_append_left _ List.mem_cons_self)
    obtain ⟨op1, op2, op3⟩ := S.off p mp
    refine ⟨p, dx, fs, g, rfl, hp, rfl, w, n1, fun a m => pm.mem_iff.mpr (List.mem_append_left _ m), fun vs' ts' g' w' nd' z' => ?_⟩
    have pg' : p ∉ g' := fun m => by
      rcases (z' p m).1 with q | q
      · exact (List.nodup_cons.mp n1).1 q
      · exact q.1 mp
    have ne : ∀ a, a ≠ p → ∀ o, H a = some o → upd H p (.ins C dx vs') a = some o := fun a n o e => (upd_ne n).trans e
    have ow' : Own K W (upd H p (.ins C dx vs')) (.ref p) (.ins C (vs'.map (·.1)) ts') (p :: g') := .ins upd_same (w'.mono (.refl _) fun a m o e => ne a (fun q => pg' (by rw [← q]; exact m)) o e)
    obtain ⟨fp', E', p'⟩ := k W (upd H p (.ins C dx vs')) (.ins C (vs'.map (·.1)) ts') (p :: g') (.refl _) (fun a m o e => ne a (fun q => by
      subst q
      rcases m with m | m
      · exact n3 a List.mem_cons_self a m rfl
      · exact (S.xof a m).1 mp) o e) ow'
    have al : ∀ a, H a ≠ none → upd H p (.ins C dx vs') a ≠ none := fun a n => by
      by_cases q : a = p
      · rw [q, upd_same]; exact fun z => nomatch z
      · rw [upd_ne q]; exact n
    have dj : ∀ a ∈ g', a ∉ rest := fun a m m2 => by
      rcases (z' a m).1 with q | q
      · exact n3 a (List.mem_cons_of_mem _ q) a m2 rfl
      · exact q.1 (pm.mem_iff.mpr (List.mem_append_right _ m2))
    have S0 := S.wr (o := .ins C dx vs') op1 op2
    refine ⟨fp', E', ⟨S0.sub, S0.vol, ?_, fun a m => ?_, fun a m => ⟨fun q => ?_, (S0.xof a m).2⟩⟩, ⟨fun _ _ _ => ⟨rfl, rfl⟩, fun a o e m s => ne a (fun q => m (by rw [q]; exact mp)) o e, al⟩, fun a m => ?_⟩
    · refine p'.nodup_iff.mpr (List.nodup_append.mpr ⟨List.nodup_cons.mpr ⟨pg', nd'⟩, n2, fun a m b m2 e => ?_⟩)
      subst e
      rcases List.mem_cons.mp m with q | q
      · subst q; exact n3 a List.mem_cons_self a m2 rfl
      · exact dj a q m2
    · rcases List.mem_append.mp (p'.mem_iff.mp m) with q | q
      · rcases List.mem_cons.mp q with q | q
        · subst q; exact ⟨op1, op2, al a op3⟩
        · exact ⟨(z' a q).2.1, (z' a q).2.2, al a (w'.alloc a q)⟩
      · exact S0.off a (pm.mem_iff.mpr (List.mem_append_right _ q))
    · rcases List.mem_append.mp (p'.mem_iff.mp q) with q | q
      · rcases List.mem_cons.mp q with q | q
        · subst q; exact (S.xof a m).1 mp
        · rcases (z' a q).1 with q | q
          · exact (S.xof a m).1 (pm.mem_iff.mpr (List.mem_append_left _ (List.mem_cons_of_mem _ q)))
          · exact q.2 m
      · exact (S.xof a m).1 (pm.mem_iff.mpr (List.mem_append_right _ q))
    · rcases List.mem_append.mp (p'.mem_iff.mp m) with q | q
      · rcases List.mem_cons.mp q with q | q
        · subst q; exact .inl mp
        · exact .inr q
      · exact .inl (pm.mem_iff.mpr (List.mem_append_right _ q))
theorem put_own {x : Str} {y : V} {t : OT} {f : List Addr} (o : Own K W H y t f) (nf : f.Nodup) : ∀ {fs : List (Str × V)} {ts : List OT} {g : List Addr}, OwnAll K W H (fs.map (·.2)) ts g → g.Nodup → (∀ a ∈ f, a ∉ g) →
    ∃ g', OwnAll K W H ((putF x y fs).map (·.2)) (R.putK x t (fs.map (·.1)) ts).2 g' ∧ (putF x y fs).map (·.1) = (R.putK x t (fs.map (·.1)) ts).1 ∧ g'.Nodup ∧ ∀ a ∈ g', a ∈ g ∨ a ∈ f
  | [], ts, g, w, ng, dj => by
    cases w
    refine ⟨f, ?_, rfl, nf, fun a m => .inr m⟩
    have h := OwnAll.cons o (.nil (K := K) (W := W) (H := H))
    rw [List.append_nil] at h
    exact h
  | (k, u) :: fs, ts, g, w, ng, dj => by
    cases w with
    | @cons _ _ t1 ts f1 g1 o1 w1 =>
      obtain ⟨n1, n2, n3⟩ := List.nodup_append.mp ng
      show ∃ g', OwnAll K W H ((if k = x then (k, y) :: fs else (k, u) :: putF x y fs).map (·.2)) (if k = x then (k :: fs.map (·.1), t :: ts) else (k :: (R.putK x t (fs.map (·.1)) ts).1, t1 :: (R.putK x t (fs.map (·.1)) ts).2)).2 g' ∧
        (if k = x then (k, y) :: fs else (k, u) :: putF x y fs).map (·.1) = (if k = x then (k :: fs.map (·.1), t :: ts) else (k :: (R.putK x t (fs.map (·.1)) ts).1, t1 :: (R.putK x t (fs.map (·.1)) ts).2)).1 ∧ g'.Nodup ∧ ∀ a ∈ g', a ∈ f1 ++ g1 ∨ a ∈ f
      by_cases q : k = x
      · rw [if_pos q, if_pos q]
        refine ⟨f ++ g1, .cons o w1, rfl, List.nodup_append.mpr ⟨nf, n2, fun a m b m2 e => ?_⟩, fun a m => ?_⟩
        · subst e; exact dj a m (List.mem_append_right _ m2)
        · exact (List.mem_append.mp m).elim .inr fun m => .inl (List.mem_append_right _ m)
      · rw [if_neg q, if_neg q]
        obtain ⟨g', a1, a2, a3, a4⟩ := put_own o nf w1 n2 fun a m m2 => dj a m (List.mem_append_right _ m2)
        refine ⟨f1 ++ g', .cons o1 a1, by rw [List.map_cons, a2], List.nodup_append.mpr ⟨n1, a3, fun a m b m2 e => ?_⟩, fun a m => ?_⟩
        · subst e
          rcases a4 a m2 with z | z
          · exact n3 a m a z rfl
          · exact dj a z (List.mem_append_left _ m)
        · rcases List.mem_append.mp m with m | m
          · exact .inl (List.mem_append_left _ m)
          · exact (a4 a m).imp (List.mem_append_right _) id
end
section
variable {X : Cx} {tg a b c : Expr} {ma mb mc : DE} {pos : Pos} {ta tb : DT} {st : Stmt} {rest s1 s2 : List Stmt} {m m1 m2 : DS} {pr : List Nat} {pl : DP} {x : Str} {C : Addr} {es : List Expr}
theorem ds_setF (cl : Cls X.K C) (na : NoAttr X.K C x) (ha : PE X a (LPl X.K pl)) (he : PE X c (LP X.K mc)) {p1 : Pos} (hs : swapsWith c (some (.Attribute a x p1)) pos.line X.env = pure false := by rfl) :
    PS X (.Assign [.Attribute a x p1] c pos) (LS X.K ex pr (mSetP C x pl mc)) := ps_imp (ps_fld ha he hs) fun D σ H h => by
  obtain ⟨W, env, fp, xf, K0, E, S, hm, nx, bk, ct, rt⟩ := h
  refine LP.next E S hm fun r hr v W1 H1 t1 S1 E1 o => ?_
  refine LPl.next E1 S1 hr fun i p ⟨t, ks, ts, ei, et, hl, hk, hn⟩ u W2 H2 t2 S2 E2 P => ?_
  have o2 := o.keep t2 (t2.le S1 fun _ m => by cases m)
  obtain ⟨p1, dx, fs, g1, rfl, hp1, rfl, w1, nd1, sub1, kk⟩ := wr_ins (pr := pr) E2 S2 P et
  obtain ⟨f, of, ndf, zf⟩ := item_own o2 ei
  have dj : ∀ a ∈ f, a ∉ fp ∧ a ∉ xf := fun a m => ⟨fun q => (S.off a q).2.2 (zf a m).1, fun q => (S.xof a q).2.2 (zf a m).1⟩
  obtain ⟨g', w2, ek, nd2, sub2⟩ := put_own (x := x) of ndf w1 (List.nodup_cons.mp nd1).2 fun a m m2 => (dj a m).1 (sub1 a (List.mem_cons_of_mem _ m2))
  obtain ⟨fp', E3, S3, st, y⟩ := kk (putF x v fs) _ g' w2 nd2 fun a m => by
    rcases sub2 a m with m | m
    · have mf := sub1 a (List.mem_cons_of_mem _ m)
      exact ⟨.inl m, (S2.off a mf).1, (S2.off a mf).2.1⟩
    · exact ⟨.inr (dj a m), (zf a m).2⟩
  rw [ek] at E3
  refine ⟨p1, C, dx, fs, rfl, hp1, cl, na, by rw [← List.length_map (f := (·.1))]; exact hl, nx _ hn σ W2 _ fp' xf ⟨((t1.tr0 t2).up).trans st fun a m => .inl m, E3, S3, fun a m => ?_, fun _ _ => rfl⟩⟩
  rcases y a m with q | q
  · exact .inl q
  · rcases sub2 a q with q | q
    · exact .inl (sub1 a (List.mem_cons_of_mem _ q))
    · exact .inr (zf a q).1
theorem own_erase {K : PySem.W.Frag} {W : Wd} {H : Hp} : ∀ {vs : List V} {ts : List OT} {g : List Addr} (j : Nat), OwnAll K W H vs ts g → ∃ g', OwnAll K W H (vs.eraseIdx j) (ts.eraseIdx j) g' ∧ g'.Sublist g
  | _, _, _, _, .nil => ⟨[], .nil, .refl _⟩
  | _, _, _, 0, .cons _ w => ⟨_, w, List.sublist_append_right _ _⟩
  | _, _, _, j + 1, .cons o w => let ⟨g', a, b⟩ := own_erase j w; ⟨_, .cons o a, List.Sublist.append_left b _⟩
theorem own_leaf {K : PySem.W.Frag} {W : Wd} {H : Hp} {d : D} : ∀ {vs : List V} {ts : List OT} {g : List Addr} {j : Nat}, OwnAll K W H vs ts g → ts[j]? = some (.leaf d) → ∃ v, vs[j]? = some v ∧ Rep K W v d
  | _, _, _, _, .nil, h => by simp at h
  | _, _, _, 0, .cons o _, h => by
    simp at h
    subst h
    cases o with | leaf q => exact ⟨_, rfl, q⟩
  | _, _, _, j + 1, .cons _ w, h => by
    obtain ⟨v, a, b⟩ := own_leaf (j := j) w (by simpa using h)
    exact ⟨v, by simpa using a, b⟩
theorem seqIx (n : Int) (l : Nat) : ixN' l n = seqIndex? n l := by
  unfold ixN' seqIndex?
  by_cases h : 0 ≤ n
  · rw [if_pos h]
    simp only [if_neg (show ¬ n < 0 by omega)]
    by_cases h2 : n < l
    · rw [if_pos h2]; simp [h, h2]
    · rw [if_neg h2]; simp [h2]
  · rw [if_neg h]
    simp only [if_pos (show n < 0 by omega)]
    by_cases h2 : -(l : Int) ≤ n
    · rw [if_pos h2]
      simp [show (0 : Int) ≤ n + l by omega, show n + (l : Int) < l by omega]
    · rw [if_neg h2]
      simp [show ¬ (0 : Int) ≤ n + l by omega]
theorem ds_popI {i : Nat} {p : Pos} (hN : X.N.Nodup) (hi : X.N[i]? = some x) (ha : PE X a (LPl X.K pl)) (hk : PE X b (LP X.K mb)) {apos p2 : Pos} (hst : starEach [b] X.env = (false, eval b X.env) :: starEach [] X.env := by rfl)
    (hbase : attributeBase a "pop" X.env (eval a X.env) = eval a X.env := by rfl) (hfew : ((backTo p2 (starEach [b] X.env)).all (fun x => !x.1) && (backToKw p2 (keywordEach [] X.env)).all (fun x => x.1.isSome)
      && decide ([b].length + ([] : List Keyword).length + (if ([] : List Keyword).isEmpty then 0 else 1) < 30)) = true := by rfl) (hline : (apos.endLine == p2.line) = true := by rfl)
    (hx : Loc X.env.scope x := by first | exact Or.inl rfl | exact Or.inr rfl) (hp : i ∉ pr := by decide) (hs : swapsWith (.Call (.Attribute a "pop" apos) [b] [] p2) (some (.Name x p)) pos.line X.env = pure false := by rfl)
    (hf : X.fn x = true ∨ X.env.scope.names.lookup x = some .local := by first | exact .inl rfl | exact .inr rfl | assumption) :
    PS X (.Assign [.Name x p] (.Call (.Attribute a "pop" apos) [b] [] p2) pos) (LS X.K ex pr (mPopI i pl mb)) :=
  ps_imp (ps_set hN hi hx (pe_bm PySem.F.plainAttrs_list PySem.F.slot_list_pop PySem.F.type_list_pop mt_popAt ha (da_cons hk da_nil hst) hbase hfew hline hst) hs hf) fun D σ H h => by
  obtain ⟨W, env, fp, xf, K0, E, S, hm, nx, bk, ct, rt⟩ := h
  refine LPl.next E S hm fun j p ⟨ts, et, hq⟩ u W1 H1 t1 S1 E1 P => ?_
  obtain ⟨p0, vs0, g0, rfl, hp0, _⟩ := wr_list (pr := pr) E1 S1 P et
  refine ⟨.inl ⟨rfl, _, .of hp0⟩, ?_⟩
  refine LA.next (m := mCons mb mNil) E1 S1 (Q1 := one1 fun r => ∃ n m d, r = .fz (.int n) ∧ -1000000 ≤ n ∧ n ≤ 1000000 ∧ ixN' ts.length n = some m ∧ ts[m]? = some (.leaf d) ∧ K0.nx ((put env j p (.lst (ts.eraseIdx m))).set i (some (.fz d)))) hq fun rs hr vs W2 H2 g t2 S2 E2 os G => ?_
  obtain ⟨r, rfl, n, m, d, rfl, b1, b2, em, ed, hn⟩ := one1_inv hr
  obtain ⟨v, rfl, o⟩ := os.one G
  have P2 := P.keep E1 S1 t2
  obtain ⟨p1, vs1, g1, e1, hp1, w1, nd1, sub1, kk⟩ := wr_list (pr := pr) E2 S2 P2 et
  cases e1
  obtain ⟨y, ey, ry⟩ := own_leaf w1 ed
  obtain ⟨g', w', sl⟩ := own_erase m w1
  obtain ⟨fp', E3, S3, st, yy⟩ := kk (vs1.eraseIdx m) (ts.eraseIdx m) g' w' ((List.nodup_cons.mp nd1).2.sublist sl) fun a m => by
    have m2 := sl.subset m
    have mf := sub1 a (List.mem_cons_of_mem _ m2)
    exact ⟨.inl m2, (S2.off a mf).1, (S2.off a mf).2.1⟩
  have P3 : Post X.K W H fp pr σ σ W2 (upd H2 p0 (.lst (vs1.eraseIdx m))) (put env j p (.lst (ts.eraseIdx m))) fp' xf := ⟨((t1.tr0 t2).up).trans st fun a m => .inl m, E3, S3, fun a m => .inl ((yy a m).elim id fun q => sub1 a (List.mem_cons_of_mem _ (sl.subset q))), fun _ _ => rfl⟩
  obtain ⟨fp4, xf4, P4⟩ := Post.store (i := i) (pr := pr) (r := .fz d) (v := y) S3 .refl E3 S3 ry trivial hp
  refine ⟨p0, vs1, n, m, y, rfl, by rw [int_of o], hp1, by omega, by omega, ?_, ey, nx _ hn _ W2 _ fp4 xf4 (P3.trans P4)⟩
  rw [w1.len, ← seqIx]
  exact em
end
end R
namespace R
open PySem PySem.Spec PyProof.Rows L2
def keysOf (env : Env) : List Nat → Option (List Key)
  | [] => some []
  | j :: js => match env[j]? with
    | some (some (.fz (.int i))) => (keysOf env js).map (Sum.inl i :: ·)
    | some (some (.fz (.str i))) => (keysOf env js).map (Sum.inr i :: ·)
    | _ => none
def fldD (f : Str) : List Str → List D → Option D
  | k :: ks, t :: ts => if k = f then some t else fldD f ks ts
  | _, _ => none
def mMemo (i : Nat) (C : Nat) (f : Str) (js : List Nat) (b : DS) (e : DE) : DS := fun env D => ∃ ks ds k ps keys d, env[i]? = some (some (.fz (.ins C ks ds))) ∧ fldD f ks ds = some (.vol (k + 1) ps) ∧ keysOf env js = some keys ∧ memo k ps keys = some d ∧
  (b env { nx := fun e' => e e' fun r => ∃ t, r.item = some t ∧ Fz t d, rt := fun _ _ => False }) ∧ ∀ e2, D.rt (.fz d) e2
structure MAt (K : PySem.W.Frag) (W : Wd) (σ : L2.St) (i : Nat) (C : Nat) (f : Str) (js : List Nat) (a : Addr) (k : Nat) (ps : List D) (keys : List Key) : Prop where
  o : ∃ (a0 dx : Addr) (fs : List (Str × V)), σ[i]? = some (some (.ref a0)) ∧ W.G a0 = some (.ins C dx fs) ∧ fs.lookup f = some (.ref a)
  s : W.S a = some (k + 1, ps)
  k : VarsAt σ js (keys.map kV)
section
variable {K : PySem.W.Frag} {W W1 W2 W' : Wd} {H H1 H2 H' : Hp} {f f1 fp fp1 fp2 xf xf1 xf2 : List Addr} {σ σ1 σ2 : L2.St} {Q : VK} {r : Rs} {v : V} {env env1 env2 : Env} {i C k : Nat} {fl : Str} {js : List Nat} {a : Addr} {ps : List D} {keys : List Key}
theorem keys_at (E : EnvOk K W H σ env fp xf) (S : Sat K W H fp xf) : ∀ {js : List Nat} {keys : List Key}, keysOf env js = some keys → VarsAt σ js (keys.map kV)
  | [], keys, h => by cases h; rfl
  | j :: js, keys, h => by
    rw [keysOf] at h
    split at h
    · rename_i n q
      obtain ⟨v, ev, _, od⟩ := E.get q S
      cases z : keysOf env js with
      | none => rw [z] at h; cases h
      | some ks =>
        rw [z] at h
        cases h
        have e : v = .int n := by have := od _ rfl; cases this; rfl
        exact ⟨.int n, ks.map kV, rfl, by rw [ev, e], keys_at E S z⟩
    · rename_i n q
      obtain ⟨v, ev, _, od⟩ := E.get q S
      cases z : keysOf env js with
      | none => rw [z] at h; cases h
      | some ks =>
        rw [z] at h
        cases h
        have e : v = .str n := by have := od _ rfl; cases this; rfl
        exact ⟨.str n, ks.map kV, rfl, by rw [ev, e], keys_at E S z⟩
    · cases h
theorem mat_of (E : EnvOk K W H σ env fp xf) (S : Sat K W H fp xf) {ks : List Str} {ds : List D} (he : env[i]? = some (some (.fz (.ins C ks ds)))) (hf : fldD fl ks ds = some (.vol (k + 1) ps)) (hk : keysOf env js = some keys) : ∃ a, MAt K W σ i C fl js a k ps keys := by
  obtain ⟨v, ev, _, od⟩ := E.get he S
  have key : ∀ {fs : List (Str × V)} {ds : List D}, RepAll K W (fs.map (·.2)) ds → fldD fl (fs.map (·.1)) ds = some (.vol (k + 1) ps) → ∃ a, fs.lookup fl = some (.ref a) ∧ W.S a = some (k + 1, ps) := by
    intro fs
    induction fs with
    | nil => intro ds w h; cases w; cases h
    | cons p fs ih =>
      obtain ⟨x, u⟩ := p
      intro ds w h
      cases w with
      | cons o1 r1 =>
        rename_i d1 ds1
        have h : (if x = fl then some d1 else fldD fl (fs.map (·.1)) ds1) = some (.vol (k + 1) ps) := h
        rw [List.lookup_cons]
        by_cases q : x = fl
        · rw [if_pos q] at h
          cases h
          rw [q, beq_self_eq_true]
          have o1 : Rep K W u (.vol (k + 1) ps) := o1
          cases o1 with | vol s => exact ⟨_, rfl, s⟩
        · rw [if_neg q] at h
          have q2 : (fl == x) = false := by simpa using fun z => q z.symm
          rw [q2]
          exact ih r1 h
  have od := od _ rfl
  cases od with
  | @ins a0 _ dx fs _ g w =>
    obtain ⟨a, e1, e2⟩ := key w hf
    exact ⟨a, ⟨a0, dx, fs, ev, g, e1⟩, e2, keys_at E S hk⟩
theorem VarsAt.same {σ' : L2.St} : ∀ {js : List Nat} {vs : List V}, VarsAt σ js vs → (∀ j ∈ js, σ'[j]? = σ[j]?) → VarsAt σ' js vs
  | [], _, h, _ => h
  | j :: js, _, ⟨v, us, e, ev, q⟩, h => ⟨v, us, e, by rw [h j List.mem_cons_self]; exact ev, q.same fun x m => h x (List.mem_cons_of_mem _ m)⟩
theorem MAt.keep (M : MAt K W σ i C fl js a k ps keys) (l : W.Le W') (hi : σ1[i]? = σ[i]?) (hj : ∀ j ∈ js, σ1[j]? = σ[j]?) : MAt K W' σ1 i C fl js a k ps keys := by
  obtain ⟨a0, dx, fs, e1, e2, e3⟩ := M.o
  exact ⟨⟨a0, dx, fs, by rw [hi]; exact e1, l.g _ _ e2, e3⟩, l.s _ _ M.s, M.k.same hj⟩
theorem nodup_len {α : Type} [DecidableEq α] : ∀ {l L : List α}, l.Nodup → (∀ x ∈ l, x ∈ L) → l.length ≤ L.length
  | [], _, _, _ => Nat.zero_le _
  | x :: l, L, n, h => by
    obtain ⟨n1, n2⟩ := List.nodup_cons.mp n
    have := nodup_len (L := L.erase x) n2 fun y m => (List.mem_erase_of_ne fun e => n1 (by rw [← e]; exact m)).mpr (h y (List.mem_cons_of_mem _ m))
    have hx := h x List.mem_cons_self
    rw [List.length_erase_of_mem hx] at this
    have := List.length_pos_of_mem hx
    rw [List.length_cons]
    omega
theorem wr_memo {u : V} {d : D} {kvs : List (List Key × V)} (E : EnvOk K W H σ env fp xf) (S : Sat K W H fp xf) (s : W.S a = some (k + 1, ps)) (h : H a = some (.dT kvs)) (o : Rep K W u d) (hm : memo k ps keys = some d) :
    kvs.length < sizeLine ∧ EnvOk K W (upd H a (.dT (L2.putK kvs keys u))) σ env fp xf ∧ Sat K W (upd H a (.dT (L2.putK kvs keys u))) fp xf ∧ Stp W H [] W (upd H a (.dT (L2.putK kvs keys u))) := by
  obtain ⟨g0, o0, e0, kvs2, q1, q2, q3⟩ := S.memo s hm
  rw [h] at e0
  cases e0
  cases q1
  have hlen : kvs.length < sizeLine := by
    obtain ⟨L, hl, hL⟩ := memo_fin k
    have sub : ∀ x ∈ kvs.map (·.1), x ∈ L := fun x m => by
      obtain ⟨p, hp, rfl⟩ := List.mem_map.mp m
      obtain ⟨d, h1, _⟩ := q3 p hp
      exact hL _ _ _ h1
    have := nodup_len q2 sub
    rw [List.length_map] at this
    rw [← sizeL_eq]
    unfold sizeL
    omega
  have ne : ∀ c, W.S c = none → c ≠ a := fun c q e => by rw [e, s] at q; cases q
  have up : ∀ c, W.S c = none → ∀ o, H c = some o → upd H a (.dT (L2.putK kvs keys u)) c = some o := fun c q o e => (upd_ne (ne c q)).trans e
  have al : ∀ c, H c ≠ none → upd H a (.dT (L2.putK kvs keys u)) c ≠ none := fun c n => by
    by_cases q : c = a
    · rw [q, upd_same]; exact fun z => nomatch z
    · rw [upd_ne q]; exact n
  refine ⟨hlen, E.mono (.refl _) fun c m o e => up c (m.elim (fun q => (S.off c q).2.1) fun q => (S.xof c q).2.1) o e, ⟨fun c o e => ?_, ⟨fun c k' ps' e => ?_, fun p q e => let ⟨x, cs, y⟩ := S.vol.tb p q e; ⟨x, cs, (upd_ne (fun z => by rw [z, h] at y; cases y)).trans y⟩⟩, S.nd, fun c m => ⟨(S.off c m).1, (S.off c m).2.1, al c (S.off c m).2.2⟩, fun c m => ⟨(S.xof c m).1, (S.xof c m).2.1, al c (S.xof c m).2.2⟩⟩, ⟨fun _ _ _ => ⟨rfl, rfl⟩, fun c o e _ z => up c z o e, al⟩⟩
  · exact (upd_ne (fun q => by rw [q, g0] at e; cases e)).trans (S.sub c o e)
  · obtain ⟨g1, ob, g2, g3⟩ := S.vol c k' ps' e
    by_cases q : c = a
    · subst q
      rw [s] at e
      cases e
      refine ⟨g1, _, upd_same, .inl ⟨_, rfl, ?_, fun p hp => ?_⟩⟩
      · cases z : valV kvs keys with
        | none => exact nd_putK u q2 z
        | some w =>
          have e : (L2.putK kvs keys u).map (·.1) = kvs.map (·.1) := by
            unfold L2.putK
            rw [if_pos (by rw [valV_any, z] <;> rfl), List.map_map]
            refine List.map_congr_left fun p _ => ?_
            show (if p.1 = keys then (p.1, u) else p).1 = p.1
            split <;> rfl
          rw [e]
          exact q2
      · unfold L2.putK at hp
        split at hp
        · obtain ⟨p0, h0, rfl⟩ := List.mem_map.mp hp
          by_cases z : p0.1 = keys
          · rw [if_pos z]
            exact ⟨d, by rw [← hm, z], o⟩
          · rw [if_neg z]
            exact q3 p0 h0
        · rcases List.mem_append.mp hp with hp | hp
          · exact q3 p hp
          · rw [List.mem_singleton.mp hp]
            exact ⟨d, hm, o⟩
    · exact ⟨g1, ob, (upd_ne q).trans g2, g3⟩
end
def Has (K : PySem.W.Frag) (W : Wd) (H : Hp) (a : Addr) (keys : List Key) (d : D) : Prop := ∃ kvs u, H a = some (.dT kvs) ∧ valV kvs keys = some u ∧ Rep K W u d
def LX (K : PySem.W.Frag) (pr : List Nat) (i C : Nat) (f : Str) (js : List Nat) (b : DS) (e : DE) : TS := fun Z σ H => ∃ (W : Wd) (env : Env) (fp xf : List Addr) (d : D) (a : Addr) (k : Nat) (ps : List D) (keys : List Key), EnvOk K W H σ env fp xf ∧ Sat K W H fp xf ∧
  MAt K W σ i C f js a k ps keys ∧ memo k ps keys = some d ∧ b env { nx := fun e' => e e' fun r => ∃ t, r.item = some t ∧ Fz t d, rt := fun _ _ => False } ∧
  ∀ e' σ' W' H' fp' xf', Post K W H fp pr σ σ' W' H' e' fp' xf' → Has K W' H' a keys d → Z.nx σ' H'
theorem Post.weak {K : PySem.W.Frag} {W W' : Wd} {H H' : Hp} {fp fp' xf' : List Addr} {σ σ' : L2.St} {e : Env} {pr pr' : List Nat} (P : Post K W H fp pr σ σ' W' H' e fp' xf') (h : ∀ i ∈ pr', i ∈ pr) : Post K W H fp pr' σ σ' W' H' e fp' xf' := ⟨P.t, P.E, P.S, P.nf, fun i m => P.pr i (h i m)⟩
section
variable {X : Cx} {tg a b c o o1 o3 : Expr} {ma mb mc : DE} {pos p1 : Pos} {ta tb : DT} {st : Stmt} {rest s1 s2 : List Stmt} {m m1 m2 : DS} {pr pr0 : List Nat} {pl : DP} {x f : Str} {C : Addr} {es es1 es3 : List Expr} {i : Nat} {js : List Nat}
theorem pe_sf {n : Str} {np : Pos} (hN : X.N[i]? = some n := by rfl) (hv : Vis X.env.scope n := by first | exact Or.inl rfl | exact Or.inr (Or.inl rfl) | exact Or.inr (Or.inr rfl)) (hd : (n == ("__debug__" : Str)) = false := by decide) (hcd : (n == ("__classdict__" : Str)) = false := by decide)
    (hb : attributeBase (.Name n np) f X.env (eval (.Name n np) X.env) = eval (.Name n np) X.env := by rfl) : PE X (.Attribute (.Name n np) f pos) (tFld X.K (tVar i) f) := pe_fld (pe_var (i := i) hN hv hd hcd) hb
theorem mat_fld {σ : L2.St} {W : Wd} {H : Hp} {fp xf : List Addr} {ad : Addr} {k : Nat} {ps : List D} {keys : List Key} {Q : VK} (cl : Cls X.K C) (na : NoAttr X.K C f) (M : MAt X.K W σ i C f js ad k ps keys) (S : Sat X.K W H fp xf) (q : Q (.ref ad) H) : tFld X.K (tVar i) f σ H Q := by
  obtain ⟨a0, dx, fs, e1, e2, e3⟩ := M.o
  exact ⟨_, e1, a0, C, dx, fs, .ref ad, rfl, S.sub _ _ e2, cl, na, e3, q⟩
theorem mat_key {σ : L2.St} {W : Wd} {H : Hp} {ad : Addr} {k : Nat} {ps : List D} {keys : List Key} {Q : VK} (M : MAt X.K W σ i C f js ad k ps keys) (hl : js.length < 100) (q : ∀ p, H p = none → Q (.ref p) (upd H p (.tup (keys.map kV)))) : tTup (tVars js) σ H Q := by
  refine ⟨keys.map kV, M.k, ?_, q⟩
  rw [M.k.len, ← sizeL_eq]; unfold sizeL; omega
theorem dsx_one {x1 : Nat} {tp : Pos} {cl : Cls X.K C} {na : NoAttr X.K C f} (hu : X.A.units + 1 < cLine) (ho : PE X o (tFld X.K (tVar i) f)) (hk : PA X es (tVars js)) (he : PE X c (LP X.K mc)) (hl : js.length < 100 := by decide)
    (hs : swapsWith c (some (.Subscript o (.Tuple es x1 tp) p1)) pos.line X.env = pure false := by rfl) : PSs X [.Assign [.Subscript o (.Tuple es x1 tp) p1] c pos] (LX X.K pr i C f js mNext mc) :=
  pss_one (ps_imp (ps_dput hu ho (pe_tup hk) he hs) fun D σ H h => by
  obtain ⟨W, env, fp, xf, d, ad, k, ps, keys, E, S, M, hm, hb, nx⟩ := h
  refine LP.next E S hb fun r ⟨t, ei, ez⟩ v W1 H1 t1 S1 E1 o1 => ?_
  obtain ⟨g, og, ndg, zg⟩ := item_own o1 ei
  have za : ∀ a ∈ g, a ∉ fp ∧ a ∉ xf := fun a m => ⟨fun m2 => (S.off a m2).2.2 (zg a m).1, fun m2 => (S.xof a m2).2.2 (zg a m).1⟩
  obtain ⟨W2, F, Rv, _⟩ := freeze og ez ndg fun a m => (zg a m).2
  have S2 := F.sat S1 (fun a m => ⟨(zg a m).2.1, (zg a m).2.2, og.alloc a m⟩) za
  have t2 : Stp W H [] W2 H1 := t1.trans F.stp fun a m => .inr (zg a m).1
  have E2 := E.keep S t2
  have M2 := M.keep (t2.le S fun _ m => by cases m) rfl fun _ _ => rfl
  refine mat_fld cl na M2 S2 ?_
  refine mat_key M2 hl fun p n => ?_
  have S3 := S2.new (o := .tup (keys.map kV)) n
  have E3 := E2.keep S2 (.new (o := .tup (keys.map kV)) n)
  obtain ⟨g0, ob, hob, kvs, rfl, q2, q3⟩ := S3.memo M2.s hm
  obtain ⟨hlen, E4, S4, t4⟩ := wr_memo (keys := keys) E3 S3 M2.s hob Rv hm
  refine ⟨ad, _, rfl, DPut.t hob upd_same hlen, nx env σ W2 _ fp xf ⟨((t2.tr0 (.new n)).tr0 t4).up, E4, S4, fun a m => .inl m, fun _ _ => rfl⟩ ⟨_, v, upd_same, ?_, Rv⟩⟩
  rw [valV_put, if_pos rfl])
theorem dsx_cons (h1 : PS X st (LS X.K exT pr m1)) (h2 : PSs X rest (LX X.K pr i C f js m2 mc)) (hi : i ∈ pr := by decide) (hj : ∀ j ∈ js, j ∈ pr := by decide) : PSs X (st :: rest) (LX X.K pr i C f js (mSeq m1 m2) mc) := pss_imp (pss_cons h1 h2) fun Z σ H h => by
  obtain ⟨W, env, fp, xf, d, ad, k, ps, keys, E, S, M, hm, hb, nx⟩ := h
  refine ⟨W, env, fp, xf, _, E, S, hb, fun e q σ' W' H' fp' xf' P => ?_, fun _ q => q.elim, fun _ q => q.elim, ⟨fun _ _ q => q.elim, fun _ _ q => q.elim⟩⟩
  refine ⟨W', e, fp', xf', d, ad, k, ps, keys, P.E, P.S, M.keep (P.t.le S fun a m => .inl m) (P.pr i hi) fun j m => P.pr j (hj j m), hm, q, fun e2 σ2 W2 H2 fp2 xf2 P2 hs => nx e2 σ2 W2 H2 fp2 xf2 (P.trans P2) hs⟩
theorem dss_memo {x1 x3 : Nat} {tp1 tp3 cp ip sp rp : Pos} {s : List Stmt} (cl : Cls X.K C) (na : NoAttr X.K C f) (hu : X.A.units + 1 < cLine) (ho1 : PE X o1 (tFld X.K (tVar i) f)) (hk1 : PA X es1 (tVars js)) (ho3 : PE X o3 (tFld X.K (tVar i) f)) (hk3 : PA X es3 (tVars js))
    (hb : PSs X s (LX X.K pr i C f js m mc)) (hi : i ∈ pr := by decide) (hj : ∀ j ∈ js, j ∈ pr := by decide) (hp : ∀ j ∈ pr0, j ∈ pr := by decide) (hl : js.length < 100 := by decide) (hin : behindInMarks .NotIn o1 = false := by with_unfolding_all rfl) (hns : NoSl (.Tuple es3 x3 tp3) := by exact fun _ _ => rfl) :
    PSs X [.If (.Compare (.Tuple es1 x1 tp1) [.NotIn] [o1] cp) s [] ip, .Return (some (.Subscript o3 (.Tuple es3 x3 tp3) sp)) rp] (LS X.K ex pr0 (mMemo i C f js m mc)) :=
  pss_imp (pss_cons (ps_if (pt_cmp (pc_dnotin hu (pe_tup hk1) ho1) hin) hb pss_nil) (pss_one (ps_ret (pe_dget hu ho3 (pe_tup hk3) hns)))) fun Z σ H h => by
  obtain ⟨W, env, fp, xf, K0, E, S, ⟨ks, ds, k, ps, keys, d, he, hf, hk, hm, hb, hr⟩, nx, bk, ct, rt⟩ := h
  obtain ⟨ad, M⟩ := mat_of E S he hf hk
  have tail : ∀ {σ' : L2.St} {W' : Wd} {H' : Hp} {e' : Env} {fp' xf' : List Addr}, Post X.K W H fp pr σ σ' W' H' e' fp' xf' → Has X.K W' H' ad keys d → tRet (tDGet (tFld X.K (tVar i) f) (tTup (tVars js))) Z σ' H' := by
    intro σ' W' H' e' fp' xf' P ⟨kvs, u, h1, h2, h3⟩
    have M' := M.keep (P.t.le S fun a m => .inl m) (P.pr i hi) fun j m => P.pr j (hj j m)
    unfold tRet tDGet
    refine mat_fld cl na M' P.S ?_
    refine mat_key M' hl fun p n => ?_
    have hne : p ≠ ad := fun q => by rw [q, h1] at n; cases n
    refine ⟨ad, u, rfl, by rw [← h2]; exact DGet.t ((upd_ne (Ne.symm hne)).trans h1) upd_same, ?_⟩
    have P2 := P.trans (Post.pure (.new (o := .tup (keys.map kV)) n) (P.E.keep P.S (.new n)) (P.S.new n))
    exact rt _ e' (hr e') u σ' W' _ fp' xf' (P2.weak hp) h3
  unfold tSeq tIfS tB tDNotIn
  refine mat_key M hl fun p n => ?_
  have S1 := S.new (o := .tup (keys.map kV)) n
  have t1 : Stp W H [] W (upd H p (.tup (keys.map kV))) := .new n
  have E1 := E.keep S t1
  refine mat_fld cl na M S1 ?_
  obtain ⟨g0, ob, hob, kvs, rfl, q2, q3⟩ := S1.memo M.s hm
  refine ⟨ad, valV kvs keys, rfl, DGet.t hob upd_same, _, rfl, ?_⟩
  cases z : valV kvs keys with
  | none =>
    refine iteT ⟨W, env, fp, xf, d, ad, k, ps, keys, E1, S1, M, hm, hb, fun e' σ' W' H' fp' xf' P hs => tail ((Post.pure t1 E1 S1).trans P) hs⟩
  | some u =>
    refine iteF (tail (.pure t1 E1 S1) ⟨kvs, u, hob, z, ?_⟩)
    have hmem : ∃ p ∈ kvs, p.1 = keys ∧ p.2 = u := by
      unfold valV at z
      obtain ⟨p, hp, e⟩ := Option.map_eq_some_iff.mp z
      exact ⟨p, List.mem_of_find?_eq_some hp, by simpa using List.find?_some hp, e⟩
    obtain ⟨p, hp, e1, e2⟩ := hmem
    obtain ⟨d', w1, w2⟩ := q3 p hp
    rw [e1, hm] at w1
    cases w1
    rw [← e2]
    exact w2
end
end R
namespace R
open PySem PySem.Spec PyProof.Rows L2
def pairR (x y : D) : Rs := .nw (.tup [.leaf x, .leaf y])
def zipR (ds es : List D) : List Rs := (List.range (min ds.length es.length)).map fun (i : Nat) => pairR (ds.getD i .non) (es.getD i .non)
def mItZ (a b : DE) : DI := fun env Q => a env fun r => b env fun s => ∃ ds es, r.ffz.els true = some ds ∧ s.ffz.els true = some es ∧ Q (r.ffz.stays && s.ffz.stays) (zipR ds es)
section
variable {K : PySem.W.Frag} {W W1 W2 W' : Wd} {H H1 H2 H' : Hp} {f f1 fp fp1 fp2 xf xf1 xf2 : List Addr} {σ σ1 σ2 : L2.St} {Q : VK} {r : Rs} {v : V} {env env1 env2 : Env}
theorem list_stay {ds : List D} (o : ResOk K H fp W1 H1 v r) (h : r.els true = some ds) (S1 : Sat K W1 H1 fp xf) : ∃ (p : Addr) (vs : List V), v = .ref p ∧ SqL K H1 p vs ∧ RepAll K W1 vs ds ∧
    ∀ f, (r.stays = true ∨ f = []) → (∀ a ∈ f, a ∈ fp) → ∀ W' H' fp' xf', Stp W1 H1 f W' H' → W1.Le W' → Sat K W' H' fp' xf' → SqL K H' p vs ∧ RepAll K W' vs ds := by
  unfold Rs.els at h
  split at h
  · cases h
    cases (show Rep K W1 v (.lst ds) from o) with
    | lst g w => exact ⟨_, _, rfl, .of (S1.sub _ _ g), w, fun f _ _ W' H' fp' xf' _ l S => ⟨.of (S.sub _ _ (l.g _ _ g)), w.mono l⟩⟩
  · cases h
  · have e := show leaves _ = some ds from h
    obtain ⟨f0, ow, z⟩ := o
    cases ow with
    | lst hp w =>
      refine ⟨_, _, rfl, .of hp, w.reps e, fun f hf hs W' H' fp' xf' t l S => ?_⟩
      have hf : f = [] := hf.resolve_left (by intro q; cases q)
      subst hf
      exact ⟨.of (t.kp _ _ hp (by simp) (z _ List.mem_cons_self)), (w.reps e).mono l⟩
  · have e := show leaves _ = some ds from h
    obtain ⟨f0, ow, z⟩ := o
    cases ow with
    | lst hp w => exact ⟨_, _, rfl, .of hp, w.reps e, fun f hf hs W' H' fp' xf' t l S => ⟨.of (t.kp _ _ hp (fun m => (z _ List.mem_cons_self).2 (hs _ m)) (z _ List.mem_cons_self).1), (w.reps e).mono l⟩⟩
  · cases h
  · cases h
  · cases h
theorem RepAll.get {W : Wd} : ∀ {vs : List V} {ds : List D} {i : Nat} {u : V}, RepAll K W vs ds → vs[i]? = some u → Rep K W u (ds.getD i .non)
  | _, _, _, _, .nil, h => by simp at h
  | _, _, 0, _, .cons a _, h => by simp at h; subst h; exact a
  | _ :: vs0, _ :: ds0, i + 1, u, .cons _ b, h => by
    have h2 : vs0[i]? = some u := by simpa using h
    exact RepAll.get (vs := vs0) (ds := ds0) (i := i) b h2
theorem pair_ok {T : Addr} {x y : V} {d e : D} (S : Sat K W H fp xf) (n : H T = none) (a : Rep K W x d) (b : Rep K W y e) : Stp W H [] W (upd H T (.tup [x, y])) ∧ Sat K W (upd H T (.tup [x, y])) fp xf ∧ ResOk K H fp W (upd H T (.tup [x, y])) (.ref T) (pairR d e) :=
  ⟨.new n, S.new n, [T], .tup upd_same (.cons (f := []) (.leaf a) (.cons (f := []) (.leaf b) .nil)), by simp, fun c m => by rw [List.mem_singleton.mp m]; exact ⟨n, S.free n⟩⟩
theorem range_map_get {α : Type} {f : Nat → α} {n i : Nat} {c : α} (h : ((List.range n).map f)[i]? = some c) : c = f i := by
  rw [List.getElem?_map] at h
  cases q : (List.range n)[i]? with
  | none => rw [q] at h; cases h
  | some j =>
    obtain ⟨hi, e⟩ := List.getElem?_eq_some_iff.mp q
    rw [List.getElem_range] at e
    rw [q] at h
    cases h
    rw [e]
end
def two2 (P : Rs → Rs → Prop) : List Rs → Prop
  | [r, s] => P r s
  | _ => False
theorem two2_inv {P : Rs → Rs → Prop} : ∀ {rs : List Rs}, two2 P rs → ∃ r s, rs = [r, s] ∧ P r s
  | [r, s], h => ⟨r, s, rfl, h⟩
  | [], h => h.elim
  | [_], h => h.elim
  | _ :: _ :: _ :: _, h => h.elim
section
variable {X : Cx} {tg a b c : Expr} {ma mb mc : DE} {pos tpos : Pos} {ta tb : DT} {elts : List Expr} {kk : Nat}
theorem di_zip {p : Pos} (hm : X.mg "zip" = none) (ha : PE X a (LP X.K ma)) (hb : PE X b (LP X.K mb)) (hg : Gl X "zip" := by rfl) (hs : starEach [a, b] X.env = (false, eval a X.env) :: starEach [b] X.env := by rfl) (hs2 : starEach [b] X.env = (false, eval b X.env) :: starEach [] X.env := by rfl)
    (hpl : (backTo pos (starEach [b] X.env)).any (·.1) = false := by rfl) : PI X (.Tuple elts kk tpos) (.Call (.Name "zip" p) [a, b] [] pos) (LI X.K (mItZ ma mb)) :=
  pi_imp (RZ.pi_zipA hg hm (da_cons ha (da_cons hb da_nil hs2) hs) hs hpl) fun σ H R h => by
  obtain ⟨W, env, fp, xf, Q0, E, S, hm, k⟩ := h
  refine LA.next (m := mCons ma (mCons mb mNil)) E S (Q1 := two2 fun r s => ∃ ds es, r.ffz.els true = some ds ∧ s.ffz.els true = some es ∧ Q0 (r.ffz.stays && s.ffz.stays) (zipR ds es)) hm fun rs hr vs W1' H1 g t1' S1' E1' os F => ?_
  obtain ⟨r, s, rfl, ds, es, ek, ek2, hq⟩ := two2_inv hr
  obtain ⟨W1, g', t1, S1, _, _, o4, F4, _, _⟩ := os.ffz (.refl _) rfl S t1' S1' F.1 F.2
  obtain ⟨v, u, rfl, o, o2⟩ := o4.two F4
  obtain ⟨p, vs, rfl, hl, hr1, st⟩ := list_stay o ek S1
  obtain ⟨p2, us, rfl, hl2, hr2, st2⟩ := list_stay o2 ek2 S1
  have ll : (zipR ds es).length = min vs.length us.length := by unfold zipR; rw [List.length_map, List.length_range, hr1.len, hr2.len]
  refine ⟨p, p2, vs, us, rfl, .inl ⟨hl, hl2, k _ _ hq _ W1 H1 t1 S1 fun f hf hs W' H' fp' xf' t l S' y => ?_⟩⟩
  obtain ⟨q1, q2⟩ := st f (hf.imp (fun z => (Bool.and_eq_true_iff.mp z).1) id) hs W' H' fp' xf' t l S'
  obtain ⟨q3, q4⟩ := st2 f (hf.imp (fun z => (Bool.and_eq_true_iff.mp z).2) id) hs W' H' fp' xf' t l S'
  refine ⟨fun i hi => ⟨vs, us, q1, q3, by omega⟩, fun i hi => ⟨vs, us, vs[i]'(by omega), us[i]'(by omega), q1, q3, List.getElem?_eq_getElem (by omega), List.getElem?_eq_getElem (by omega)⟩, fun i x H'' c hy hx => ?_⟩
  obtain ⟨T, x0, y0, rfl, hn, rfl, hv, hu⟩ := hy
  rw [range_map_get hx]
  exact pair_ok S' hn (q2.get (hv vs q1)) (q4.get (hu us q3))
end
end R
namespace R
open PySem PySem.Spec PyProof.Rows L2
section
variable (P : Program) (w : World) (K : PySem.W.Frag) (mg : Str → Option Value) (base : Heap)
structure CalR (x : Str) (n : Nat) (F : Spec1) (dv : List D) (k : Nat) : Prop where
  ex : ∃ (f : Addr) (fd : FuncData) (ps : List Str) (ds : List Value) (dvs : List V), FnOk P w K mg base CX0 k f fd ps (spR K n F.io) ∧ mg x = some (.ref f) ∧ PySem.W.keepIn K (.ref f) = true ∧ Binds K fd ps ds ∧ Vals dvs ds ∧ ∀ W, RepAll K W dvs dv
structure MetR (C : Addr) (m : Str) (n : Nat) (F : Spec1) (dv : List D) (k : Nat) : Prop where
  ex : ∃ (f : Addr) (fd : FuncData) (ps : List Str) (ds : List Value) (dvs : List V), Cls K C ∧ Meth K C m f ∧ FnOk P w K mg base CX0 k f fd ps (spR K n F.io) ∧ Binds K fd ps ds ∧ Vals dvs ds ∧ ∀ W, RepAll K W dvs dv
structure MakR (x : Str) (C : Addr) (n : Nat) (F : Spec) (dv : List D) (k : Nat) : Prop where
  ex : ∃ (f : Addr) (fd : FuncData) (ps : List Str) (ds : List Value) (dvs : List V), Mk K C f ∧ FnOk P w K mg base CX0 k f fd ps (spR K n F) ∧ mg x = some (.ref C) ∧ Binds K fd ps ds ∧ Vals dvs ds ∧ ∀ W, RepAll K W dvs dv
structure MakKR (x : Str) (C : Addr) (n : Nat) (F : Spec) (np : Nat) (ks : List Str) (k : Nat) : Prop where
  ex : ∃ (f : Addr) (fd : FuncData) (ps : List Str) (g : List Value → List Value → List Value), Mk K C f ∧ FnOk P w K mg base CX0 k f fd ps (spR K n F) ∧ mg x = some (.ref C) ∧ KBn K fd ps (np + 1) ks g (fun vs zs => vs ++ zs)
end
def mApp (np nk : Nat) (a k : DA) : DA := fun env Q => a env fun rs => k env fun zs => rs.length = np ∧ zs.length = nk ∧ Q (rs ++ zs)
section
variable {X : Cx} {k j n : Nat} {C : Addr} {F1 : Spec1} {F0 : Spec} {dv : List D} {x m : Str} {p pos apos : Pos} {e o : Expr} {es : List Expr} {mo mv : DE} {ma mk : DA} {kws : List Keyword} {nm : Option Str} {kpos : Pos}
theorem dp_cal (c : CalR X.prog X.w X.K X.mg X.base x n F1 dv k) (hr : Room j X.A) (hk : k ≤ j) (ha : PA X (e :: es) (LA X.K ma))
    (hg : Gl X x := by rfl) (hst : starEach (e :: es) X.env = (false, eval e X.env) :: starEach es X.env := by rfl) (hpl : (backTo pos (starEach es X.env)).any (·.1) = false := by rfl) (hdb : (x == ("__debug__" : Str)) = false := by decide) :
    PE X (.Call (.Name x p) (e :: es) [] pos) (LP X.K (mCall n F1 ma dv)) := by
  obtain ⟨f, fd, ps, ds, dvs, F, hm, kp, b, d, r⟩ := c.ex
  exact dp_call F (hr.mono hk) hm kp b d r (E := E0) pass0 ha hg hst hpl hdb
theorem dp_mth {pl : Sem Bool} (c : MetR X.prog X.w X.K X.mg X.base C m n F1 dv k) (hr : Room j X.A) (hk : k ≤ j) (he : PE X o (LP X.K mo)) (ha : PA X (e :: es) (LA X.K ma))
    (hst : starEach (e :: es) X.env = (false, eval e X.env) :: starEach es X.env := by rfl) (hpl : (backTo pos (starEach es X.env)).any (·.1) = false := by rfl)
    (ht : eval (.Call (.Attribute o m apos) (e :: es) [] pos) X.env = (do
      let ov ← eval o X.env
      standAt apos.atName
      let (f, first) ← holding [ov] (getMethod ov m pl)
      callWith pos f first (backTo pos (starEach (e :: es) X.env)) (backToKw pos (keywordEach [] X.env))) := by rfl) :
    PE X (.Call (.Attribute o m apos) (e :: es) [] pos) (LP X.K (mMeth n C m F1 mo ma dv)) := by
  obtain ⟨f, fd, ps, ds, dvs, cl, me, F, b, d, r⟩ := c.ex
  exact dp_meth (pl := pl) cl me F (hr.mono hk) b d r (E := E0) pass0 he ha hst hpl ht
theorem dp_mth0 {pl : Sem Bool} (c : MetR X.prog X.w X.K X.mg X.base C m n F1 dv k) (hr : Room j X.A) (hk : k ≤ j) (he : PE X o (LP X.K mo))
    (ht : eval (.Call (.Attribute o m apos) [] [] pos) X.env = (do
      let ov ← eval o X.env
      standAt apos.atName
      let (f, first) ← holding [ov] (getMethod ov m pl)
      callWith pos f first (backTo pos (starEach [] X.env)) (backToKw pos (keywordEach [] X.env))) := by rfl) :
    PE X (.Call (.Attribute o m apos) [] [] pos) (LP X.K (mMeth n C m F1 mo mNil dv)) := by
  obtain ⟨f, fd, ps, ds, dvs, cl, me, F, b, d, r⟩ := c.ex
  exact dp_meth0 (pl := pl) cl me F (hr.mono hk) b d r (E := E0) pass0 he ht
theorem dp_mk (c : MakR X.prog X.w X.K X.mg X.base x C n F0 dv k) (hr : Room j X.A) (hk : k + 1 ≤ j) (ha : PA X (e :: es) (LA X.K ma))
    (hg : Gl X x := by rfl) (hdb : (x == ("__debug__" : Str)) = false := by decide) (he : starEach (e :: es) X.env = (false, eval e X.env) :: starEach es X.env := by rfl) (hpl : (backTo pos (starEach es X.env)).any (·.1) = false := by rfl) :
    PE X (.Call (.Name x p) (e :: es) [] pos) (LP X.K (mMake n C F0 ma dv)) := by
  obtain ⟨f, fd, ps, ds, dvs, M, F, hm, b, d, r⟩ := c.ex
  exact dp_make M F (hr.mono hk) hm b d r (E := E0) pass0 ha hg hdb he hpl
theorem pk_imp {t t' : TA} (h : PK X kws t) (k : ∀ σ H Q, t' σ H Q → t σ H Q) : PK X kws t' := ⟨fun p pins s σ H Q I w => h.run p pins s σ H Q I (k σ H Q w)⟩
theorem dk_nil : PK X [] (LA X.K mNil) := pk_imp pk_nil fun σ H Q h => by
  obtain ⟨W, env, fp, xf, Q0, E, S, hm, k⟩ := h
  exact k _ hm [] W H [] .refl S .nil ⟨List.nodup_nil, fun _ m => by cases m⟩
theorem cons_all {σ : L2.St} {H : Hp} {Q : List V → Hp → Prop} (h : LA X.K (mCons mv ma) σ H Q) : tCons (LP X.K mv) (LA X.K ma) σ H Q := by
  obtain ⟨W, env, fp, xf, Q0, E, S, hm, k⟩ := h
  refine LP.next E S hm fun r hr v W1 H1 t1 S1 E1 o => ?_
  refine ⟨W1, env, fp, xf, _, E1, S1, hr, fun rs hq vs W2 H2 g t2 S2 os F => ?_⟩
  have l := t2.le S1 fun _ m => by cases m
  have o2 := o.keep t2 l
  have Fb := fresh_back F t1.al
  have os' : ResAll X.K H fp W2 H2 vs rs g := os.back
  cases r with
  | fz d => exact k _ hq _ W2 H2 g (t1.tr0 t2) S2 (.fz o2 os') Fb
  | nw t =>
    obtain ⟨f, ow, nd, z⟩ := o
    have ow2 := ow.mono l fun a m u e => t2.kp a u e (by simp) (z a m).2.2
    refine k _ hq _ W2 H2 (f ++ g) (t1.tr0 t2) S2 (.nw ow2 os') ⟨List.nodup_append.mpr ⟨nd, F.1, fun x m y m2 e => ?_⟩, fun a m => ?_⟩
    · subst e
      exact ow.alloc x m (F.2 x m2).1
    · rcases List.mem_append.mp m with m | m
      · obtain ⟨e1, e2⟩ := t2.kpS (ow.alloc a m)
        exact ⟨(z a m).1, e1.trans (z a m).2.1, e2.trans (z a m).2.2⟩
      · exact Fb.2 a m
  | br t => obtain ⟨f, ow, z⟩ := o2; exact k _ hq _ W2 H2 g (t1.tr0 t2) S2 (.br ow z os') Fb
  | ex t => obtain ⟨f, ow, z⟩ := o2; exact k _ hq _ W2 H2 g (t1.tr0 t2) S2 (.ex ow z os') Fb
theorem dk_cons (ha : PE X e (LP X.K mv)) (hr : PK X kws (LA X.K ma)) : PK X (⟨nm, e, kpos⟩ :: kws) (LA X.K (mCons mv ma)) := pk_imp (pk_cons ha hr) fun σ H Q h => cons_all h
end
end R
namespace R
open PySem PySem.Spec PyProof.Rows L2
section
variable {K : PySem.W.Frag} {W W1 W2 W' : Wd} {H H1 H2 H' : Hp} {f f1 fp fp1 fp2 xf xf1 xf2 : List Addr} {σ σ1 σ2 : L2.St} {Q : VK} {r : Rs} {v : V} {env env1 env2 : Env}
theorem ResAll.app {vs us : List V} {rs ss : List Rs} {g h : List Addr} (a : ResAll K H fp W' H' vs rs g) (b : ResAll K H fp W' H' us ss h) : ResAll K H fp W' H' (vs ++ us) (rs ++ ss) (g ++ h) := by
  induction a with
  | nil => exact b
  | fz q _ ih => exact .fz q ih
  | nw q _ ih =>
    have w := ResAll.nw q ih
    rw [← List.append_assoc] at w
    exact w
  | br q z _ ih => exact .br q z ih
  | ex q z _ ih => exact .ex q z ih
theorem app_all {np nk : Nat} {ma mk : DA} {Q : List V → Hp → Prop} (h : LA K (mApp np nk ma mk) σ H Q) : LA K ma σ H fun vs H1 => LA K mk σ H1 fun zs H2 => vs.length = np ∧ zs.length = nk ∧ Q (vs ++ zs) H2 := by
  obtain ⟨W, env, fp, xf, Q0, E, S, hm, k⟩ := h
  refine LA.next E S hm fun rs hr vs W1 H1 g t1 S1 E1 o F1 => ?_
  refine LA.next E1 S1 hr fun zs ⟨l1, l2, hq⟩ us W2 H2 g2 t2 S2 E2 os F => ?_
  have l := t2.le S1 fun _ m => by cases m
  have o2 := o.mono l (fun a u e s => t2.kp a u e (by simp) s) (fun a n => (t2.kpS n).2) fun a m => (F1.2 a m).2.2
  have Fb := fresh_back F t1.al
  have os' : ResAll K H fp W2 H2 us zs g2 := os.back
  refine ⟨o.len.trans l1, os.len.trans l2, k _ hq _ W2 H2 (g ++ g2) (t1.tr0 t2) S2 (o2.app os') ⟨List.nodup_append.mpr ⟨F1.1, F.1, fun x m y m2 e => ?_⟩, fun a m => ?_⟩⟩
  · subst e
    exact o.cells x m (F.2 x m2).1
  · rcases List.mem_append.mp m with m | m
    · obtain ⟨e1, e2⟩ := t2.kpS (o.cells a m)
      exact ⟨(F1.2 a m).1, e1.trans (F1.2 a m).2.1, e2.trans (F1.2 a m).2.2⟩
    · exact Fb.2 a m
end
section
variable {X : Cx} {k j n np : Nat} {C : Addr} {F0 : Spec} {x : Str} {p pos : Pos} {e : Expr} {es : List Expr} {ma mk : DA} {kws : List Keyword} {ks : List Str} {a b c : Expr} {mb : DE} {pr : List Nat}
def oMulI := i2 (fun i j => (-(2 ^ 64) < i ∧ i < 2 ^ 64) ∨ (-(2 ^ 64) < j ∧ j < 2 ^ 64)) fun i j => .int (i * j)
end
end R
namespace R
open PySem PySem.Spec PyProof.Rows L2
section
variable {X : Cx} {a b : Expr} {mb : DE} {pos : Pos} {pl : DP}
end
end R
namespace R
open PySem
theorem w_add (i j : Int) : oAdd (.fz (.int i)) (.fz (.int j)) = fun Q => Q (.fz (.int (i + j))) := rfl
theorem w_mul (i j : Int) : oMul (.fz (.int i)) (.fz (.int j)) = fun Q => ((-(2 ^ 64) < i ∧ i < 2 ^ 64) ∨ (-(2 ^ 64) < j ∧ j < 2 ^ 64)) ∧ Q (.fz (.int (i * j))) := rfl
theorem w_ix_vol (ps : List D) (i : Int) : oIx (.fz (.vol 0 ps)) (.fz (.int i)) = fun Q => 0 ≤ i ∧ i < 3 ∧ ∀ x, Q (.fz (.int x)) := rfl
theorem w_ix_lst (ds : List D) (i : Int) : oIx (.fz (.lst ds)) (.fz (.int i)) = fun Q => ∃ d, at' ds i = some d ∧ Q (.fz d) := rfl
theorem w_ix_tup (ds : List D) (i : Int) : oIx (.fz (.tup ds)) (.fz (.int i)) = fun Q => ∃ d, at' ds i = some d ∧ Q (.fz d) := rfl
theorem w_ix_rol (ds : List D) (i : Int) : oIx (.fz (.rol ds)) (.fz (.int i)) = fun Q => ∃ d, at' ds i = some d ∧ Q (.fz d) := rfl
theorem w_ix_br (ts : List OT) (i : Int) : oIx (.br (.lst ts)) (.fz (.int i)) = fun Q => ∃ t, at' ts i = some t ∧ Q (brOf t) := by
  funext Q
  refine propext ⟨fun ⟨ts', t, e, h⟩ => ?_, fun ⟨t, h⟩ => ⟨ts, t, rfl, h⟩⟩
  cases e
  exact ⟨t, h⟩
theorem w_ix_brT (ts : List OT) (i : Int) : oIx (.br (.tup ts)) (.fz (.int i)) = fun Q => ∃ t, at' ts i = some t ∧ Q (brOf t) := by
  funext Q
  refine propext ⟨fun ⟨ts', t, e, h⟩ => ?_, fun ⟨t, h⟩ => ⟨ts, t, rfl, h⟩⟩
  cases e
  exact ⟨t, h⟩
theorem w_len_lst (ds : List D) : oLen [.fz (.lst ds)] = fun Q => Q (.fz (.int ds.length)) := by
  funext Q
  refine propext ⟨fun ⟨ts, e, h⟩ => ?_, fun h => ⟨_, rfl, by rw [List.length_map]; exact h⟩⟩
  cases e
  rw [List.length_map] at h
  exact h
theorem w_len_tup (ds : List D) : oLen [.fz (.tup ds)] = fun Q => Q (.fz (.int ds.length)) := by
  funext Q
  refine propext ⟨fun ⟨ts, e, h⟩ => ?_, fun h => ⟨_, rfl, by rw [List.length_map]; exact h⟩⟩
  cases e
  rw [List.length_map] at h
  exact h
theorem w_len_rol (ds : List D) : oLen [.fz (.rol ds)] = fun Q => Q (.fz (.int ds.length)) := by
  funext Q
  refine propext ⟨fun ⟨ts, e, h⟩ => ?_, fun h => ⟨_, rfl, by rw [List.length_map]; exact h⟩⟩
  cases e
  rw [List.length_map] at h
  exact h
theorem w_len_br (ts : List OT) : oLen [.br (.lst ts)] = fun Q => Q (.fz (.int ts.length)) := by
  funext Q
  refine propext ⟨fun ⟨ts, e, h⟩ => ?_, fun h => ⟨_, rfl, h⟩⟩
  cases e
  exact h
theorem w_len_nw (ts : List OT) : oLen [.nw (.lst ts)] = fun Q => Q (.fz (.int ts.length)) := by
  funext Q
  refine propext ⟨fun ⟨ts, e, h⟩ => ?_, fun h => ⟨_, rfl, h⟩⟩
  cases e
  exact h
theorem outs_nil (n : Nat) (e : Env) : outs [] n e = List.replicate n none := by
  unfold outs
  apply List.ext_getElem
  · simp
  · intro i h1 h2
    simp
theorem ffz_lst (ds : List D) : (Rs.nw (.lst (ds.map .leaf))).ffz = .fz (.lst ds) := by
  show (match (OT.lst (ds.map .leaf)).fzd with | some d => Rs.fz d | none => _) = _
  rw [fzd_lst]
theorem ffz_tup (ds : List D) : (Rs.nw (.tup (ds.map .leaf))).ffz = .fz (.tup ds) := by
  show (match (OT.tup (ds.map .leaf)).fzd with | some d => Rs.fz d | none => _) = _
  rw [fzd_tup]
theorem log2_lt {b : Int} (h : 0 < b) (h2 : b < 2 ^ 200) : b.natAbs.log2 < 9000 := by
  have h3 : b.natAbs < 2 ^ 200 := by omega
  have := (Nat.log2_lt (by omega : b.natAbs ≠ 0) (k := 200)).mpr h3
  omega
theorem at_get {ns : List Nat} {i : Int} {c : Nat} (e : i = (c : Int)) (h : c < ns.length) : at' (ns.map nI) i = some (nI (pk ns c)) := by
  subst e
  exact at_nat (by rw [List.getElem?_map, List.getElem?_eq_getElem h, pk_lt h] <;> rfl)
theorem at_last {α : Type} {xs : List α} {x : α} : at' (xs ++ [x]) (-1) = some x := by
  unfold at' ixN'
  rw [List.length_append, List.length_singleton, if_neg (by omega), if_pos (by omega)]
  have e : ((-1 : Int) + ((xs.length + 1 : Nat) : Int)).toNat = xs.length := by omega
  rw [e]
  simp
theorem ints_nI (ns : List Nat) : allOf D.int? (ns.map nI) = some (ns.map fun (n : Nat) => (n : Int)) := by
  have h := ints_of (ns.map fun (n : Nat) => (n : Int))
  rw [List.map_map] at h
  exact h
theorem sum_cast (ns : List Nat) : (ns.map fun (n : Nat) => (n : Int)).sum = ((ns.sum : Nat) : Int) := by
  induction ns with
  | nil => rfl
  | cons n ns ih => rw [List.map_cons, List.sum_cons, List.sum_cons, ih]; omega
end R
namespace R
open PySem
theorem kid_leafs (d : D) (ds : List D) : (ds.map OT.leaf).map (Rs.kid (.fz d)) = ds.map .fz := by rw [List.map_map] <;> rfl
theorem it_var_lst {env : Env} {i : Nat} {ds : List D} {Q : Bool → List Rs → Prop} (e : env[i]? = some (some (.fz (.lst ds)))) (h : Q true (ds.map .fz)) : mItL (mVar i) env Q := ⟨_, e, _, rfl, by
  show Q true ((ds.map OT.leaf).map (Rs.kid (.fz (.lst ds))))
  rw [kid_leafs]
  exact h⟩
theorem it_var_tup {env : Env} {i : Nat} {ds : List D} {Q : Bool → List Rs → Prop} (e : env[i]? = some (some (.fz (.tup ds)))) (h : Q true (ds.map .fz)) : mItL (mVar i) env Q := ⟨_, e, _, rfl, by
  show Q true ((ds.map OT.leaf).map (Rs.kid (.fz (.tup ds))))
  rw [kid_leafs]
  exact h⟩
theorem get_fz {ds : List D} {n : Nat} {r : Rs} (h : (ds.map Rs.fz)[n]? = some r) : ∃ d, ds[n]? = some d ∧ r = .fz d := by
  rw [List.getElem?_map] at h
  cases q : ds[n]? with
  | none => rw [q] at h; cases h
  | some d => rw [q] at h; cases h; exact ⟨d, rfl, rfl⟩
theorem get_nI {ns : List Nat} {n : Nat} {r : Rs} (h : ((ns.map nI).map Rs.fz)[n]? = some r) : n < ns.length ∧ r = .fz (nI (pk ns n)) := by
  obtain ⟨d, e, rfl⟩ := get_fz h
  rw [List.getElem?_map] at e
  cases q : ns[n]? with
  | none => rw [q] at e; cases e
  | some k =>
    rw [q] at e
    cases e
    obtain ⟨hl, e⟩ := List.getElem?_eq_some_iff.mp q
    exact ⟨hl, by rw [pk_lt hl, e]⟩
theorem lc_any {it : DI} {g : DG} {e : DE} {ws : List Nat} {env : Env} {Q : Rs → Prop} (xs : List Rs) (st : Bool) (out : Nat → OT) (hit : ∀ Q' : Bool → List Rs → Prop, Q' st xs → it env Q') (hl : xs.length ≤ sizeL)
    (he : ∀ n r, xs[n]? = some r → g (Env.wipe (Env.lent env) ws) r.arg fun e1 => e1.length = env.length ∧ e e1 fun y => ∃ ty, y.item = some ty ∧ (List.range n).map out ++ [ty] = (List.range (n + 1)).map out) (hQ : Q (.nw (.lst ((List.range xs.length).map out)))) : mLc it g mYes e ws env Q := by
  refine hit _ ⟨fun n acc => acc = (List.range n).map out, rfl, fun n r acc hr ha => ⟨?_, ?_⟩, fun acc ha => by rw [ha]; exact hQ⟩
  · rw [ha, List.length_map, List.length_range]
    have := (List.getElem?_eq_some_iff.mp hr).1
    omega
  · subst ha
    exact he n r hr
theorem item_snoc {out : Nat → OT} {n : Nat} : (List.range n).map out ++ [out n] = (List.range (n + 1)).map out := by rw [List.range_succ, List.map_append] <;> rfl
theorem range_map_pk {α : Type} (ns : List Nat) (f : Nat → α) : (List.range ns.length).map (fun n => f (pk ns n)) = ns.map f := by
  have := congrArg (List.map f) (map_pk_range ns)
  rw [List.map_map] at this
  exact this
theorem all_true (n : Nat) : ((List.replicate n true).all id) = true := by
  induction n with
  | zero => rfl
  | succ n ih => rw [List.replicate_succ, List.all_cons, ih] <;> rfl
end R
namespace R
open PySem
theorem w_eq_int (neg : Bool) (i j : Int) : oEq neg (.fz (.int i)) (.fz (.int j)) = fun Q => Q (.fz (.bl (decide (i = j) != neg))) := by
  funext Q
  have e : PyData.eqv (.int i) (.int j) = decide (i = j) := by
    rw [PyData.eqv]
    exact Bool.beq_eq_decide_eq i j
  refine propext ⟨fun ⟨p, q, e1, e2, h⟩ => ?_, fun h => ⟨_, _, rfl, rfl, by rw [e]; exact h⟩⟩
  cases e1
  cases e2
  rw [e] at h
  exact h
theorem eqvAll_of {f : D → Option PyData} (hf : ∀ d p, f d = some p → PyData.eqv p p = true) : ∀ {ds : List D} {ps : List PyData}, allOf f ds = some ps → PyData.eqvAll ps ps = true
  | [], ps, h => by cases h; rw [PyData.eqvAll]
  | d :: ds, ps, h => by
    rw [allOf] at h
    cases q : f d with
    | none => rw [q] at h; cases h
    | some p =>
      rw [q] at h
      cases q2 : allOf f ds with
      | none => rw [q2] at h; cases h
      | some qs =>
        rw [q2] at h
        cases h
        rw [PyData.eqvAll, hf d p q, eqvAll_of hf q2] <;> rfl
theorem pd_refl : ∀ (n : Nat) (d : D) (p : PyData), d.pd n = some p → PyData.eqv p p = true := by
  intro n
  induction n with
  | zero =>
    intro d p h
    cases d with
    | non => cases h; rw [PyData.eqv]
    | bl b => cases h; rw [PyData.eqv]; exact beq_self_eq_true b
    | int i => cases h; rw [PyData.eqv]; exact beq_self_eq_true i
    | str x =>
      have h : (if PyData.strOk x = true then some (PyData.str x) else none) = some p := h
      split at h
      · cases h; rw [PyData.eqv]; exact beq_self_eq_true x
      · cases h
    | lst _ => cases h
    | tup _ => cases h
    | rol _ => cases h
    | ins _ _ _ => cases h
    | vol _ _ => cases h
    | dct _ _ => cases h
    | any => cases h
    | adr _ => cases h
    | cod _ => cases h
    | obj _ _ => cases h
    | exn _ => cases h
  | succ n ih =>
    intro d p h
    cases d with
    | non => cases h; rw [PyData.eqv]
    | bl b => cases h; rw [PyData.eqv]; exact beq_self_eq_true b
    | int i => cases h; rw [PyData.eqv]; exact beq_self_eq_true i
    | str x =>
      have h : (if PyData.strOk x = true then some (PyData.str x) else none) = some p := h
      split at h
      · cases h; rw [PyData.eqv]; exact beq_self_eq_true x
      · cases h
    | lst ds =>
      have h : (allOf (D.pd n) ds).map .list = some p := h
      cases q : allOf (D.pd n) ds with
      | none => rw [q] at h; cases h
      | some ps => rw [q] at h; cases h; rw [PyData.eqv]; exact eqvAll_of ih q
    | tup ds =>
      have h : (allOf (D.pd n) ds).map .tuple = some p := h
      cases q : allOf (D.pd n) ds with
      | none => rw [q] at h; cases h
      | some ps => rw [q] at h; cases h; rw [PyData.eqv]; exact eqvAll_of ih q
    | rol ds =>
      have h : (allOf (D.pd n) ds).map .list = some p := h
      cases q : allOf (D.pd n) ds with
      | none => rw [q] at h; cases h
      | some ps => rw [q] at h; cases h; rw [PyData.eqv]; exact eqvAll_of ih q
    | ins _ _ _ => cases h
    | vol _ _ => cases h
    | dct _ _ => cases h
    | any => cases h
    | adr _ => cases h
    | cod _ => cases h
    | obj _ _ => cases h
    | exn _ => cases h
theorem oEq_same {neg : Bool} {x y : Rs} {Q : Rs → Prop} {d : D} {p : PyData} (hd : d.pd 8 = some p) (hx : x.t.pd 8 = some p) (hy : y.t.pd 8 = some p) (h : Q (.fz (.bl (true != neg)))) : oEq neg x y Q := ⟨p, p, hx, hy, by rw [pd_refl 8 d p hd]; exact h⟩
theorem pd_ints (n : Nat) (ns : List Nat) : allOf (D.pd n) (ns.map nI) = some (ns.map fun (k : Nat) => PyData.int (k : Int)) := by
  induction ns with
  | nil => rfl
  | cons k ns ih =>
    rw [List.map_cons, allOf, ih]
    cases n <;> rfl
theorem w_setP (C : Nat) (f : Str) (e : DE) (ks : List Str) (ts : List OT) (rest : Env) (Z : DK) : mSetP C f (plN 0) e (some (.nw (.ins C ks ts)) :: rest) Z =
    e (some (.nw (.ins C ks ts)) :: rest) fun r => ∃ t, r.item = some t ∧ ks.length < 1000 ∧ ks.length = ts.length ∧ Z.nx (some (.nw (.ins C (putK f t ks ts).1 (putK f t ks ts).2)) :: rest) := by
  unfold mSetP
  congr 1
  funext r
  refine propext ⟨fun ⟨_, t, ks', ts', h1, h2, h3, h4, h5⟩ => ?_, fun ⟨t, h1, h2, h3, h4⟩ => ⟨⟨_, rfl⟩, t, ks, ts, h1, rfl, h2, h3, h4⟩⟩
  have h2 : some (OT.ins C ks ts) = some (.ins C ks' ts') := h2
  cases h2
  exact ⟨t, h1, h3, h4, h5⟩
theorem pk0 {g : Str} {t : OT} : putK g t [] [] = ([g], [t]) := rfl
end R
namespace R
theorem s_seq {a b : DS} {env : Env} {Z : DK} (h : ∀ K : Env → Prop, (∀ e, b e Z → K e) → a env { Z with nx := K }) : mSeq a b env Z := h (fun e => b e Z) (fun _ q => q)
end R
namespace R
theorem gT2_arg {i j : Nat} {env : Env} {x y : D} {Q : Env → Prop} (h : Q ((env.set i (some (.fz x))).set j (some (.fz y)))) : gT [gN i, gN j] env (pairR x y).arg Q := ⟨_, rfl, rfl, trivial, trivial, h⟩
theorem gT2_fz {i j : Nat} {env : Env} {x y : D} {Q : Env → Prop} (h : Q ((env.set i (some (.fz x))).set j (some (.fz y)))) : gT [gN i, gN j] env (.fz (.tup [x, y])) Q := ⟨_, rfl, rfl, trivial, trivial, h⟩
theorem getD_nI {ns : List Nat} {n : Nat} (h : n < ns.length) : (ns.map nI).getD n .non = nI (pk ns n) := by
  rw [List.getD_eq_getElem?_getD, List.getElem?_map, List.getElem?_eq_getElem h, pk_lt h] <;> rfl
end R
namespace R
open PySem
theorem w_rep (x : Int) (k : Int) (Q : Rs → Prop) (h0 : 0 ≤ k) (h1 : k < 1000000) (h : ∀ d, d = D.lst (List.replicate k.toNat (.int x)) → Q (.nw (.lst ((List.replicate k.toNat (D.int x)).map .leaf)))) : oMul (Rs.nw (.lst [.leaf (.int x)])).ffz (.fz (.int k)) Q := by
  have e := ffz_lst [D.int x]
  rw [show (Rs.nw (.lst [OT.leaf (.int x)])) = Rs.nw (.lst ([D.int x].map OT.leaf)) from rfl, e]
  refine ⟨[.int x], rfl, by omega, by omega, by rw [List.length_singleton]; unfold sizeL; omega, ?_⟩
  have e2 : (List.replicate k.toNat [D.int x]).flatten = List.replicate k.toNat (D.int x) := by
    generalize k.toNat = n
    induction n with
    | zero => rfl
    | succ n ih => rw [List.replicate_succ, List.replicate_succ, List.flatten_cons, ih] <;> rfl
  rw [e2]
  exact h _ rfl
theorem fz_lst (ds : List D) : Fz (.lst (ds.map .leaf)) (.lst ds) := .lst (FzAll.leafs ds)
theorem fz_tup (ds : List D) : Fz (.tup (ds.map .leaf)) (.tup ds) := .tup (FzAll.leafs ds)
end R
namespace R
open PySem
theorem irng0 (n : Nat) : irng 0 ((n : Int) - 0).toNat = ((List.range n).map nI).map .leaf := by
  unfold irng
  rw [show ((n : Int) - 0).toNat = n by omega, List.map_map]
  refine List.map_congr_left fun i _ => ?_
  show OT.leaf (.int (0 + (i : Int))) = _
  rw [Int.zero_add] <;> rfl
theorem irng1 (n : Nat) : irng 1 ((n : Int) - 1).toNat = ((List.range' 1 (n - 1)).map nI).map .leaf := by
  unfold irng
  rw [show ((n : Int) - 1).toNat = n - 1 by omega, List.map_map]
  apply List.ext_getElem
  · rw [List.length_map, List.length_map, List.length_range, List.length_range']
  · intro i h1 h2
    rw [List.getElem_map, List.getElem_map, List.getElem_range, List.getElem_range']
    show OT.leaf (.int (1 + (i : Int))) = OT.leaf (.int ((1 + 1 * i : Nat) : Int))
    rw [Int.natCast_add, Nat.one_mul] <;> rfl
theorem leaves_nI (ns : List Nat) : leaves (ns.map fun n => OT.leaf (nI n)) = some (ns.map nI) := by
  have := leaves_map (ns.map nI)
  rw [List.map_map] at this
  exact this
theorem leafs_nI (ns : List Nat) : (ns.map fun n => OT.leaf (nI n)) = (ns.map nI).map .leaf := by rw [List.map_map] <;> rfl
theorem fillN_succ {e : Nat → Nat × List Nat} : ∀ (n : Nat) (p : List Nat × List Nat), fillN e (n + 1) p = ((fillN e n p).1 ++ [pk (fillN e n p).2 (e (fillN e n p).2.length).1], (e (fillN e n p).2.length).2.map (pk (fillN e n p).2))
  | 0, p => rfl
  | n + 1, p => by
    have := fillN_succ (e := e) n (p.1 ++ [pk p.2 (e p.2.length).1], (e p.2.length).2.map (pk p.2))
    exact this
theorem fill_at {sz fw : List Nat} {c n i : Nat} (C : Cups sz fw c) (hcl : c < sz.length) (hs : 1 ≤ pk sz c) (h : least sz (c + 1) ≤ n) (hi : i ≤ pk sz c) : (fillN (ent sz fw c) i ([], List.range n)).1.length = i ∧ (fillN (ent sz fw c) i ([], List.range n)).2.length = n - i ∧ (i < pk sz c → least sz c ≤ n - i) := by
  rw [least_succ hcl] at h
  have h1 : 1 ≤ least sz c := by unfold least; omega
  obtain ⟨a, b⟩ := fillN_perm (e := ent sz fw c) i ([], List.range n) (fun k hk => by
    show Pm (ent sz fw c ((List.range n).length - k)) ((List.range n).length - k)
    rw [List.length_range]
    exact ent_perm C (by omega)) (by show i ≤ (List.range n).length; rw [List.length_range]; omega)
  have b2 : (fillN (ent sz fw c) i ([], List.range n)).1.length = 0 + i := b
  have a2 := a.length_eq
  rw [List.length_append, List.length_append, List.length_range] at a2
  have a3 : (fillN (ent sz fw c) i ([], List.range n)).1.length + (fillN (ent sz fw c) i ([], List.range n)).2.length = 0 + n := a2
  exact ⟨by omega, by omega, fun h => by omega⟩
end R
namespace R
open PySem
theorem ixN_nat {n j : Nat} (h : j < n) : ixN' n (j : Int) = some j := by
  unfold ixN'
  rw [if_pos (by omega), if_pos (by omega), Int.toNat_natCast]
theorem get_leaf {ns : List Nat} {j : Nat} (h : j < ns.length) : (ns.map fun n => OT.leaf (nI n))[j]? = some (.leaf (nI (pk ns j))) := by
  rw [List.getElem?_map, List.getElem?_eq_getElem h, pk_lt h] <;> rfl
theorem erase_leaf (ns : List Nat) (j : Nat) : (ns.map fun n => OT.leaf (nI n)).eraseIdx j = (ns.eraseIdx j).map fun n => OT.leaf (nI n) := (erase_map _ ns j).symm
end R
namespace R
open PySem
theorem w_tuple_nw {ds : List D} {Q : Rs → Prop} (h : Q (.fz (.tup ds))) : oTuple [(Rs.nw (.lst (ds.map .leaf))).ffz] Q := by
  rw [ffz_lst]
  exact ⟨ds, rfl, h⟩
end R
namespace R
open PySem
theorem cut_take {α : Type} {xs : List α} {c : Nat} (h : c ≤ xs.length) : cut' xs none (some (c : Int)) = xs.take c := by
  simp only [cut', sIx', List.drop_zero, Nat.sub_zero]
  rw [if_neg (by omega), Int.toNat_natCast, Nat.min_eq_left h]
theorem cut_last {α : Type} (xs : List α) : cut' xs none (some (-1)) = xs.take (xs.length - 1) := by
  simp only [cut', sIx', List.drop_zero, Nat.sub_zero]
  rw [if_pos (by omega)]
  congr 1
  omega
theorem cut_from {α : Type} {xs : List α} {c : Nat} (h : c ≤ xs.length) : cut' xs (some (c : Int)) none = xs.drop c := by
  simp only [cut', sIx']
  rw [if_neg (by omega), Int.toNat_natCast, Nat.min_eq_left h, List.take_of_length_le]
  rw [List.length_drop]
  omega
theorem sum_pred : ∀ {l : List Nat}, (∀ s ∈ l, 1 ≤ s) → (l.map (· - 1)).sum + l.length = l.sum
  | [], _ => rfl
  | x :: l, h => by
    have ih := sum_pred (l := l) fun s m => h s (List.mem_cons_of_mem _ m)
    have := h x List.mem_cons_self
    rw [List.map_cons, List.sum_cons, List.sum_cons, List.length_cons]
    omega
theorem w_sum_tup {ns : List Nat} {Q : Rs → Prop} (h : Q (.fz (.int (ns.sum : Nat)))) : oSum [.fz (.tup (ns.map nI))] Q := ⟨_, ints_nI ns, by rw [sum_cast]; exact h⟩
end R
namespace R
open PySem
theorem kids_nw (ds : List D) (Q : Bool → List Rs → Prop) (h : Q true (ds.map .fz)) : ∃ ts, (Rs.nw (.lst (ds.map .leaf))).ffz.t.kids = some ts ∧ Q (Rs.nw (.lst (ds.map .leaf))).ffz.stays (ts.map (Rs.kid (Rs.nw (.lst (ds.map .leaf))).ffz)) := by
  rw [ffz_lst]
  exact ⟨_, rfl, by rw [kid_leafs]; exact h⟩
theorem snoc_leaf (ns : List Nat) (k : Nat) : (ns.map fun n => OT.leaf (nI n)) ++ [OT.leaf (nI k)] = (ns ++ [k]).map fun n => OT.leaf (nI n) := by rw [List.map_append] <;> rfl
theorem pk_snoc {l : List Nat} {x i : Nat} : pk (l ++ [x]) i = if i < l.length then pk l i else if i = l.length then x else 0 := by
  unfold pk
  rw [List.getD_eq_getElem?_getD, List.getD_eq_getElem?_getD, List.getElem?_append]
  by_cases h : i < l.length
  · rw [if_pos h, if_pos h]
  · rw [if_neg h, if_neg h]
    by_cases h2 : i = l.length
    · rw [if_pos h2, h2, Nat.sub_self] <;> rfl
    · rw [if_neg h2, List.getElem?_eq_none (by rw [List.length_singleton]; omega)] <;> rfl
end R
namespace R
open PySem
end R
namespace R
open PySem
theorem it_sl {i : Nat} {env : Env} {ds : List D} {lo hi : DO} {l h : Option Int} {Q : Bool → List Rs → Prop} (e : env[i]? = some (some (.fz (.lst ds)))) (hl : ∀ Q' : Option Int → Prop, Q' l → lo env Q') (hh : ∀ Q' : Option Int → Prop, Q' h → hi env Q') (q : Q true ((cut' ds l h).map .fz)) : mItL (mSl (mVar i) lo hi) env Q := by
  refine ⟨_, e, hl _ (hh _ ?_)⟩
  show oSl (.fz (.lst ds)) l h _
  refine ⟨ds, rfl, ?_⟩
  exact kids_nw _ (fun b xs => Q b xs) q
end R
namespace R
open PySem
theorem Run.inv {ss fs : List Nat} {m : Nat} {cts : List (List Nat)} {q : List Nat} {mE : Nat} {qE : List Nat} (r : Run ss fs m cts q mE qE) : ∃ x q0, q = x :: q0 ∧ ((∃ cs', casc ss fs cts x q0 = (cs', qE, some mE) ∧ m = 1) ∨ ∃ cs' q1 m', casc ss fs cts x q0 = (cs', q1, none) ∧ Run ss fs m' cs' q1 mE qE ∧ m = m' + 1) := by
  cases r with
  | done e h => exact ⟨_, _, rfl, .inl ⟨_, e, rfl⟩⟩
  | step e r => exact ⟨_, _, rfl, .inr ⟨_, _, _, e, r, rfl⟩⟩
end R
namespace R
theorem while_of {t : DT} {a : DS} {env : Env} {Z : DK} (Wm : Nat → Env → Prop) (m : Nat) (h0 : Wm m env) (step : ∀ m e, Wm m e → ∃ b : Bool, (∀ P : Bool → Prop, P b → t e P) ∧ (b = true → a e { Z with nx := fun e' => ∃ m', m' < m ∧ Wm m' e', ct := fun e' => ∃ m', m' < m ∧ Wm m' e', bk := Z.nx }) ∧ (b = false → Z.nx e)) : mWhile t a env Z :=
  ⟨Wm, ⟨m, h0⟩, fun m e h => by
    obtain ⟨b, h1, h2, h3⟩ := step m e h
    refine h1 _ ?_
    cases b with
    | true => rw [if_pos rfl]; exact h2 rfl
    | false => rw [if_neg Bool.false_ne_true]; exact h3 rfl⟩
end R
namespace R
open PySem
end R
namespace R
open PySem
end R
namespace R
open PySem
theorem ffz_lst' {ds : List D} : (Rs.nw (.lst (ds.map .leaf))).lend = .fz (.lst ds) := by
  unfold Rs.lend
  rw [ffz_lst] <;> rfl
end R
namespace R
open PySem
theorem mOr_ff {t u : DT} {env : Env} {Q : Bool → Prop} (h1 : ∀ P : Bool → Prop, P false → t env P) (h2 : ∀ P : Bool → Prop, P false → u env P) (q : Q false) : mOr t u env Q := h1 _ (by rw [if_neg Bool.false_ne_true]; exact h2 _ q)
theorem mIfS_ff {t : DT} {a b : DS} {env : Env} {Z : DK} (h1 : ∀ P : Bool → Prop, P false → t env P) (q : b env Z) : mIfS t a b env Z := h1 _ (by rw [if_neg Bool.false_ne_true]; exact q)
end R
namespace R
open PySem
end R
namespace R
open PySem PySem.Spec PyProof.Rows L2 in
theorem hu_R {A : Around} {k : Nat} (hr : Room k A) : A.units + 64 < cLine := hr.units
end R
namespace R
open PySem PySem.Spec PyProof.Rows L2
theorem isB_ok {K : PySem.W.Frag} {x : Str} (h : isB K x = true) (c : Cls K (He.ga K x)) : IsC K (He.ga K x) := by
  obtain ⟨h1, h2⟩ := He.ba h
  obtain ⟨h2, h3⟩ := He.ba h2
  obtain ⟨h3, h4⟩ := He.ba h3
  obtain ⟨h4, h5⟩ := He.ba h4
  obtain ⟨h5, h6⟩ := He.ba h5
  refine ⟨c, He.eqO_ok h1, He.eqO_ok h2, of_decide_eq_true h3, of_decide_eq_true h4, ?_, He.eqO_ok h5, fun t m => ?_⟩
  rotate_left
  · obtain ⟨a, b⟩ := He.ba (List.all_eq_true.mp h6 t m)
    exact ⟨of_decide_eq_true a, of_decide_eq_true b⟩
  unfold PySem.W.kitOne
  rw [if_pos (beq_self_eq_true _)]
end R
namespace R
open PySem PySem.Spec PyProof.Rows L2
abbrev tab0 : Obj := { cls := .none, data := .fields #[] }
structure TabsAt (K : PySem.W.Frag) (mg : Str → Option Value) (h : Heap) (T : List (Addr × Addr)) : Prop where
  e : ∀ p ∈ T, h.get? p.2 = some tab0
  n : ∀ p ∈ T, K.lookup p.2 = none
  c : ∀ p ∈ T, PySem.W.CodeHd h p.1 p.2
  b : ∃ (m : Addr) (o : Obj), mg "__builtins__" = some (.ref m) ∧ m ≠ builtinsNs ∧ h.get? m = some o ∧ o.cls = .type "module" ∧ o.dict = some builtinsNs ∧ o.data = .plain
theorem law_run {P : Program} {w : World} {K : PySem.W.Frag} {mg mb : Str → Option Value} {CX : CXT} {k : Nat} {fa a : Addr} {fd : FuncData} {x : Str} {sp : Sp} {s₁ : Shared} {vs : List Value} {ns : List Int} {T : List (Addr × Addr)}
    (KX : K.In s₁.heap) (hns : s₁.heap.Ns mainGlobals mg) (hb : s₁.heap.Ns builtinsNs mb) (hbb : ∀ x : Str, x ≠ "__name__" → mb x = bootBuiltins x) (hlim : s₁.heap.NoLimit) (hg : s₁.gens = #[]) (tk : TabsAt K mg s₁.heap T)
    (ha : s₁.heap.get? a = some { cls := .type "list", data := .seq vs.toArray }) (hi : IntsAre vs ns) (hl : ns.length ≤ sizeLine) (hr : Room k callerA)
    (F : ∀ base : Heap, K.In base → base.Ns mainGlobals mg → (∀ p ∈ T, LamX.TabB base mg p.1 p.2) → FnOk P w K mg base CX k fa fd [x] sp) (hbind : ∀ (s : Shared) (u : Value), BindsTo s fd ⟨[u], []⟩ [(x, u)])
    (hsp : ∀ H : Hp, (∀ p ∈ T, H p.2 = some (.tbl #[])) → SqL K H a (ns.map V.int) → sp [.ref a] H (fun v _ => v = .bl true) fun _ _ _ => False)
    (hCX : ∀ H e s', CX [] H s₁ (fun _ _ _ => False) e s' → False) :
    codeAny (model P w) callerA (.call (.ref fa) ⟨[.ref a], []⟩) (fun r s' => r = .ok (.ret (.bool true)) ∧ OldK s₁.heap s'.heap ∧ s'.os = s₁.os ∧ AllBare s'.gens) s₁ := by
  have rv := vals_ints hi
  let tb : List Addr := T.map (·.2)
  have at0 : ∀ b ∈ tb, s₁.heap.get? b = some tab0 := fun b m => by
    obtain ⟨p, hp, e⟩ := List.mem_map.mp m
    rw [← e]; exact tk.e p hp
  have nTa : a ∉ tb := fun m => by
    have z := (at0 a m).symm.trans ha
    cases (show Data.fields #[] = Data.seq vs.toArray _ from congrArg Obj.data (Option.some.inj z))
  -- H tells of the script and of the tables; what it does not tell of is the base
  have go : ∀ H : Hp, (∀ b u, H b = some u → (b = a ∧ K.lookup a = none ∧ u = .frz { cls := .type "list", data := .seq vs.toArray } (.lst (ns.map V.int))) ∨ b ∈ tb ∧ u = .tbl #[]) → (∀ b ∈ tb, H b = some (.tbl #[])) → SqL K H a (ns.map V.int) →
      codeAny (model P w) callerA (.call (.ref fa) ⟨[.ref a], []⟩) (fun r s' => r = .ok (.ret (.bool true)) ∧ OldK s₁.heap s'.heap ∧ s'.os = s₁.os ∧ AllBare s'.gens) s₁ := by
    intro H hH hT hS
    have out : ∀ {b : Addr} {o : Obj}, s₁.heap.get? b = some o → (b = a → K.lookup a ≠ none ∨ ∀ l n, o.data ≠ .seq l n) → (o.data = .fields #[] → b ∉ tb) → (hidT s₁.heap H).get? b = some o := fun {b o} e n1 n2 => hidT_get e (by
      cases q : H b with
      | none => rfl
      | some u =>
        rcases hH b u q with ⟨e1, e2, _⟩ | ⟨m, _⟩
        · rcases n1 e1 with z | z
          · exact absurd e2 z
          · rw [e1, ha] at e
            cases e
            exact absurd rfl (z _ _)
        · have e' := Option.some.inj (e.symm.trans (at0 b m))
          exact absurd m (n2 (by rw [e'])))
    have plain : ∀ {b : Addr} {o : Obj}, s₁.heap.get? b = some o → (∀ l n, o.data ≠ .seq l n) → o.data ≠ .fields #[] → (hidT s₁.heap H).get? b = some o := fun e h1 h2 => out e (fun _ => .inr h1) fun z => absurd z h2
    have ns' : ∀ {b : Addr} {m : Str → Option Value}, s₁.heap.Ns b m → (hidT s₁.heap H).Ns b m := fun ⟨o, es, ep, e, d, r⟩ => ⟨o, es, ep, plain e (fun _ _ z => by rw [d] at z; cases z) (fun z => by rw [d] at z; cases z), d, r⟩
    have KB : K.In (hidT s₁.heap H) := fun b o e => out (KX b o e) (fun z => .inl (by rw [← z, e]; exact fun w => nomatch w)) fun _ m => by
      obtain ⟨p, hp, z⟩ := List.mem_map.mp m
      have := tk.n p hp
      rw [z, e] at this
      cases this
    have hok : HOk P w H s₁.heap := fun b u e => by
      rcases hH b u e with ⟨rfl, _, rfl⟩ | ⟨m, rfl⟩
      · exact ⟨ha, by rw [List.length_map]; exact hl, vs, _, rv, ha⟩
      · exact at0 b m
    have TB : ∀ p ∈ T, LamX.TabB (hidT s₁.heap H) mg p.1 p.2 := fun p hp => by
      obtain ⟨m, o, b1, b2, b3, b4, b5, b6⟩ := tk.b
      obtain ⟨oc, us, file, tf, flags, tg, inF, text, tt, c1, c2, c3, c4, cr⟩ := tk.c p hp
      have nM : ∀ {c : Addr} {o : Obj}, s₁.heap.get? c = some o → (∀ es ep, o.data ≠ .dict es ep) → c ≠ mainGlobals := fun {c o} e z q => by
        obtain ⟨o2, es, ep, e2, d2, _⟩ := hns
        rw [q, e2] at e
        cases e
        exact z _ _ d2
      refine ⟨⟨oc, us, file, tf, flags, tg, inF, text, tt, plain c1 (fun _ _ z => by rw [c3] at z; cases z) (fun z => ?_), c2, c3, c4, cr⟩, ⟨m, o, b1, b2, nM b3 (fun _ _ z => by rw [b6] at z; cases z), fun z => ?_, plain b3 (fun _ _ z => by rw [b6] at z; cases z) (fun z => by rw [b6] at z; cases z), b4, b5, b6⟩, fun z => nM (tk.e p hp) (fun _ _ q => by cases q) z.symm⟩
      · rw [c3] at z
        cases z
        cases c4
      · have e := tk.e p hp
        rw [← z, b3] at e
        cases e
        cases b6
    have e0 : Env0 P w K mg (hidT s₁.heap H) callerA [] s₁ H := ⟨rfl, ⟨KB, ns' hns, ⟨mb, ns' hb, hbb⟩, hlim.elim fun m h => ⟨m, ns' h.1, h.2⟩⟩, fun b o e => of_hidT e, Nat.le_of_eq (hidT_size _ _), trivial, (fun b z => nomatch (show b ∈ ([] : List Addr) from z)), hok, .of_eq hg⟩
    refine codeAny_mono ((F _ KB (ns' hns) TB).run callerA [] s₁ H ⟨[.ref a], []⟩ [.ref a] [.ref a] _ _ hr e0 (hbind s₁ (.ref a)) (.cons rfl .nil) (hsp H (fun p hp => hT _ (List.mem_map.mpr ⟨p, hp, rfl⟩)) hS)) fun r s' h => ?_
    match r, h with
    | .error e, h => exact (hCX H e s' h).elim
    | .ok .next, h => exact (show False from h).elim
    | .ok .brk, h => exact (show False from h).elim
    | .ok .cont, h => exact (show False from h).elim
    | .ok (.ret u), ⟨v, H', os, bare, un, hok', r', q⟩ =>
      subst q
      obtain rfl : u = Value.bool true := r'
      have stay : ∀ b o, b ∉ tb → s₁.heap.get? b = some o → s'.heap.get? b = some o := fun b o nm e => by
        cases q : H b with
        | none => exact un.keep b o e q (by intro z; exact nomatch (show b ∈ ([] : List Addr) from z)) (by simp)
        | some u =>
          rcases hH b u q with ⟨_, _, rfl⟩ | ⟨m, _⟩
          · have e2 := (hok' b _ (un.frzs b _ _ q)).1
            rw [Option.some.inj (e.symm.trans (hok b _ q).1)]
            exact e2
          · exact absurd m nm
      have grow : ∀ b ∈ tb, ∃ l : Array Value, s'.heap.get? b = some { cls := .none, data := .fields l } := fun b m => by
        obtain ⟨l, z⟩ := un.tbls b #[] (hT b m)
        exact ⟨_, hok' b _ z⟩
      refine ⟨rfl, ⟨fun b o e => ?_, fun b o e => ?_⟩, os, bare⟩
      · by_cases m : b ∈ tb
        · obtain ⟨p, hp, rfl⟩ := List.mem_map.mp m
          obtain ⟨l, z⟩ := grow _ m
          obtain rfl := Option.some.inj (e.symm.trans (at0 _ m))
          exact .inr (.inl ⟨((tk.c p hp).tab (tk.e p hp)).isCodeTable, rfl, #[], l, rfl, by rw [Array.empty_append]; exact z⟩)
        · exact .inl (stay b o m e)
      · by_cases m : b ∈ tb
        · obtain ⟨l, z⟩ := grow b m
          exact ⟨_, z⟩
        · exact ⟨o, stay b o m e⟩
  cases hk : K.lookup a with
  | some o =>
    have e := KX a o hk
    rw [ha] at e
    cases e
    refine go (fun b => if b ∈ tb then some (.tbl #[]) else none) (fun b u z => .inr ?_) (fun b m => if_pos m) (.inr ⟨_, vs.toArray, _, hk, rfl, rfl, rfl, by rw [List.size_toArray, hi.length]; exact hl, by simpa using rv⟩)
    by_cases m : b ∈ tb
    · exact ⟨m, (Option.some.inj ((if_pos m).symm.trans z)).symm⟩
    · exact nomatch (if_neg m).symm.trans z
  | none =>
    refine go (fun b => if b ∈ tb then some (.tbl #[]) else if b = a then some (.frz { cls := .type "list", data := .seq vs.toArray } (.lst (ns.map V.int))) else none) (fun b u z => ?_) (fun b m => if_pos m) (.inl (.inr ⟨{ cls := .type "list", data := .seq vs.toArray }, (if_neg nTa).trans (if_pos rfl)⟩))
    by_cases m : b ∈ tb
    · exact .inr ⟨m, (Option.some.inj ((if_pos m).symm.trans z)).symm⟩
    · have z := (if_neg m).symm.trans z
      by_cases hb : b = a
      · exact .inl ⟨hb, hk, (Option.some.inj ((if_pos hb).symm.trans z)).symm⟩
      · exact nomatch (if_neg hb).symm.trans z
theorem walk_ofG {l : PySem.W.OpenLaw} {n k : Nat} {q : Program} {loose : List Str} {XP : (Str → Option Value) → Heap → Prop} {YP : World → Heap → Prop} {d : DefRec} {CX : World → CXT} {x : Str}
    (hn : l.most = some n) (hn2 : n ≤ sizeLine) (hdf : d.params.defaults = []) (hr : Room k callerA)
    (F : ∀ (w : World) (mg : Str → Option Value) (fa : Addr) (h : Heap), YP w h → h.Ns mainGlobals mg → mg d.name = some (.ref fa) →
      ∃ (K : PySem.W.Frag) (fd : FuncData) (sp : Sp) (T : List (Addr × Addr)), K.In h ∧ ((∃ (m : Addr) (o : Obj), mg "__builtins__" = some (.ref m) ∧ m ≠ builtinsNs ∧ h.get? m = some o ∧ o.cls = .type "module" ∧ o.dict = some builtinsNs ∧ o.data = .plain) → TabsAt K mg h T) ∧ (∀ (s : Shared) (u : Value), BindsTo s fd ⟨[u], []⟩ [(x, u)]) ∧
        (∀ (H : Hp) (a : Addr) (ns : List Int), ns.length ≤ n → (∀ p ∈ T, H p.2 = some (.tbl #[])) → SqL K H a (ns.map V.int) → sp [.ref a] H (fun v _ => v = .bl true) fun _ _ _ => False) ∧
        ∀ base : Heap, K.In base → base.Ns mainGlobals mg → (∀ p ∈ T, LamX.TabB base mg p.1 p.2) → FnOk l.prog w K mg base (CX w) k fa fd [x] sp)
    (hCX : ∀ (w : World) (H : Hp) (s : Shared) (e : Value) (s' : Shared), CX w [] H s (fun _ _ _ => False) e s' → False) :
    PySem.W.WalkO q loose XP YP l.row.toRowW d [] (fun f vs => PySem.call f vs) :=
  Att.attach_call hn hdf fun w _ s₁ mg _ fa _ _ _ _ a _ ns G Y _ _ _ hmg hobj hints hlen hg => by
    obtain ⟨K, fd, sp, T, KX, tk, hb, hsp, hF⟩ := F w mg fa _ Y G.T.g hmg
    exact law_run KX G.T.g G.T.b G.T.builtins G.T.nolimit hg (tk G.T.bmain) hobj hints (Nat.le_trans hlen hn2) hr hF hb (fun H hO hS => hsp H a ns hlen hO hS) fun H e s' => hCX w H s₁ e s'
end R
namespace R
open PySem PySem.Spec PyProof.Rows L2
theorem sp_end {K : PySem.W.Frag} {F : Spec1} {H : Hp} {a : Addr} {ns : List Int} {E : XK} (hT : ∀ P q, (lamTab K).lookup P = some q → H P = some (.tbl #[])) (hS : SqL K H a (ns.map .int)) (h : ∀ Q : Rs → Prop, Q (.fz (.bl true)) → F [some (.fz (.rol (ns.map D.int)))] Q) : spR K 1 F.io [.ref a] H (fun v _ => v = .bl true) E := by
  let W : Wd := ⟨fun b => if (lamTab K).lookup b = none then H b else none, fun b => ((lamTab K).lookup b).map fun q => (99, [.str q])⟩
  have rp : ∀ ns : List Int, RepAll K W (ns.map V.int) (ns.map D.int) := fun ns => by
    induction ns with
    | nil => exact .nil
    | cons n ns ih => exact .cons (.int n) ih
  have out : ∀ {o : HO}, H a = some o → (∀ c, o ≠ .tbl c) → W.G a = some o := fun {o} e n => by
    cases q : (lamTab K).lookup a with
    | none => exact (if_pos q).trans e
    | some x => exact absurd (Option.some.inj (e.symm.trans (hT _ _ q))) (n _)
  have hS2 : SqL K W.G a (ns.map .int) := by
    rcases hS with (q | ⟨o, q⟩) | q
    · exact .inl (.inl (out q fun _ z => by cases z))
    · exact .inl (.inr ⟨o, out q fun _ z => by cases z⟩)
    · exact .inr q
  refine ⟨rfl, W, _, [], [], fun r _ => r = .fz (.bl true), .fz (.rol hS2 (rp ns)) .nil, ⟨fun b o e => ?_, ⟨fun b k ps e => ?_, fun P q e => ?_⟩, List.nodup_nil, fun _ m => (by cases m), fun _ m => (by cases m)⟩, h _ rfl, ?_⟩
  · have e : (if (lamTab K).lookup b = none then H b else none) = some o := e
    split at e
    · exact e
    · cases e
  · have e : ((lamTab K).lookup b).map (fun q => (99, [D.str q])) = some (k, ps) := e
    cases q : (lamTab K).lookup b with
    | none => rw [q] at e; cases e
    | some x =>
      rw [q] at e
      cases e
      refine ⟨if_neg (by rw [q]; exact fun z => nomatch z), _, hT _ _ q, .inr ⟨rfl, x, #[], rfl, rfl, trivial, fun pos cv z => ?_⟩⟩
      cases (show none = some cv from z)
  · exact ⟨congrArg (Option.map fun q => (99, [D.str q])) e, #[], hT P q e⟩
  · intro r ss' e v W' H' fp' xf' _ _ _ _ ro
    subst e
    cases ro
    rfl
end R
namespace R
open PySem PySem.Spec PyProof.Rows L2
def oIn (neg : Bool) (x y : Rs) (Q : Rs → Prop) : Prop := ∃ ds, (y.els true = some ds ∨ y.els false = some ds) ∧
  ((∃ i ns, x = .fz (.int i) ∧ allOf D.int? ds = some ns ∧ Q (.fz (.bl (decide (i ∈ ns) != neg)))) ∨ ∃ z xs, x = .fz (.str z) ∧ allOf D.str? ds = some xs ∧ Q (.fz (.bl (decide (z ∈ xs) != neg))))
def oIdxF (ds : List D) (y : Rs) (Q : Rs → Prop) : Prop := ∃ j : Nat, ((∃ i ns, y = .fz (.int i) ∧ allOf D.int? ds = some ns ∧ ns[j]? = some i ∧ ∀ m, m < j → ns[m]? ≠ some i) ∨
  ∃ z xs, y = .fz (.str z) ∧ allOf D.str? ds = some xs ∧ xs[j]? = some z ∧ ∀ m, m < j → xs[m]? ≠ some z) ∧ Q (.fz (.int (j : Int)))
def mIdx (a b : DE) : DE := fun env Q => a env fun x => ∃ ds, x.ffz.els true = some ds ∧ b env fun y => oIdxF ds y.ffz Q
section
variable {X : Cx} {a b c : Expr} {x : Str} {ma mb mc : DE} {pos : Pos} {mr : DA} {pr : List Nat} {pl : DP}
theorem inV_int (i : Int) (ns : List Int) : inV (.int i) (ns.map V.int) = decide (i ∈ ns) := by
  unfold inV
  rw [List.any_map]
  induction ns with
  | nil => rfl
  | cons n ns ih =>
    rw [List.any_cons, ih]
    show ((n == i) || decide (i ∈ ns)) = decide (i ∈ n :: ns)
    by_cases h : n = i
    · subst h; simp
    · rw [beq_false_of_ne h, Bool.false_or]
      simp [List.mem_cons, Ne.symm h]
theorem inV_str (i : Str) (ns : List Str) : inV (.str i) (ns.map V.str) = decide (i ∈ ns) := by
  unfold inV
  rw [List.any_map]
  induction ns with
  | nil => rfl
  | cons n ns ih =>
    rw [List.any_cons, ih]
    show ((n == i) || decide (i ∈ ns)) = decide (i ∈ n :: ns)
    by_cases h : n = i
    · subst h; simp
    · rw [beq_false_of_ne h, Bool.false_or]
      simp [List.mem_cons, Ne.symm h]
theorem flat_ints (ns : List Int) : (ns.map V.int).all flatV = true := by
  rw [List.all_map]
  exact List.all_eq_true.mpr fun _ _ => rfl
theorem flat_strs (ns : List Str) : (ns.map V.str).all flatV = true := by
  rw [List.all_map]
  exact List.all_eq_true.mpr fun _ _ => rfl
theorem in_bne (neg b : Bool) : (if neg then !b else b) = (b != neg) := by cases neg <;> cases b <;> rfl
theorem r_in {σ : L2.St} {H : Hp} {Q : VK} {neg : Bool} (h : LP X.K (mOp (oIn neg) ma mb) σ H Q) : tOp (rIn X.K neg) (LP X.K ma) (LP X.K mb) σ H Q :=
  h.two fun W fp xf Q0 r1 r2 v1 v2 W2 H2 hr O o1 o2 => by
    obtain ⟨ds, hd, hr⟩ := hr
    have key : ∃ p vs, v2 = .ref p ∧ (SqL X.K H2 p vs ∨ SqT X.K H2 p vs) ∧ RepAll X.K W2 vs ds := by
      rcases hd with e | e
      · obtain ⟨p, vs, rfl, g, r⟩ := els_L e o2 O.S2
        exact ⟨p, vs, rfl, .inl (.of g), r⟩
      · obtain ⟨p, vs, rfl, g, r⟩ := els_T e o2 O.S2
        exact ⟨p, vs, rfl, .inr (.of g), r⟩
    obtain ⟨p, vs, rfl, g, r⟩ := key
    rcases hr with ⟨i, ns, rfl, e, q⟩ | ⟨i, ns, rfl, e, q⟩
    · have e3 := allOf_ints e r
      subst e3
      cases int_of o1
      refine ⟨p, _, rfl, g, rfl, flat_ints ns, ?_⟩
      rw [in_bne, inV_int]
      exact O.fin q (.bl _)
    · have e3 := allOf_strs e r
      subst e3
      cases str_of o1
      refine ⟨p, _, rfl, g, rfl, flat_strs ns, ?_⟩
      rw [in_bne, inV_str]
      exact O.fin q (.bl _)
theorem dt_notIn (ha : PE X a (LP X.K ma)) (hb : PE X b (LP X.K mb)) (hm : behindInMarks .NotIn b = false := by rfl) : PT X (.Compare a [.NotIn] [b] pos) (LT X.K (mT (mOp (oIn true) ma mb))) := dt_of op_notIn_seq (fun _ _ _ h => r_in h) ha hb hm
theorem map_get_ne {α β : Type} {f : α → β} {xs : List α} {m : Nat} {z : β} (h : (xs.map f)[m]? = some z) : ∃ y, xs[m]? = some y ∧ z = f y := by
  rw [List.getElem?_map] at h
  cases e : xs[m]? with
  | none => rw [e] at h; cases h
  | some y => rw [e] at h; cases h; exact ⟨y, rfl, rfl⟩
theorem dp_index (ha : PE X a (LP X.K ma)) (hb : PE X b (LP X.K mb)) {apos p2 : Pos} (hst : starEach [b] X.env = (false, eval b X.env) :: starEach [] X.env := by rfl)
    (hbase : attributeBase a "index" X.env (eval a X.env) = eval a X.env := by rfl) (hfew : ((backTo p2 (starEach [b] X.env)).all (fun x => !x.1) && (backToKw p2 (keywordEach [] X.env)).all (fun x => x.1.isSome)
      && decide ([b].length + ([] : List Keyword).length + (if ([] : List Keyword).isEmpty then 0 else 1) < 30)) = true := by rfl) (hline : (apos.endLine == p2.line) = true := by rfl) :
    PE X (.Call (.Attribute a "index" apos) [b] [] p2) (LP X.K (mIdx ma mb)) := pe_imp (pe_bm PySem.F.plainAttrs_list PySem.F.slot_list_index PySem.F.type_list_index mt_index ha (da_cons hb da_nil hst) hbase hfew hline hst) fun σ H Q h => by
  obtain ⟨W, env, fp, xf, Q0, E, S, hm, k⟩ := h
  refine ⟨W, env, fp, xf, _, E, S, hm, fun r1 ⟨ds, e, h1⟩ v1 W1' H1 t1' S1' o1' => ?_⟩
  obtain ⟨W1, t1, S1, _, o1⟩ := ffz_ok S t1' S1' o1'
  obtain ⟨p, vs, rfl, g, rs⟩ := els_L e o1 S1
  refine ⟨.inl ⟨rfl, _, .of g⟩, ?_⟩
  refine LA.next (m := mCons mb mNil) (E.keep S t1) S1 (Q1 := one1 fun r => oIdxF ds r.ffz Q0) h1 fun us hr vs2 W2' H2 g2 t2' S2' E2 os G => ?_
  obtain ⟨r2, rfl, hq⟩ := one1_inv hr
  obtain ⟨v2, rfl, o2'⟩ := os.one G
  obtain ⟨W2, t2, S2, _, o2⟩ := ffz_ok S1 t2' S2' o2'
  have l := t2.le S1 fun _ m => by cases m
  have o3 := o1.keep t2 l
  obtain ⟨p', vs', ep, g', rs'⟩ := els_L e o3 S2
  cases ep
  obtain ⟨j, hj, q⟩ := hq
  have fin : Q (.int (j : Nat)) H2 := k _ q _ W2 H2 (t1.tr0 t2) S2 (.int _)
  rcases hj with ⟨i, ns, e2, e3, hj, hn⟩ | ⟨i, ns, e2, e3, hj, hn⟩
  · have e4 := allOf_ints e3 rs'
    subst e4
    rw [e2] at o2
    cases int_of o2
    refine ⟨p, _, .int i, j, .int i, rfl, rfl, .of g', rfl, flat_ints ns, by rw [List.getElem?_map, hj] <;> rfl, beq_self_eq_true i, fun m z' hm hz => ?_, fin⟩
    obtain ⟨y, ey, rfl⟩ := map_get_ne hz
    refine beq_false_of_ne fun z => hn m hm ?_
    rw [ey, z]
  · have e4 := allOf_strs e3 rs'
    subst e4
    rw [e2] at o2
    cases str_of o2
    refine ⟨p, _, .str i, j, .str i, rfl, rfl, .of g', rfl, flat_strs ns, by rw [List.getElem?_map, hj] <;> rfl, beq_self_eq_true i, fun m z' hm hz => ?_, fin⟩
    obtain ⟨y, ey, rfl⟩ := map_get_ne hz
    refine beq_false_of_ne fun z => hn m hm ?_
    rw [ey, z]
end
end R
namespace R
open PySem
theorem if_of {t : DT} {a b : DS} {env : Env} {Z : DK} (c : Bool) (ht : ∀ P : Bool → Prop, P c → t env P) (h1 : c = true → a env Z) (h0 : c = false → b env Z) : mIfS t a b env Z := ht _ (by
  cases c with
  | true => rw [if_pos rfl]; exact h1 rfl
  | false => rw [if_neg Bool.false_ne_true]; exact h0 rfl)
theorem ent_congr {sz fw sz' fw' : List Nat} : ∀ {c : Nat}, (∀ i, i < c → pk sz i = pk sz' i) → (∀ i, i < c → pk fw i = pk fw' i) → ∀ n, ent sz fw c n = ent sz' fw' c n
  | 0, _, _, _ => rfl
  | c + 1, h1, h2, n => by
    have ih : ent sz fw c = ent sz' fw' c := funext (ent_congr (fun i hi => h1 i (by omega)) fun i hi => h2 i (by omega))
    rw [ent, ent, ih, h1 c (by omega), h2 c (by omega)]
theorem pk_app {l m : List Nat} {i : Nat} (h : i < l.length) : pk (l ++ m) i = pk l i := by
  rw [pk_lt h, pk_lt (by rw [List.length_append]; omega), List.getElem_append_left h]
theorem pk_app2 {l m : List Nat} {i : Nat} (h : i < m.length) : pk (l ++ m) (l.length + i) = pk m i := by
  rw [pk_lt h, pk_lt (by rw [List.length_append]; omega), List.getElem_append_right (by omega)]
  congr 1
  omega
end R
namespace R
open PySem
end R
namespace R
open PySem PySem.Spec PyProof.Rows L2
structure MAtV (K : PySem.W.Frag) (W : Wd) (σ : L2.St) (i : Nat) (js : List Nat) (a : Addr) (k : Nat) (ps : List D) (keys : List Key) : Prop where
  o : σ[i]? = some (some (.ref a))
  s : W.S a = some (k + 1, ps)
  k : VarsAt σ js (keys.map kV)
section
variable {K : PySem.W.Frag} {W W1 W2 W' : Wd} {H H1 H2 H' : Hp} {fp xf : List Addr} {σ σ1 : L2.St} {env : Env} {i k : Nat} {js : List Nat} {a : Addr} {ps : List D} {keys : List Key}
theorem MAtV.keep (M : MAtV K W σ i js a k ps keys) (l : W.Le W') (hi : σ1[i]? = σ[i]?) (hj : ∀ j ∈ js, σ1[j]? = σ[j]?) : MAtV K W' σ1 i js a k ps keys := ⟨by rw [hi]; exact M.o, l.s _ _ M.s, M.k.same hj⟩
end
section
variable {X : Cx} {tg a b c o o1 o3 : Expr} {ma mb mc : DE} {pos p1 : Pos} {ta tb : DT} {st : Stmt} {rest s1 s2 : List Stmt} {m m1 m2 : DS} {pr pr0 : List Nat} {pl : DP} {x f : Str} {es es1 es3 : List Expr} {i : Nat} {js : List Nat}
end
def mPar (i j : Nat) (a b : DE) : DS := fun env D => a env fun x => b env fun y => ∃ d e, x = .fz d ∧ y = .fz e ∧ D.nx ((env.set i (some (.fz d))).set j (some (.fz e)))
def par2 (P : Rs → Rs → Prop) : List Rs → Prop
  | [r, s] => P r s
  | _ => False
theorem par2_inv {P : Rs → Rs → Prop} : ∀ {rs : List Rs}, par2 P rs → ∃ r s, rs = [r, s] ∧ P r s
  | [r, s], h => ⟨r, s, rfl, h⟩
  | [], h => h.elim
  | [_], h => h.elim
  | _ :: _ :: _ :: _, h => h.elim
section
variable {X : Cx} {a b : Expr} {ma mb : DE} {pos : Pos} {pr : List Nat} {x y : Str}
theorem ds_par {i j : Nat} {px py pt : Pos} {kt k2 pt2} (hc : X.calm = true) (hN : X.N.Nodup) (hi : X.N[i]? = some x) (hj : X.N[j]? = some y) (hij : i ≠ j) (ha : PE X a (LP X.K ma)) (hb : PE X b (LP X.K mb))
    (hx : X.env.scope.names.lookup x = some .local := by rfl) (hy : X.env.scope.names.lookup y = some .local := by rfl) (hp : i ∉ pr := by decide) (hp2 : j ∉ pr := by decide)
    (h1 : starEach [a, b] X.env = (false, eval a X.env) :: starEach [b] X.env := by rfl) (h2 : starEach [b] X.env = (false, eval b X.env) :: starEach [] X.env := by rfl)
    (hw : swappedStores [.Tuple [.Name x px, .Name y py] kt pt] (.Tuple [a, b] k2 pt2) X.env = pure (some [x, y]) := by rfl) (hs : swapsWithSole [.Tuple [.Name x px, .Name y py] kt pt] (.Tuple [a, b] k2 pt2) pos.line X.env = pure false := by rfl) :
    PS X (.Assign [.Tuple [.Name x px, .Name y py] kt pt] (.Tuple [a, b] k2 pt2) pos) (LS X.K ex pr (mPar i j ma mb)) :=
  ps_imp (ps_par hc hN hi hj hij hx hy (da_cons ha (da_cons hb da_nil h2) h1) hw hs) fun D σ H h => by
  obtain ⟨W, env, fp, xf, K0, E, S, hm, nx, bk, ct, rt⟩ := h
  refine LA.next (m := mCons ma (mCons mb mNil)) E S (Q1 := par2 fun r s => ∃ d e, r = .fz d ∧ s = .fz e ∧ K0.nx ((env.set i (some (.fz d))).set j (some (.fz e)))) hm fun rs hr vs W1 H1 g t1 S1 E1 os F => ?_
  obtain ⟨r, s, rfl, d, e, rfl, rfl, hn⟩ := par2_inv hr
  obtain ⟨v, w, rfl, o1, o2⟩ := os.two F
  obtain ⟨fp2, xf2, P2⟩ := Post.store (i := i) (pr := pr) (r := .fz d) (v := v) S1 .refl E1 S1 o1 trivial hp
  obtain ⟨fp3, xf3, P3⟩ := Post.store (i := j) (pr := pr) (r := .fz e) (v := w) P2.S .refl P2.E P2.S o2 trivial hp2
  exact ⟨v, w, rfl, nx _ hn _ W1 H1 fp3 xf3 (((Post.pure t1 E1 S1).trans P2).trans P3)⟩
theorem ds_aug_mul {i : Nat} {p : Pos} (hN : X.N.Nodup) (hi : X.N[i]? = some x) (ha : PE X a (LP X.K ma)) (hx : Loc X.env.scope x := by first | exact Or.inl rfl | exact Or.inr rfl) (hp : i ∉ pr := by decide)
    (hf : X.fn x = true ∨ X.env.scope.names.lookup x = some .local := by first | exact .inl rfl | exact .inr rfl | assumption) : PS X (.AugAssign (.Name x p) .Mult a pos) (LS X.K ex pr (mAug i oMulI ma)) := ds_augI iop_mul (fun _ _ c => c) (fun _ _ _ => rfl) hN hi ha hx hp hf
end
end R
namespace R
open PySem
def lastN (c : List Nat) : Nat := pk c (c.length - 1)
def tgt (ord : List Nat) (k : Nat) : Nat := ord.idxOf k
def cycLoop (t : Nat → Nat) (i : Nat) : Nat → List Nat → List Nat
  | 0, c => c
  | f + 1, c => if t (lastN c) = i then c else cycLoop t i f (c ++ [t (lastN c)])
def cycleOf (t : Nat → Nat) (n i : Nat) : List Nat := cycLoop t i (n - 1) [i]
def cycs (t : Nat → Nat) (n : Nat) : Nat → List (List Nat)
  | 0 => []
  | i + 1 => if i ∈ (cycs t n i).flatten then cycs t n i else cycs t n i ++ [cycleOf t n i]
structure Tg (t : Nat → Nat) (n : Nat) : Prop where
  lt : ∀ x, x < n → t x < n
  inj : ∀ x y, x < n → y < n → t x = t y → x = y
theorem nodup_pk {c : List Nat} (h : c.Nodup) {i j : Nat} (hi : i < c.length) (hj : j < c.length) (e : pk c i = pk c j) : i = j := by
  rw [pk_lt hi, pk_lt hj] at e
  exact (List.getElem_inj h).mp e
theorem mem_pk {c : List Nat} {x : Nat} (h : x ∈ c) : ∃ j, j < c.length ∧ pk c j = x := by
  obtain ⟨j, hj, e⟩ := List.getElem_of_mem h
  exact ⟨j, hj, by rw [pk_lt hj]; exact e⟩
theorem nodup_le {n : Nat} : ∀ {c : List Nat}, c.Nodup → (∀ x ∈ c, x < n) → c.length ≤ n := by
  induction n with
  | zero =>
    intro c _ h
    cases c with
    | nil => exact Nat.le_refl _
    | cons x c => exact absurd (h x List.mem_cons_self) (Nat.not_lt_zero _)
  | succ n ih =>
    intro c nd h
    have h1 := ih (c := c.erase n) (nd.erase n) fun x m => by
      obtain ⟨a, b⟩ := nd.mem_erase_iff.mp m
      have := h x b
      omega
    by_cases m : n ∈ c
    · have := List.length_erase_of_mem m
      omega
    · rw [List.erase_of_not_mem m] at h1
      omega
theorem perm_range : ∀ {n : Nat} {c : List Nat}, c.Nodup → (∀ x, x ∈ c ↔ x < n) → c.Perm (List.range n)
  | 0, c, _, h => by
    cases c with
    | nil => exact .refl _
    | cons x c => exact absurd ((h x).mp List.mem_cons_self) (Nat.not_lt_zero _)
  | n + 1, c, nd, h => by
    have ih := perm_range (n := n) (c := c.erase n) (nd.erase n) fun x => by
      rw [nd.mem_erase_iff, h x]
      omega
    refine (List.perm_cons_erase ((h n).mpr (Nat.lt_succ_self n))).trans ((ih.cons n).trans ?_)
    rw [List.range_succ]
    exact (List.perm_append_comm (l₁ := [n]) (l₂ := List.range n))
theorem tgt_spec {ord : List Nat} {k : Nat} (h : k ∈ ord) : tgt ord k < ord.length ∧ pk ord (tgt ord k) = k := by
  have h1 : ord.idxOf k < ord.length := List.idxOf_lt_length_iff.mpr h
  exact ⟨h1, by rw [tgt, pk_lt h1]; exact List.getElem_idxOf h1⟩
theorem tgt_tg {ord : List Nat} (p : ord.Perm (List.range ord.length)) : Tg (tgt ord) ord.length := by
  have mem : ∀ x, x < ord.length → x ∈ ord := fun x h => p.mem_iff.mpr (List.mem_range.mpr h)
  refine ⟨fun x h => (tgt_spec (mem x h)).1, fun x y hx hy e => ?_⟩
  rw [← (tgt_spec (mem x hx)).2, ← (tgt_spec (mem y hy)).2, e]
structure Orb (t : Nat → Nat) (n i : Nat) (c : List Nat) : Prop where
  h0 : 0 < c.length
  hd : pk c 0 = i
  nx : ∀ j, j + 1 < c.length → pk c (j + 1) = t (pk c j)
  nd : c.Nodup
  lt : ∀ x ∈ c, x < n
section
variable {t : Nat → Nat} {n i : Nat} {c : List Nat}
theorem Orb.start (h : i < n) : Orb t n i [i] := ⟨by simp, rfl, fun j hj => by simp at hj, by simp, fun x m => by rw [List.mem_singleton.mp m]; exact h⟩
theorem Orb.len (o : Orb t n i c) : c.length ≤ n := nodup_le o.nd o.lt
theorem Orb.last (o : Orb t n i c) : lastN c ∈ c := pk_mem (by have := o.h0; omega)
theorem Orb.fresh (T : Tg t n) (o : Orb t n i c) (h : t (lastN c) ≠ i) : t (lastN c) ∉ c := by
  intro m
  obtain ⟨j, hj, e⟩ := mem_pk m
  cases j with
  | zero => exact h (by rw [← e]; exact o.hd)
  | succ j =>
    rw [o.nx j hj] at e
    have e2 := T.inj _ _ (o.lt _ (pk_mem (by omega))) (o.lt _ o.last) e
    have h0 := o.h0
    have := nodup_pk o.nd (by omega) (by omega) e2
    omega
theorem Orb.step (T : Tg t n) (o : Orb t n i c) (h : t (lastN c) ≠ i) : Orb t n i (c ++ [t (lastN c)]) := by
  have f := o.fresh T h
  have h0 := o.h0
  refine ⟨by rw [List.length_append]; omega, by rw [pk_app h0]; exact o.hd, fun j hj => ?_, ?_, fun x m => ?_⟩
  · rw [List.length_append, List.length_singleton] at hj
    by_cases q : j + 1 < c.length
    · rw [pk_app q, pk_app (by omega)]
      exact o.nx j q
    · have e : j + 1 = c.length + 0 := by omega
      rw [e, pk_app2 (by simp), pk_app (by omega), show j = c.length - 1 by omega] <;> rfl
  · rw [List.nodup_append]
    exact ⟨o.nd, by simp, fun a m b m2 e => f (by rw [← List.mem_singleton.mp m2, ← e]; exact m)⟩
  · rcases List.mem_append.mp m with m | m
    · exact o.lt x m
    · rw [List.mem_singleton.mp m]
      exact T.lt _ (o.lt _ o.last)
theorem cycLoop_end (h : t (lastN c) = i) : ∀ f, cycLoop t i f c = c
  | 0 => rfl
  | f + 1 => by rw [cycLoop, if_pos h]
structure Cyc (t : Nat → Nat) (n i : Nat) (c : List Nat) : Prop extends Orb t n i c where
  ls : t (lastN c) = i
theorem cycLoop_cyc (T : Tg t n) : ∀ {f : Nat} {c : List Nat}, Orb t n i c → c.length + f = n → Cyc t n i (cycLoop t i f c)
  | 0, c, o, h => by
    refine ⟨o, ?_⟩
    by_cases q : t (lastN c) = i
    · exact q
    · have := (o.step T q).len
      rw [List.length_append, List.length_singleton] at this
      omega
  | f + 1, c, o, h => by
    rw [cycLoop]
    by_cases q : t (lastN c) = i
    · rw [if_pos q]
      exact ⟨o, q⟩
    · rw [if_neg q]
      exact cycLoop_cyc T (o.step T q) (by rw [List.length_append, List.length_singleton]; omega)
theorem cycleOf_cyc (T : Tg t n) (h : i < n) : Cyc t n i (cycleOf t n i) := cycLoop_cyc T (.start h) (by simp; omega)
theorem Cyc.cl (o : Cyc t n i c) {x : Nat} (m : x ∈ c) : t x ∈ c := by
  obtain ⟨j, hj, rfl⟩ := mem_pk m
  by_cases q : j + 1 < c.length
  · rw [← o.nx j q]
    exact pk_mem q
  · have e : j = c.length - 1 := by omega
    have := o.ls
    rw [e]
    show t (lastN c) ∈ c
    rw [this, ← o.hd]
    exact pk_mem o.h0
theorem Cyc.back (T : Tg t n) (o : Cyc t n i c) {x : Nat} (hx : x < n) (m : t x ∈ c) : x ∈ c := by
  obtain ⟨j, hj, e⟩ := mem_pk m
  cases j with
  | zero =>
    rw [o.hd, ← o.ls] at e
    have := T.inj _ _ (o.lt _ o.last) hx e
    rw [← this]
    exact o.last
  | succ j =>
    rw [o.nx j hj] at e
    have := T.inj _ _ (o.lt _ (pk_mem (by omega))) hx e
    rw [← this]
    exact pk_mem (by omega)
theorem Orb.off {S : List Nat} (back : ∀ x, x < n → t x ∈ S → x ∈ S) (o : Orb t n i c) (h : i ∉ S) : ∀ x ∈ c, x ∉ S := by
  have key : ∀ j, j < c.length → pk c j ∉ S := by
    intro j
    induction j with
    | zero => intro _; rw [o.hd]; exact h
    | succ j ih =>
      intro hj m
      rw [o.nx j hj] at m
      exact ih (by omega) (back _ (o.lt _ (pk_mem (by omega))) m)
  intro x m
  obtain ⟨j, hj, rfl⟩ := mem_pk m
  exact key j hj
structure CS (t : Nat → Nat) (n i : Nat) (cs : List (List Nat)) : Prop where
  all : ∀ c ∈ cs, ∃ j, j < i ∧ Cyc t n j c ∧ ∀ x ∈ c, j ≤ x
  nd : cs.flatten.Nodup
  cov : ∀ x, x < i → x ∈ cs.flatten
  st : (cs.map fun c => pk c 0).Pairwise (· < ·)
theorem CS.lt {cs : List (List Nat)} (s : CS t n i cs) {x : Nat} (m : x ∈ cs.flatten) : x < n := by
  obtain ⟨c, hc, mx⟩ := List.mem_flatten.mp m
  obtain ⟨j, _, o, _⟩ := s.all c hc
  exact o.lt x mx
theorem CS.back (T : Tg t n) {cs : List (List Nat)} (s : CS t n i cs) {x : Nat} (hx : x < n) (m : t x ∈ cs.flatten) : x ∈ cs.flatten := by
  obtain ⟨c, hc, mx⟩ := List.mem_flatten.mp m
  obtain ⟨j, _, o, _⟩ := s.all c hc
  exact List.mem_flatten.mpr ⟨c, hc, o.back T hx mx⟩
theorem cycs_ok (T : Tg t n) : ∀ {i : Nat}, i ≤ n → CS t n i (cycs t n i)
  | 0, _ => ⟨fun c m => (by cases m), (by simp [cycs]), fun x h => absurd h (Nat.not_lt_zero _), (by simp [cycs])⟩
  | i + 1, h => by
    have s := cycs_ok T (i := i) (by omega)
    rw [cycs]
    split
    · rename_i m
      refine ⟨fun c hc => ?_, s.nd, fun x hx => ?_, s.st⟩
      · obtain ⟨j, a, b⟩ := s.all c hc
        exact ⟨j, by omega, b⟩
      · by_cases q : x = i
        · rw [q]; exact m
        · exact s.cov x (by omega)
    · rename_i m
      have o := cycleOf_cyc T (show i < n by omega)
      have off := o.toOrb.off (fun x hx => s.back T hx) m
      refine ⟨fun c hc => ?_, ?_, fun x hx => ?_, ?_⟩
      · rcases List.mem_append.mp hc with hc | hc
        · obtain ⟨j, a, b⟩ := s.all c hc
          exact ⟨j, by omega, b⟩
        · rw [List.mem_singleton.mp hc]
          refine ⟨i, by omega, o, fun x mx => ?_⟩
          have := off x mx
          apply Classical.byContradiction
          intro q
          exact this (s.cov x (by omega))
      · rw [List.flatten_append, List.nodup_append]
        refine ⟨s.nd, by simpa using o.nd, fun a ma b mb e => ?_⟩
        rw [List.flatten_singleton] at mb
        exact off b mb (by rw [← e]; exact ma)
      · rw [List.flatten_append, List.flatten_singleton, List.mem_append]
        by_cases q : x = i
        · right
          have w := pk_mem o.h0
          rw [o.hd] at w
          rw [q]
          exact w
        · left
          exact s.cov x (by omega)
      · rw [List.map_append, List.pairwise_append]
        refine ⟨s.st, by simp, fun a ma b mb => ?_⟩
        obtain ⟨c, hc, rfl⟩ := List.mem_map.mp ma
        obtain ⟨j, hj, oc, _⟩ := s.all c hc
        have : b = i := by
          simp at mb
          rw [mb]
          exact o.hd
        show pk c 0 < b
        rw [this, oc.hd]
        exact hj
theorem cycs_perm (T : Tg t n) : (cycs t n n).flatten.Perm (List.range n) := by
  have s := cycs_ok T (Nat.le_refl n)
  exact perm_range s.nd fun x => ⟨s.lt, s.cov x⟩
end
def lcmL (ks : List Nat) : Nat := ks.foldl Nat.lcm 1
theorem lcmL_snoc (ks : List Nat) (k : Nat) : lcmL (ks ++ [k]) = Nat.lcm (lcmL ks) k := by unfold lcmL; rw [List.foldl_append] <;> rfl
def facN : Nat → Nat
  | 0 => 1
  | n + 1 => facN n * (n + 1)
theorem lcmL_pos {ks : List Nat} (h : ∀ k ∈ ks, 1 ≤ k) : 1 ≤ lcmL ks := by
  have key : ∀ (ks : List Nat) (a : Nat), 1 ≤ a → (∀ k ∈ ks, 1 ≤ k) → 1 ≤ ks.foldl Nat.lcm a := by
    intro ks
    induction ks with
    | nil => intro a h _; exact h
    | cons k ks ih => intro a h hk; exact ih _ (Nat.lcm_pos h (hk k List.mem_cons_self)) fun x m => hk x (List.mem_cons_of_mem _ m)
  exact key ks 1 (Nat.le_refl _) h
theorem le_two_pow : ∀ {k : Nat}, 1 ≤ k → k ≤ 2 ^ (k - 1)
  | 1, _ => by decide
  | k + 2, _ => by
    have := le_two_pow (k := k + 1) (by omega)
    have e : k + 2 - 1 = (k + 1 - 1) + 1 := by omega
    rw [e, Nat.pow_succ]
    omega
theorem prodL_le {sz : List Nat} (h : ∀ s ∈ sz, 1 ≤ s) : 1 ≤ prodL sz ∧ prodL sz ≤ 2 ^ (sz.sum - sz.length) := by
  have key : ∀ (sz : List Nat) (a e : Nat), 1 ≤ a → a ≤ 2 ^ e → (∀ k ∈ sz, 1 ≤ k) → 1 ≤ sz.foldl (· * ·) a ∧ sz.foldl (· * ·) a ≤ 2 ^ (e + (sz.sum - sz.length)) ∧ sz.length ≤ sz.sum := by
    intro sz
    induction sz with
    | nil => intro a e h0 h _; exact ⟨h0, by simpa using h, Nat.le_refl _⟩
    | cons k sz ih =>
      intro a e h0 h hk
      have h1 := hk k List.mem_cons_self
      have q2 := le_two_pow h1
      have q4 : a * k ≤ 2 ^ (e + (k - 1)) := by rw [Nat.pow_add]; exact Nat.mul_le_mul h q2
      obtain ⟨a1, a2, a3⟩ := ih (a * k) (e + (k - 1)) (Nat.mul_pos h0 h1) q4 fun x m => hk x (List.mem_cons_of_mem _ m)
      refine ⟨a1, ?_, by rw [List.length_cons, List.sum_cons]; omega⟩
      rw [List.sum_cons, List.length_cons]
      have e1 : e + (k - 1) + (sz.sum - sz.length) = e + (k + sz.sum - (sz.length + 1)) := by omega
      rw [← e1]
      exact a2
  obtain ⟨a, b, _⟩ := key sz 1 0 (Nat.le_refl _) (by decide) h
  rw [Nat.zero_add] at b
  exact ⟨a, b⟩
end R
namespace R
open PySem
def rnd (sz fw : List Nat) (n : Nat) : List Nat := (fil sz fw fw.length n).2 ++ (fil sz fw fw.length n).1
theorem rnd_perm {sz fw : List Nat} {n : Nat} (C : Cups sz fw fw.length) (hl : fw.length < sz.length) (hs : 1 ≤ pk sz fw.length) (h : least sz (fw.length + 1) ≤ n) : (rnd sz fw n).Perm (List.range n) := by
  rw [least_succ hl] at h
  have hl1 : 1 ≤ least sz fw.length := by unfold least; omega
  obtain ⟨a, _⟩ := fillN_perm (e := ent sz fw fw.length) (pk sz fw.length) ([], List.range n) (fun k hk => by
    show Pm (ent sz fw fw.length ((List.range n).length - k)) ((List.range n).length - k)
    rw [List.length_range]
    exact ent_perm C (by omega)) (by show pk sz fw.length ≤ (List.range n).length; rw [List.length_range]; omega)
  have a : ((fil sz fw fw.length n).1 ++ (fil sz fw fw.length n).2).Perm (List.range n) := a
  exact List.perm_append_comm.trans a
theorem Tg.of_perm {ord : List Nat} {n : Nat} (p : ord.Perm (List.range n)) : Tg (tgt ord) n := by
  have e : ord.length = n := by rw [p.length_eq, List.length_range]
  subst e
  exact tgt_tg p
structure CyOk (n : Nat) (cs : List (List Nat)) : Prop where
  len : cs.length ≤ n
  one : ∀ c ∈ cs, 1 ≤ c.length ∧ c.length ≤ n
  sum : (cs.map List.length).sum = n
  st : (cs.map fun c => pk c 0).Pairwise (· < ·)
theorem cycs_cyOk {t : Nat → Nat} {n : Nat} (T : Tg t n) : CyOk n (cycs t n n) := by
  have s := cycs_ok T (Nat.le_refl n)
  have p := cycs_perm T
  refine ⟨?_, fun c hc => ?_, ?_, s.st⟩
  · have nd : ((cycs t n n).map fun c => pk c 0).Nodup := List.nodup_iff_pairwise_ne.mpr (s.st.imp fun h => by omega)
    have := nodup_le (n := n) nd fun x m => by
      obtain ⟨c, hc, rfl⟩ := List.mem_map.mp m
      obtain ⟨j, _, o, _⟩ := s.all c hc
      exact o.lt _ (pk_mem o.h0)
    rw [List.length_map] at this
    exact this
  · obtain ⟨j, _, o, _⟩ := s.all c hc
    exact ⟨o.h0, o.len⟩
  · have := p.length_eq
    rw [List.length_flatten, List.length_range] at this
    exact this
end R
namespace R
open PySem PySem.Spec PyProof.Rows L2
section
variable {X : Cx} {tg a b c : Expr} {ma mb mc mk : DE} {pos : Pos} {ta tb : DT} {st : Stmt} {rest s1 s2 : List Stmt} {m m1 m2 : DS} {pr : List Nat} {pl : DP} {x y : Str} {C : Addr} {es : List Expr}
end
end R
namespace R
open PySem
def csc : List Nat → List Nat → List (List Nat) → Nat → List Nat → List (List Nat) × List Nat
  | [s], _, c :: cs, m, q => if c.length + 1 < s then ((c ++ [m]) :: cs, q) else ([] :: cs, q ++ (c ++ [m]))
  | s :: s2 :: ss, fw, c :: cs, m, q => if c.length + 1 < s then ((c ++ [m]) :: cs, q) else
      ([] :: (csc (s2 :: ss) (fw.drop 1) cs (pk (c ++ [m]) (pk fw 0)) (q ++ (c ++ [m]).eraseIdx (pk fw 0))).1, (csc (s2 :: ss) (fw.drop 1) cs (pk (c ++ [m]) (pk fw 0)) (q ++ (c ++ [m]).eraseIdx (pk fw 0))).2)
  | _, _, cs, _, q => (cs, q)
inductive Val : List Nat → List (List Nat) → Prop where
  | nil : Val [] []
  | cons {s : Nat} {ss : List Nat} {c : List Nat} {cs : List (List Nat)} : c.length < s → Val ss cs → Val (s :: ss) (c :: cs)
def ctr : List Nat → List (List Nat) → Nat
  | s :: ss, c :: cs => c.length + s * ctr ss cs
  | _, _ => 0
def prR : List Nat → Nat
  | [] => 1
  | s :: ss => s * prR ss
theorem prR_eq (sz : List Nat) : prodL sz = prR sz := by
  have key : ∀ (sz : List Nat) (a : Nat), sz.foldl (· * ·) a = a * prR sz := by
    intro sz
    induction sz with
    | nil => intro a; simp [prR]
    | cons s ss ih => intro a; rw [List.foldl_cons, ih, prR, Nat.mul_assoc]
  unfold prodL
  rw [key, Nat.one_mul]
theorem ctr_lt : ∀ {sz : List Nat} {cs : List (List Nat)}, Val sz cs → ctr sz cs < prR sz
  | _, _, .nil => by simp [ctr, prR]
  | _, _, .cons (s := s) (ss := ss) (cs := cs) h v => by
    have ih := ctr_lt v
    rw [ctr, prR]
    have : s * (ctr ss cs + 1) ≤ s * prR ss := Nat.mul_le_mul_left s ih
    rw [Nat.mul_succ] at this
    omega
theorem csc_ctr : ∀ {sz fw : List Nat} {cs : List (List Nat)} {m : Nat} {q : List Nat}, sz ≠ [] → Val sz cs → Val sz (csc sz fw cs m q).1 ∧ ctr sz (csc sz fw cs m q).1 = if ctr sz cs + 1 < prR sz then ctr sz cs + 1 else 0
  | [], _, _, _, _, h, _ => absurd rfl h
  | [s], fw, _, m, q, _, .cons (c := c) (cs := cs) h v => by
    cases v
    rw [csc]
    by_cases k : c.length + 1 < s
    · rw [if_pos k]
      refine ⟨.cons (by simpa using k) .nil, ?_⟩
      simp [ctr, prR, k]
    · rw [if_neg k]
      refine ⟨.cons (by simp; omega) .nil, ?_⟩
      simp [ctr, prR, k]
  | s :: s2 :: ss, fw, _, m, q, _, .cons (c := c) (cs := cs) h v => by
    rw [csc]
    obtain ⟨v2, e2⟩ := csc_ctr (sz := s2 :: ss) (fw := fw.drop 1) (cs := cs) (m := pk (c ++ [m]) (pk fw 0)) (q := q ++ (c ++ [m]).eraseIdx (pk fw 0)) (by simp) v
    have lt := ctr_lt v
    by_cases k : c.length + 1 < s
    · rw [if_pos k]
      refine ⟨.cons (by simpa using k) v, ?_⟩
      have : s * (ctr (s2 :: ss) cs + 1) ≤ s * prR (s2 :: ss) := Nat.mul_le_mul_left s lt
      rw [Nat.mul_succ] at this
      rw [ctr, ctr, prR, List.length_append, List.length_singleton, if_pos (by omega)]
      omega
    · rw [if_neg k]
      refine ⟨.cons (by show 0 < s; omega) v2, ?_⟩
      have hs : c.length + 1 = s := by omega
      show 0 + s * ctr (s2 :: ss) _ = _
      have e4 : ctr (s :: s2 :: ss) (c :: cs) = c.length + s * ctr (s2 :: ss) cs := rfl
      have e5 : prR (s :: s2 :: ss) = s * prR (s2 :: ss) := rfl
      rw [e2, e4, e5]
      have e3 : c.length + s * ctr (s2 :: ss) cs + 1 = s * (ctr (s2 :: ss) cs + 1) := by rw [Nat.mul_succ]; omega
      rw [e3]
      by_cases z : ctr (s2 :: ss) cs + 1 < prR (s2 :: ss)
      · rw [if_pos z, if_pos (Nat.mul_lt_mul_of_pos_left z (by omega)), Nat.zero_add]
      · rw [if_neg z, if_neg (by
          intro y
          exact z (Nat.lt_of_mul_lt_mul_left y)), Nat.mul_zero]
def totM (cs : List (List Nat)) : Nat := (cs.map List.length).sum
theorem ctr_zero : ∀ {sz : List Nat} {cs : List (List Nat)}, Val sz cs → (ctr sz cs = 0 ↔ totM cs = 0)
  | _, _, .nil => by simp [ctr, totM]
  | _, _, .cons (s := s) (ss := ss) (c := c) (cs := cs) h v => by
    have ih := ctr_zero v
    show (c.length + s * ctr ss cs = 0) ↔ ((c :: cs).map List.length).sum = 0
    rw [List.map_cons, List.sum_cons]
    show _ ↔ c.length + totM cs = 0
    constructor
    · intro e
      have h0 : c.length = 0 := by omega
      have h1 : s * ctr ss cs = 0 := by omega
      rcases Nat.mul_eq_zero.mp h1 with z | z
      · omega
      · have := ih.mp z
        omega
    · intro e
      have h0 : c.length = 0 := by omega
      have := ih.mpr (by omega)
      rw [this, h0, Nat.mul_zero]
theorem tot_zero : ∀ {cs : List (List Nat)}, totM cs = 0 → cs = List.replicate cs.length []
  | [], _ => rfl
  | c :: cs, h => by
    have h : c.length + totM cs = 0 := h
    rw [List.length_cons, List.replicate_succ, ← tot_zero (cs := cs) (by omega), List.eq_nil_of_length_eq_zero (l := c) (by omega)]
theorem val_len {sz : List Nat} {cs : List (List Nat)} (v : Val sz cs) : cs.length = sz.length := by
  induction v with
  | nil => rfl
  | cons _ _ ih => rw [List.length_cons, List.length_cons, ih]
theorem val_nil : ∀ {sz : List Nat}, (∀ s ∈ sz, 1 ≤ s) → Val sz (List.replicate sz.length [])
  | [], _ => .nil
  | s :: ss, h => .cons (h s List.mem_cons_self) (val_nil fun x m => h x (List.mem_cons_of_mem _ m))
theorem csc_tot : ∀ {sz fw : List Nat} {cs : List (List Nat)} {m : Nat} {q : List Nat}, sz ≠ [] → fw.length + 1 = sz.length → (∀ i, i < fw.length → pk fw i < pk sz i) → Val sz cs → (csc sz fw cs m q).2.length + totM (csc sz fw cs m q).1 = q.length + totM cs + 1
  | [], _, _, _, _, h, _, _, _ => absurd rfl h
  | [s], fw, _, m, q, _, _, _, .cons (c := c) (cs := cs) h v => by
    cases v
    rw [csc]
    split
    · simp [totM]; omega
    · simp [totM]; omega
  | s :: s2 :: ss, fw, _, m, q, _, hf, hi, .cons (c := c) (cs := cs) h v => by
    rw [csc]
    have ih := csc_tot (sz := s2 :: ss) (fw := fw.drop 1) (cs := cs) (m := pk (c ++ [m]) (pk fw 0)) (q := q ++ (c ++ [m]).eraseIdx (pk fw 0)) (by simp) (by rw [List.length_drop]; simp at hf ⊢; omega) (fun i h => by
      rw [List.length_drop] at h
      have := hi (i + 1) (by omega)
      have e1 : pk (fw.drop 1) i = pk fw (i + 1) := by
        rw [pk_lt (by rw [List.length_drop]; omega), pk_lt (by omega), List.getElem_drop]
        congr 1
        omega
      rw [e1]
      exact this) v
    have h0 := hi 0 (by simp at hf; omega)
    have h0 : pk fw 0 < s := h0
    split
    · simp [totM]; omega
    · rename_i k
      have e : ∀ x : List (List Nat), totM ([] :: x) = totM x := fun x => by simp [totM]
      show (csc (s2 :: ss) _ _ _ _).2.length + totM ([] :: (csc (s2 :: ss) _ _ _ _).1) = _
      rw [e, ih, List.length_append, List.length_eraseIdx, List.length_append, List.length_singleton, if_pos (by omega)]
      show _ = q.length + (c.length + totM cs) + 1
      omega
theorem csc_casc : ∀ {sz fw : List Nat} {cs : List (List Nat)} {m : Nat} {q : List Nat}, sz ≠ [] → fw.length + 1 = sz.length → Val sz cs →
    ((casc sz (fw ++ [0]) cs m q).2.2 = none → csc sz fw cs m q = ((casc sz (fw ++ [0]) cs m q).1, (casc sz (fw ++ [0]) cs m q).2.1)) ∧
    ∀ m', (casc sz (fw ++ [0]) cs m q).2.2 = some m' → ∃ A row, row.length = pk sz fw.length ∧ m' = pk row 0 ∧ (casc sz (fw ++ [0]) cs m q).2.1 = A ++ row.eraseIdx 0 ∧ csc sz fw cs m q = ((casc sz (fw ++ [0]) cs m q).1, A ++ row)
  | [], _, _, _, _, h, _, _ => absurd rfl h
  | [s], fw, _, m, q, _, hf, .cons (c := c) (cs := cs) h v => by
    cases v
    have : fw = [] := List.eq_nil_of_length_eq_zero (by simpa using hf)
    subst this
    show ((casc [s] [0] [c] m q).2.2 = none → _) ∧ ∀ m', (casc [s] [0] [c] m q).2.2 = some m' → _
    rw [List.nil_append, casc, csc]
    by_cases k : c.length + 1 = s
    · rw [if_pos k, if_neg (by omega)]
      refine ⟨fun e => ?_, fun m' e => ⟨q, c ++ [m], ?_, ?_, ?_, ?_⟩⟩
      · cases e
      · rw [List.length_append, List.length_singleton, k] <;> rfl
      · cases e; rfl
      · rfl
      · rfl
    · rw [if_neg k, if_pos (by omega)]
      exact ⟨fun _ => rfl, fun m' e => by cases e⟩
  | s :: s2 :: ss, fw, _, m, q, _, hf, .cons (c := c) (cs := cs) h v => by
    obtain ⟨f, fw, rfl⟩ : ∃ f fw', fw = f :: fw' := by
      cases fw with
      | nil => simp at hf
      | cons f fw => exact ⟨f, fw, rfl⟩
    obtain ⟨i1, i2⟩ := csc_casc (sz := s2 :: ss) (fw := fw) (cs := cs) (m := pk (c ++ [m]) f) (q := q ++ (c ++ [m]).eraseIdx f) (by simp) (by simpa using hf) v
    show ((casc (s :: s2 :: ss) (f :: (fw ++ [0])) (c :: cs) m q).2.2 = none → _ = ((casc (s :: s2 :: ss) (f :: (fw ++ [0])) (c :: cs) m q).1, _)) ∧ ∀ m', (casc (s :: s2 :: ss) (f :: (fw ++ [0])) (c :: cs) m q).2.2 = some m' → _
    rw [List.cons_append, casc, csc]
    by_cases k : c.length + 1 = s
    · rw [if_pos k, if_neg (by omega)]
      refine ⟨fun e => ?_, fun m' e => ?_⟩
      · have := i1 e
        show ([] :: (csc (s2 :: ss) fw cs (pk (c ++ [m]) f) (q ++ (c ++ [m]).eraseIdx f)).1, (csc (s2 :: ss) fw cs (pk (c ++ [m]) f) (q ++ (c ++ [m]).eraseIdx f)).2) = _
        rw [this]
      · obtain ⟨A, row, a, b, d, g⟩ := i2 m' e
        refine ⟨A, row, a, b, d, ?_⟩
        show ([] :: (csc (s2 :: ss) fw cs (pk (c ++ [m]) f) (q ++ (c ++ [m]).eraseIdx f)).1, (csc (s2 :: ss) fw cs (pk (c ++ [m]) f) (q ++ (c ++ [m]).eraseIdx f)).2) = _
        rw [g]
    · rw [if_neg k, if_pos (by omega)]
      exact ⟨fun _ => rfl, fun m' e => by cases e⟩
theorem round_end {sz fw : List Nat} {q : List Nat} (hl : fw.length + 1 = sz.length) (hs : ∀ i, i < sz.length → 1 ≤ pk sz i) (hi : ∀ i, i < fw.length → pk fw i < pk sz i) (hq : least sz sz.length ≤ q.length) :
    Run sz (fw ++ [0]) (prodL sz) (List.replicate sz.length []) q (pk q (ent sz (fw ++ [0]) sz.length q.length).1) ((ent sz (fw ++ [0]) sz.length q.length).2.map (pk q)) ∧
    ∀ A row, row.length = pk sz fw.length → pk q (ent sz (fw ++ [0]) sz.length q.length).1 = pk row 0 → (ent sz (fw ++ [0]) sz.length q.length).2.map (pk q) = A ++ row.eraseIdx 0 → A ++ row = (rnd sz fw q.length).map (pk q) := by
  have C : Cups sz (fw ++ [0]) sz.length := ⟨Nat.le_refl _, hs, fun i h => by
    by_cases k : i < fw.length
    · rw [pk_app k]; exact hi i k
    · have e : i = fw.length + 0 := by omega
      rw [e, pk_app2 (by simp)]
      exact hs _ (by omega)⟩
  have r := run_block (sz := sz) (fw := fw ++ [0]) C (by rw [List.length_append, List.length_singleton]; omega) hq
  rw [List.take_length, List.take_of_length_le (by rw [List.length_append, List.length_singleton]; omega)] at r
  refine ⟨r, fun A row h1 h2 h3 => ?_⟩
  have e1 : sz.length = fw.length + 1 := by omega
  have ec : ∀ n, ent sz (fw ++ [0]) fw.length n = ent sz fw fw.length n := fun n => ent_congr (fun _ _ => rfl) (fun i h => pk_app h) n
  have ef : fil sz (fw ++ [0]) fw.length q.length = fil sz fw fw.length q.length := by
    unfold fil
    rw [show ent sz (fw ++ [0]) fw.length = ent sz fw fw.length from funext ec]
  have p0 : pk (fw ++ [0]) fw.length = 0 := by
    have := pk_app2 (l := fw) (m := [0]) (i := 0) (by simp)
    rw [Nat.add_zero] at this
    rw [this] <;> rfl
  have ee : ent sz (fw ++ [0]) sz.length q.length = (pk (fil sz fw fw.length q.length).1 0, (fil sz fw fw.length q.length).2 ++ (fil sz fw fw.length q.length).1.eraseIdx 0) := by
    rw [e1]
    show (pk (fil sz (fw ++ [0]) fw.length q.length).1 (pk (fw ++ [0]) fw.length), (fil sz (fw ++ [0]) fw.length q.length).2 ++ (fil sz (fw ++ [0]) fw.length q.length).1.eraseIdx (pk (fw ++ [0]) fw.length)) = _
    rw [ef, p0]
  have hfl : (fil sz fw fw.length q.length).1.length = pk sz fw.length := by
    have C2 : Cups sz fw fw.length := ⟨by omega, fun i h => hs i (by omega), hi⟩
    have hq2 := hq
    rw [e1, least_succ (by omega)] at hq2
    have hl1 : 1 ≤ least sz fw.length := by unfold least; omega
    have := (fillN_perm (e := ent sz fw fw.length) (pk sz fw.length) ([], List.range q.length) (fun k hk => by
      show Pm (ent sz fw fw.length ((List.range q.length).length - k)) ((List.range q.length).length - k)
      rw [List.length_range]
      exact ent_perm C2 (by omega)) (by show pk sz fw.length ≤ (List.range q.length).length; rw [List.length_range]; omega)).2
    have b : (fil sz fw fw.length q.length).1.length = 0 + pk sz fw.length := this
    omega
  rw [ee] at h2 h3
  generalize hI : (fil sz fw fw.length q.length).1 = I at *
  generalize hRr : (fil sz fw fw.length q.length).2 = Rr at *
  have hs0 := hs fw.length (by omega)
  cases I with
  | nil => simp at hfl; omega
  | cons a I =>
    cases row with
    | nil => simp at h1; omega
    | cons b row =>
      have h2 : pk q a = b := h2
      have h3 : (Rr ++ I).map (pk q) = A ++ row := h3
      rw [List.map_append] at h3
      have hlen : (I.map (pk q)).length = row.length := by
        rw [List.length_map]
        simp at hfl h1
        omega
      obtain ⟨x1, x2⟩ := List.append_inj' h3 hlen
      unfold rnd
      rw [hI, hRr, List.map_append, List.map_cons, x1, x2, h2]
end R
namespace R
open PySem PySem.Spec PyProof.Rows L2
abbrev DX := Env → (Rs → Env → Prop) → Prop
section
variable {K : PySem.W.Frag} {W W1 W2 W' : Wd} {H H1 H2 H' : Hp} {f f1 fp fp1 fp2 xf xf1 xf2 : List Addr} {σ σ1 σ2 : L2.St} {Q : VK} {r : Rs} {v : V} {env env1 env2 : Env}
end
section
variable {X : Cx} {CX : CXT} {k n : Nat} {f : Addr} {fd : FuncData} {ps : List Str} {F0 : Spec} {dvs : List V} {dv : List D} {ds : List Value} {E : XK} {x nm : Str} {p pos apos : Pos} {e a : Expr} {es : List Expr} {ma : DA} {ta : DT} {pr : List Nat} {is : List Nat} {m m1 m2 : DS} {mx : DX} {s1 s2 : List Stmt} {i : Nat}
structure CalIO (P : Program) (w : World) (K : PySem.W.Frag) (mg : Str → Option Value) (base : Heap) (x : Str) (n : Nat) (F : Spec) (dv : List D) (k : Nat) : Prop where
  ex : ∃ (f : Addr) (fd : FuncData) (ps : List Str) (ds : List Value) (dvs : List V), FnOk P w K mg base CX0 k f fd ps (spR K n F) ∧ mg x = some (.ref f) ∧ PySem.W.keepIn K (.ref f) = true ∧ Binds K fd ps ds ∧ Vals dvs ds ∧ ∀ W, RepAll K W dvs dv
end
end R
namespace R
open PySem PySem.Spec PyProof.Rows L2
section
variable {prog : Program} {w : World} {A : Around}
end
end R
namespace R
open PySem PySem.Spec PyProof.Rows L2
section
variable {X : Cx} {tg a b c : Expr} {x y : Str} {ma mb mc : DE} {pos : Pos} {mr : DA} {pr : List Nat} {pl : DP}
end
end R
namespace R
open PySem
def memb (q : List Nat) (cs : List (List Nat)) : List Nat := q ++ cs.flatten
theorem perm_erase {l : List Nat} {i : Nat} (h : i < l.length) : (l.eraseIdx i ++ [pk l i]).Perm l := by
  rw [pk_lt h, List.eraseIdx_eq_take_drop_succ, List.append_assoc]
  have e : l = l.take i ++ ([l[i]] ++ l.drop (i + 1)) := by
    rw [List.singleton_append, ← List.drop_eq_getElem_cons h, List.take_append_drop]
  exact (List.perm_append_comm.append_left (l.take i)).trans (.of_eq e.symm)
theorem csc_perm : ∀ {sz fw : List Nat} {cs : List (List Nat)} {m : Nat} {q : List Nat}, sz ≠ [] → fw.length + 1 = sz.length → (∀ i, i < fw.length → pk fw i < pk sz i) → Val sz cs → (memb (csc sz fw cs m q).2 (csc sz fw cs m q).1).Perm (m :: memb q cs)
  | [], _, _, _, _, h, _, _, _ => absurd rfl h
  | [s], fw, _, m, q, _, _, _, .cons (c := c) (cs := cs) h v => by
    cases v
    rw [csc]
    split
    · show (q ++ ((c ++ [m]) ++ [])).Perm (m :: (q ++ (c ++ [])))
      rw [List.append_nil, List.append_nil, ← List.append_assoc]
      exact List.perm_append_comm (l₂ := [m])
    · show (q ++ (c ++ [m]) ++ []).Perm (m :: (q ++ (c ++ [])))
      rw [List.append_nil, List.append_nil, ← List.append_assoc]
      exact List.perm_append_comm (l₂ := [m])
  | s :: s2 :: ss, fw, _, m, q, _, hf, hi, .cons (c := c) (cs := cs) h v => by
    rw [csc]
    have h0 : pk fw 0 < s := hi 0 (by simp at hf; omega)
    split
    · show (q ++ ((c ++ [m]) ++ cs.flatten)).Perm (m :: (q ++ (c ++ cs.flatten)))
      rw [List.append_assoc, ← List.append_assoc q, ← List.append_assoc q]
      exact List.perm_middle
    · rename_i k
      have ih := csc_perm (sz := s2 :: ss) (fw := fw.drop 1) (cs := cs) (m := pk (c ++ [m]) (pk fw 0)) (q := q ++ (c ++ [m]).eraseIdx (pk fw 0)) (by simp) (by rw [List.length_drop]; simp at hf ⊢; omega) (fun i h => by
        rw [List.length_drop] at h
        have := hi (i + 1) (by omega)
        have e1 : pk (fw.drop 1) i = pk fw (i + 1) := by
          rw [pk_lt (by rw [List.length_drop]; omega), pk_lt (by omega), List.getElem_drop]
          congr 1
          omega
        rw [e1]
        exact this) v
      show (memb (csc (s2 :: ss) _ _ _ _).2 (csc (s2 :: ss) _ _ _ _).1).Perm (m :: (q ++ (c ++ cs.flatten)))
      refine ih.trans ?_
      have hl : pk fw 0 < (c ++ [m]).length := by rw [List.length_append, List.length_singleton]; omega
      have e := perm_erase hl
      show (pk (c ++ [m]) (pk fw 0) :: ((q ++ (c ++ [m]).eraseIdx (pk fw 0)) ++ cs.flatten)).Perm _
      have a : (pk (c ++ [m]) (pk fw 0) :: ((q ++ (c ++ [m]).eraseIdx (pk fw 0)) ++ cs.flatten)).Perm (q ++ ((c ++ [m]).eraseIdx (pk fw 0) ++ [pk (c ++ [m]) (pk fw 0)]) ++ cs.flatten) := by
        rw [← List.append_assoc q, List.append_assoc _ [_] cs.flatten]
        exact (List.perm_middle (l₁ := q ++ (c ++ [m]).eraseIdx (pk fw 0)) (l₂ := cs.flatten)).symm
      refine a.trans (((e.append_left q).append_right cs.flatten).trans ?_)
      show (q ++ (c ++ [m]) ++ cs.flatten).Perm (m :: (q ++ (c ++ cs.flatten)))
      rw [← List.append_assoc q, List.append_assoc _ [m], ← List.append_assoc q]
      exact List.perm_middle
theorem val_tot : ∀ {sz : List Nat} {cs : List (List Nat)}, Val sz cs → totM cs + sz.length ≤ sz.sum
  | _, _, .nil => by simp [totM]
  | _, _, .cons (s := s) (ss := ss) (c := c) (cs := cs) h v => by
    have ih := val_tot v
    have e : totM (c :: cs) = c.length + totM cs := by simp [totM]
    rw [e, List.length_cons, List.sum_cons]
    omega
theorem val_sum : ∀ {sz : List Nat} {cs : List (List Nat)}, Val sz cs → ∀ s ∈ sz, 1 ≤ s
  | _, _, .nil => by simp
  | _, _, .cons (s := s) (ss := ss) (c := c) (cs := cs) h v => by
    intro x m
    rcases List.mem_cons.mp m with rfl | m
    · omega
    · exact val_sum v x m
end R
namespace R
open PySem PySem.Spec PyProof.Rows L2
section
variable {X : Cx} {a b : Expr} {ma mb : DE} {pos tpos : Pos} {elts : List Expr} {kk : Nat}
end
end R
namespace R
open PySem PySem.Spec PyProof.Rows L2
section
variable {prog : Program} {w : World} {A : Around}
end
end R
namespace R
open PySem PySem.Spec PyProof.Rows L2
section
variable {K : PySem.W.Frag} {W : Wd} {H : Hp}
end
section
variable {X : Cx} {a b : Expr} {pos : Pos} {mr : DA}
end
end R
namespace R
open PySem PySem.Spec PyProof.Rows L2
section
variable {K : PySem.W.Frag} {W : Wd} {H : Hp}
theorem OwnAll.take : ∀ (n : Nat) {vs : List V} {ts : List OT} {f : List Addr}, OwnAll K W H vs ts f → ∃ g, OwnAll K W H (vs.take n) (ts.take n) g ∧ ∀ a ∈ g, a ∈ f
  | 0, _, _, _, _ => ⟨[], .nil, fun _ m => by cases m⟩
  | n + 1, _, _, _, .nil => ⟨[], .nil, fun _ m => by cases m⟩
  | n + 1, _, _, _, .cons a b => by
    obtain ⟨g, o, z⟩ := OwnAll.take n b
    refine ⟨_, .cons a o, fun c m => ?_⟩
    rcases List.mem_append.mp m with m | m
    · exact List.mem_append_left _ m
    · exact List.mem_append_right _ (z c m)
theorem OwnAll.drop : ∀ (n : Nat) {vs : List V} {ts : List OT} {f : List Addr}, OwnAll K W H vs ts f → ∃ g, OwnAll K W H (vs.drop n) (ts.drop n) g ∧ ∀ a ∈ g, a ∈ f
  | 0, _, _, _, h => ⟨_, h, fun _ m => m⟩
  | n + 1, _, _, _, .nil => ⟨[], .nil, fun _ m => by cases m⟩
  | n + 1, _, _, _, .cons a b => by
    obtain ⟨g, o, z⟩ := OwnAll.drop n b
    exact ⟨_, o, fun c m => List.mem_append_right _ (z c m)⟩
theorem OwnAll.cut {vs : List V} {ts : List OT} {f : List Addr} (h : OwnAll K W H vs ts f) (lo hi : Option Int) : ∃ g, OwnAll K W H (cutV vs lo hi) (cut' ts lo hi) g ∧ ∀ a ∈ g, a ∈ f := by
  have e := h.len
  obtain ⟨g1, o1, z1⟩ := h.drop (HT.sIx vs.length 0 lo)
  obtain ⟨g2, o2, z2⟩ := o1.take (HT.sIx vs.length vs.length hi - HT.sIx vs.length 0 lo)
  refine ⟨g2, ?_, fun a m => z1 a (z2 a m)⟩
  unfold cutV cut'
  rw [← e]
  exact o2
end
section
variable {X : Cx} {a : Expr} {lo hi : Option Expr} {ma : DE} {ml mh : DO} {pos : Pos}
end
end R
namespace R
open PySem PySem.Spec PyProof.Rows L2
section
variable {K : PySem.W.Frag} {W W1 W2 W' : Wd} {H H1 H2 H' : Hp}
end
section
variable {X : Cx} {CX : CXT} {k n : Nat} {f : Addr} {fd : FuncData} {ps : List Str} {F0 : Spec} {dvs : List V} {dv : List D} {ds : List Value} {E : XK} {x nm m : Str} {p pos apos : Pos} {e a o : Expr} {es : List Expr} {ma : DA} {m0 : DE} {pr : List Nat} {is : List Nat} {mx : DX} {i : Nat} {C : Addr}
structure MetIO (P : Program) (w : World) (K : PySem.W.Frag) (mg : Str → Option Value) (base : Heap) (C : Addr) (m : Str) (n : Nat) (F : Spec) (dv : List D) (k : Nat) : Prop where
  ex : ∃ (f : Addr) (fd : FuncData) (ps : List Str) (ds : List Value) (dvs : List V), Cls K C ∧ Meth K C m f ∧ FnOk P w K mg base CX0 k f fd ps (spR K n F) ∧ Binds K fd ps ds ∧ Vals dvs ds ∧ ∀ W, RepAll K W dvs dv
end
end R
namespace R
open PySem
def stp (sz fw : List Nat) : List Nat × List (List Nat) → List Nat × List (List Nat)
  | (x :: q, cs) => ((csc sz fw cs x q).2, (csc sz fw cs x q).1)
  | ([], cs) => ([], cs)
def adv (sz fw : List Nat) : Nat → List Nat × List (List Nat) → List Nat × List (List Nat)
  | 0, s => s
  | n + 1, s => adv sz fw n (stp sz fw s)
theorem adv_add {sz fw : List Nat} : ∀ (m n : Nat) (s : List Nat × List (List Nat)), adv sz fw (m + n) s = adv sz fw n (adv sz fw m s)
  | 0, n, s => by rw [Nat.zero_add] <;> rfl
  | m + 1, n, s => by
    rw [show m + 1 + n = (m + n) + 1 by omega]
    show adv sz fw (m + n) (stp sz fw s) = adv sz fw n (adv sz fw m (stp sz fw s))
    exact adv_add m n _
structure RowM (sz fw : List Nat) : Prop where
  l0 : 0 < sz.length
  fl : fw.length + 1 = sz.length
  s1 : ∀ s ∈ sz, 1 ≤ s
  fi : ∀ i, i < fw.length → pk fw i < pk sz i
theorem RowM.ne {sz fw : List Nat} (h : RowM sz fw) : sz ≠ [] := fun z => by have := h.l0; rw [z] at this; simp at this
theorem RowM.cups {sz fw : List Nat} (h : RowM sz fw) {c : Nat} (hc : c ≤ fw.length) : Cups sz fw c :=
  ⟨by have := h.fl; omega, fun i hi => h.s1 _ (pk_mem (by have := h.fl; omega)), fun i hi => h.fi i (by omega)⟩
theorem casc_nil {fs : List Nat} {ca : List (List Nat)} {x : Nat} {q : List Nat} : casc [] fs ca x q = (ca, q, some x) := by
  rw [casc]
  intro _ _ _ _ _ _ e
  cases e
theorem casc_val : ∀ {ss fs : List Nat} {ca : List (List Nat)} {x : Nat} {q : List Nat}, fs.length = ss.length → Val ss ca → Val ss (casc ss fs ca x q).1
  | [], fs, _, x, q, _, .nil => by rw [casc_nil]; exact .nil
  | s :: ss, [], _, x, q, h, _ => by simp at h
  | s :: ss, f :: fs, _, x, q, h, .cons (c := c) (cs := cs) h1 v => by
    rw [casc]
    split
    · exact .cons (by show 0 < s; omega) (casc_val (by simpa using h) v)
    · exact .cons (by rw [List.length_append, List.length_singleton]; omega) v
theorem run_round {sz fw : List Nat} (hne : sz ≠ []) (hl : fw.length + 1 = sz.length) : ∀ {m : Nat} {cs : List (List Nat)} {q : List Nat} {mE : Nat} {qE : List Nat}, Run sz (fw ++ [0]) m cs q mE qE → Val sz cs →
    ∃ A row, row.length = pk sz fw.length ∧ mE = pk row 0 ∧ qE = A ++ row.eraseIdx 0 ∧ adv sz fw m (q, cs) = (A ++ row, List.replicate sz.length []) := by
  have hl2 : (fw ++ [0]).length = sz.length := by rw [List.length_append, List.length_singleton]; exact hl
  intro m cs q mE qE r
  induction r with
  | done e h =>
    rename_i cs cs' m x q q'
    intro v
    obtain ⟨A, row, a, b, d, g⟩ := (csc_casc (q := q) (m := x) hne hl v).2 m (by rw [e])
    rw [e] at d g
    have l := casc_len (ss := sz) (fs := fw ++ [0]) (cs := cs) (m := x) (q := q)
    rw [e] at l
    have l : cs'.length = cs.length := l
    refine ⟨A, row, a, b, d, ?_⟩
    show ((csc sz fw cs x q).2, (csc sz fw cs x q).1) = _
    rw [g]
    show (A ++ row, cs') = _
    rw [all_nil h, l, val_len v]
  | step e r ih =>
    rename_i cs cs' n m x q q1 q'
    intro v
    have a := (csc_casc (q := q) (m := x) hne hl v).1 (by rw [e])
    have v2 := casc_val (x := x) (q := q) hl2 v
    rw [e] at a v2
    obtain ⟨A, row, b, d, f, g⟩ := ih v2
    refine ⟨A, row, b, d, f, ?_⟩
    rw [← g]
    show adv sz fw n ((csc sz fw cs x q).2, (csc sz fw cs x q).1) = _
    rw [a]
theorem adv_round {sz fw : List Nat} (R : RowM sz fw) {q : List Nat} (hq : least sz sz.length ≤ q.length) :
    adv sz fw (prodL sz) (q, List.replicate sz.length []) = ((rnd sz fw q.length).map (pk q), List.replicate sz.length []) := by
  obtain ⟨r, hend⟩ := round_end R.fl (fun i hi => R.s1 _ (pk_mem hi)) R.fi hq
  obtain ⟨A, row, a, b, d, g⟩ := run_round R.ne R.fl r (val_nil R.s1)
  rw [g, hend A row a b d]
def ap (ord : List Nat) : Nat → List Nat → List Nat
  | 0, q => q
  | k + 1, q => ap ord k (ord.map (pk q))
theorem ap_len {ord : List Nat} : ∀ {k : Nat} {q : List Nat}, ord.length = q.length → (ap ord k q).length = q.length
  | 0, q, _ => rfl
  | k + 1, q, h => by
    show (ap ord k (ord.map (pk q))).length = _
    rw [ap_len (by rw [List.length_map]), List.length_map, h]
def itt (t : Nat → Nat) : Nat → Nat → Nat
  | 0, i => i
  | k + 1, i => itt t k (t i)
theorem itt_lt {t : Nat → Nat} {n : Nat} (T : Tg t n) : ∀ (k : Nat) {i : Nat}, i < n → itt t k i < n
  | 0, _, h => h
  | k + 1, _, h => itt_lt T k (T.lt _ h)
theorem itt_inj {t : Nat → Nat} {n : Nat} (T : Tg t n) : ∀ (k : Nat) {i j : Nat}, i < n → j < n → itt t k i = itt t k j → i = j
  | 0, _, _, _, _, e => e
  | k + 1, i, j, h, h2, e => T.inj _ _ h h2 (itt_inj T k (T.lt _ h) (T.lt _ h2) e)
theorem ap_pk {ord : List Nat} {n : Nat} (p : ord.Perm (List.range n)) : ∀ (k : Nat) {q : List Nat} {i : Nat}, q.length = n → i < n → pk (ap ord k q) (itt (tgt ord) k i) = pk q i
  | 0, q, i, _, _ => rfl
  | k + 1, q, i, hq, hi => by
    have hl : ord.length = n := by rw [p.length_eq, List.length_range]
    obtain ⟨s1, s2⟩ := tgt_spec (p.mem_iff.mpr (List.mem_range.mpr hi))
    show pk (ap ord k (ord.map (pk q))) (itt (tgt ord) k (tgt ord i)) = _
    rw [ap_pk p k (by rw [List.length_map, hl]) (by omega), pk_map s1, s2]
theorem itt_onto {t : Nat → Nat} {n : Nat} (T : Tg t n) (k : Nat) {j : Nat} (hj : j < n) : ∃ i, i < n ∧ itt t k i = j := by
  have nd : ((List.range n).map (itt t k)).Nodup := List.pairwise_map.mpr (List.nodup_range.imp_of_mem fun ha hb hne e => hne (itt_inj T k (List.mem_range.mp ha) (List.mem_range.mp hb) e))
  have hlt : ∀ x ∈ (List.range n).map (itt t k), x < n := fun x m => by
    obtain ⟨i, hi, rfl⟩ := List.mem_map.mp m
    exact itt_lt T k (List.mem_range.mp hi)
  have mem : j ∈ (List.range n).map (itt t k) := by
    apply Classical.byContradiction
    intro z
    have := nodup_le (n := n) (c := j :: (List.range n).map (itt t k)) (List.nodup_cons.mpr ⟨z, nd⟩) fun x m => by
      rcases List.mem_cons.mp m with rfl | m
      · exact hj
      · exact hlt x m
    simp at this
    omega
  obtain ⟨i, hi, e⟩ := List.mem_map.mp mem
  exact ⟨i, List.mem_range.mp hi, e⟩
theorem ext_pk {l m : List Nat} (h : l.length = m.length) (e : ∀ i, i < l.length → pk l i = pk m i) : l = m := by
  apply List.ext_getElem h
  intro i h1 h2
  have := e i h1
  rw [pk_lt h1, pk_lt h2] at this
  exact this
theorem ap_eq {ord : List Nat} {n : Nat} (p : ord.Perm (List.range n)) {k : Nat} {q r : List Nat} (hq : q.length = n) (hr : r.length = n) (h : ∀ i, i < n → pk r (itt (tgt ord) k i) = pk q i) : r = ap ord k q := by
  have hl : ord.length = n := by rw [p.length_eq, List.length_range]
  refine ext_pk (by rw [hr, ap_len (by rw [hl, hq]), hq]) fun j hj => ?_
  obtain ⟨i, hi, rfl⟩ := itt_onto (Tg.of_perm p) k (by omega : j < n)
  rw [h i hi, ap_pk p k hq hi]
theorem cyc_itt {t : Nat → Nat} {n i : Nat} {c : List Nat} (o : Cyc t n i c) : ∀ (k : Nat) {j : Nat}, j < c.length → itt t k (pk c j) = pk c ((j + k) % c.length)
  | 0, j, hj => by
    show pk c j = _
    rw [Nat.add_zero, Nat.mod_eq_of_lt hj]
  | k + 1, j, hj => by
    show itt t k (t (pk c j)) = _
    by_cases q : j + 1 < c.length
    · rw [← o.nx j q, cyc_itt o k q]
      congr 2
      omega
    · have e : j = c.length - 1 := by omega
      have l := o.ls
      rw [show t (pk c j) = pk c 0 by rw [o.hd, e]; exact l, cyc_itt o k o.h0]
      rw [show j + (k + 1) = (0 + k) + c.length by omega, Nat.add_mod_right]
theorem dvd_lcmL {k : Nat} : ∀ {ks : List Nat}, k ∈ ks → k ∣ lcmL ks := by
  have key : ∀ (ks : List Nat) (a : Nat), a ∣ ks.foldl Nat.lcm a ∧ ∀ k ∈ ks, k ∣ ks.foldl Nat.lcm a := by
    intro ks
    induction ks with
    | nil => intro a; exact ⟨Nat.dvd_refl a, by simp⟩
    | cons x ks ih =>
      intro a
      obtain ⟨h1, h2⟩ := ih (Nat.lcm a x)
      refine ⟨Nat.dvd_trans (Nat.dvd_lcm_left a x) h1, fun k m => ?_⟩
      rcases List.mem_cons.mp m with rfl | m
      · exact Nat.dvd_trans (Nat.dvd_lcm_right a k) h1
      · exact h2 k m
  intro ks m
  exact (key ks 1).2 k m
theorem itt_lcm {ord : List Nat} {n : Nat} (p : ord.Perm (List.range n)) {i : Nat} (hi : i < n) (m : Nat) : itt (tgt ord) (lcmL ((cycs (tgt ord) n n).map List.length) * m) i = i := by
  have T := Tg.of_perm p
  have cp := cycs_perm T
  obtain ⟨c, hc, mc⟩ := List.mem_flatten.mp (cp.mem_iff.mpr (List.mem_range.mpr hi))
  obtain ⟨j0, _, o, _⟩ := (cycs_ok T (Nat.le_refl n)).all c hc
  obtain ⟨j, hj, rfl⟩ := mem_pk mc
  rw [cyc_itt o _ hj]
  obtain ⟨d, hd⟩ := dvd_lcmL (List.mem_map.mpr ⟨c, hc, rfl⟩ : c.length ∈ (cycs (tgt ord) n n).map List.length)
  rw [hd, Nat.mul_assoc, Nat.add_mul_mod_self_left, Nat.mod_eq_of_lt hj]
theorem ap_lcm {ord : List Nat} {n : Nat} (p : ord.Perm (List.range n)) {q : List Nat} (hq : q.length = n) (m : Nat) : ap ord (lcmL ((cycs (tgt ord) n n).map List.length) * m) q = q :=
  (ap_eq p hq hq fun i hi => by rw [itt_lcm p hi]).symm
theorem RowM.rnd_perm {sz fw : List Nat} (M : RowM sz fw) {n : Nat} (h : least sz sz.length ≤ n) : (rnd sz fw n).Perm (List.range n) := by
  have := M.fl
  exact R.rnd_perm (M.cups (Nat.le_refl _)) (by omega) (M.s1 _ (pk_mem (by omega))) (by rw [this]; exact h)
theorem adv_rounds {sz fw : List Nat} (M : RowM sz fw) : ∀ (k : Nat) {q : List Nat}, least sz sz.length ≤ q.length → adv sz fw (prodL sz * k) (q, List.replicate sz.length []) = (ap (rnd sz fw q.length) k q, List.replicate sz.length [])
  | 0, q, _ => by rw [Nat.mul_zero] <;> rfl
  | k + 1, q, h => by
    have hl : (rnd sz fw q.length).length = q.length := by rw [(M.rnd_perm h).length_eq, List.length_range]
    rw [Nat.mul_succ, Nat.add_comm, adv_add, adv_round M h, adv_rounds M k (by rw [List.length_map, hl]; exact h), List.length_map, hl]
    rfl
theorem insert_erase {l : List Nat} {f x : Nat} (h : f ≤ l.length) : (l.insertIdx f x).eraseIdx f = l ∧ pk (l.insertIdx f x) f = x ∧ (l.insertIdx f x).length = l.length + 1 := by
  have hl : (l.insertIdx f x).length = l.length + 1 := by rw [List.length_insertIdx, if_pos h]
  refine ⟨List.eraseIdx_insertIdx_self .., ?_, hl⟩
  rw [pk_lt (by omega), List.getElem_insertIdx_self]
theorem uncsc : ∀ {sz fw : List Nat} {cs : List (List Nat)} {q : List Nat}, sz ≠ [] → fw.length + 1 = sz.length → (∀ i, i < fw.length → pk fw i < pk sz i) → Val sz cs → 0 < ctr sz cs → (sz.map (· - 1)).sum + 1 ≤ q.length + totM cs →
    ∃ cs0 m q0, Val sz cs0 ∧ csc sz fw cs0 m q0 = (cs, q)
  | [], _, _, _, h, _, _, _, _, _ => absurd rfl h
  | [s], fw, _, q, _, _, _, .cons (c := c) (cs := cs) h v, hc, _ => by
    cases v
    have hne : c ≠ [] := by
      intro z
      subst z
      simp [ctr] at hc
    have hl : c.dropLast.length + 1 = c.length := by
      rw [List.length_dropLast]
      have := List.length_pos_iff.mpr hne
      omega
    refine ⟨[c.dropLast], c.getLast hne, q, .cons (by omega) .nil, ?_⟩
    rw [csc, if_pos (by omega), List.dropLast_concat_getLast]
  | s :: s2 :: ss, fw, _, q, _, hf, hi, .cons (c := c) (cs := cs) h v, hc, hb => by
    by_cases hne : c = []
    · subst hne
      have e1 : ctr (s :: s2 :: ss) ([] :: cs) = 0 + s * ctr (s2 :: ss) cs := rfl
      have hc2 : 0 < ctr (s2 :: ss) cs := by
        apply Nat.pos_of_ne_zero
        intro z
        rw [e1, z] at hc
        simp at hc
      have et : totM ([] :: cs) = totM cs := by simp [totM]
      rw [et, List.map_cons, List.sum_cons] at hb
      obtain ⟨cs0, m, q0, v0, e⟩ := uncsc (sz := s2 :: ss) (fw := fw.drop 1) (cs := cs) (q := q) (by simp) (by rw [List.length_drop]; simp at hf ⊢; omega) (fun i h => by
        rw [List.length_drop] at h
        have := hi (i + 1) (by omega)
        have e1 : pk (fw.drop 1) i = pk fw (i + 1) := by
          rw [pk_lt (by rw [List.length_drop]; omega), pk_lt (by omega), List.getElem_drop]
          congr 1
          omega
        rw [e1]
        exact this) v hc2 (by omega)
      have ht := csc_tot (sz := s2 :: ss) (fw := fw.drop 1) (cs := cs0) (m := m) (q := q0) (by simp) (by rw [List.length_drop]; simp at hf ⊢; omega) (fun i h => by
        rw [List.length_drop] at h
        have := hi (i + 1) (by omega)
        have e1 : pk (fw.drop 1) i = pk fw (i + 1) := by
          rw [pk_lt (by rw [List.length_drop]; omega), pk_lt (by omega), List.getElem_drop]
          congr 1
          omega
        rw [e1]
        exact this) v0
      rw [e] at ht
      have ht : q.length + totM cs = q0.length + totM cs0 + 1 := ht
      have vt := val_tot v0
      have sp := sum_pred (val_sum v0)
      have hq0 : s - 1 ≤ q0.length := by omega
      have h0 : pk fw 0 < s := hi 0 (by simp at hf; omega)
      obtain ⟨w, hw⟩ : ∃ w, w = q0.drop (q0.length - (s - 1)) := ⟨_, rfl⟩
      have hwl : w.length = s - 1 := by rw [hw, List.length_drop]; omega
      obtain ⟨a, b, d⟩ := insert_erase (l := w) (f := pk fw 0) (x := m) (by omega)
      generalize hr : w.insertIdx (pk fw 0) m = row at *
      have hrne : row ≠ [] := fun z => by rw [z] at d; simp at d
      have hdl : row.dropLast.length + 1 = row.length := by
        rw [List.length_dropLast]
        have := List.length_pos_iff.mpr hrne
        omega
      refine ⟨row.dropLast :: cs0, row.getLast hrne, q0.take (q0.length - (s - 1)), .cons (by omega) v0, ?_⟩
      rw [csc, if_neg (by omega), List.dropLast_concat_getLast, b, a, hw, List.take_append_drop, e]
    · have hl : c.dropLast.length + 1 = c.length := by
        rw [List.length_dropLast]
        have := List.length_pos_iff.mpr hne
        omega
      refine ⟨c.dropLast :: cs, c.getLast hne, q, .cons (by omega) v, ?_⟩
      rw [csc, if_pos (by omega), List.dropLast_concat_getLast]
theorem reach {sz fw : List Nat} (M : RowM sz fw) : ∀ (k : Nat) {q : List Nat} {cs : List (List Nat)}, ctr sz cs = k → Val sz cs → least sz sz.length ≤ q.length + totM cs → ∃ q0 j, q0.length = q.length + totM cs ∧ adv sz fw j (q0, List.replicate sz.length []) = (q, cs)
  | 0, q, cs, hk, v, _ => by
    have t0 := (ctr_zero v).mp hk
    have e := tot_zero t0
    rw [val_len v] at e
    exact ⟨q, 0, by omega, by rw [← e] <;> rfl⟩
  | k + 1, q, cs, hk, v, hb => by
    have hls : least sz sz.length = (sz.map (· - 1)).sum + 1 := by unfold least; rw [List.take_length]
    obtain ⟨cs0, m, q0, v0, e⟩ := uncsc (q := q) M.ne M.fl M.fi v (by omega) (by omega)
    have ht := csc_tot (m := m) (q := q0) M.ne M.fl M.fi v0
    have hcc := (csc_ctr (fw := fw) (m := m) (q := q0) M.ne v0).2
    rw [e] at ht hcc
    have ht : q.length + totM cs = q0.length + totM cs0 + 1 := ht
    have hcc : ctr sz cs = if ctr sz cs0 + 1 < prR sz then ctr sz cs0 + 1 else 0 := hcc
    have h0 : ctr sz cs0 = k := by
      by_cases z : ctr sz cs0 + 1 < prR sz
      · rw [if_pos z] at hcc
        omega
      · rw [if_neg z] at hcc
        omega
    obtain ⟨qq, j, a, b⟩ := reach M k (q := m :: q0) (cs := cs0) h0 v0 (by rw [List.length_cons]; omega)
    refine ⟨qq, j + 1, by rw [a, List.length_cons]; omega, ?_⟩
    rw [adv_add, b]
    show ((csc sz fw cs0 m q0).2, (csc sz fw cs0 m q0).1) = _
    rw [e]
def perN (sz fw : List Nat) (n : Nat) : Nat := lcmL ((cycs (tgt (rnd sz fw n)) n n).map List.length) * prodL sz
theorem adv_per {sz fw : List Nat} (M : RowM sz fw) {q : List Nat} {cs : List (List Nat)} (v : Val sz cs) (hb : least sz sz.length ≤ q.length + totM cs) (m : Nat) : adv sz fw (perN sz fw (q.length + totM cs) * m) (q, cs) = (q, cs) := by
  obtain ⟨q0, j, a, b⟩ := reach M _ rfl v hb
  rw [← b, ← adv_add, Nat.add_comm, adv_add]
  congr 1
  have hl : least sz sz.length ≤ q0.length := by omega
  unfold perN
  rw [show lcmL ((cycs (tgt (rnd sz fw (q.length + totM cs))) (q.length + totM cs) (q.length + totM cs)).map List.length) * prodL sz * m = prodL sz * (lcmL ((cycs (tgt (rnd sz fw (q.length + totM cs))) (q.length + totM cs) (q.length + totM cs)).map List.length) * m) by rw [Nat.mul_comm _ (prodL sz), Nat.mul_assoc], adv_rounds M _ hl, a, ap_lcm (M.rnd_perm hb) a]
end R
namespace R
open PySem PySem.Spec PyProof.Rows L2
section
variable {X : Cx} {tg a b c : Expr} {ma mb mc mk : DE} {pos : Pos} {pr : List Nat} {pl : DP} {x y : Str}
end
section
variable {X : Cx} {a b : Expr} {ma mb : DE} {pos : Pos}
end
end R
namespace R
open PySem
theorem adv_modp {sz fw : List Nat} (M : RowM sz fw) {q : List Nat} {cs : List (List Nat)} (v : Val sz cs) (hb : least sz sz.length ≤ q.length + totM cs) (n : Nat) : adv sz fw n (q, cs) = adv sz fw (n % perN sz fw (q.length + totM cs)) (q, cs) := by
  have e := adv_per M v hb (n / perN sz fw (q.length + totM cs))
  have d := Nat.div_add_mod n (perN sz fw (q.length + totM cs))
  rw [← congrArg (fun m => adv sz fw m (q, cs)) d]
  show adv sz fw (_ + _) (q, cs) = _
  rw [adv_add, e]
theorem perN_pos {sz fw : List Nat} (M : RowM sz fw) {n : Nat} (hl : least sz sz.length ≤ n) : 0 < perN sz fw n := by
  have a := lcmL_pos (ks := (cycs (tgt (rnd sz fw n)) n n).map List.length) fun k m => by
    obtain ⟨c, hc, rfl⟩ := List.mem_map.mp m
    exact ((cycs_cyOk (Tg.of_perm (M.rnd_perm hl))).one c hc).1
  have b := (prodL_le M.s1).1
  unfold perN
  exact Nat.mul_pos (by omega) (by omega)
def bk (sz fw : List Nat) (n k : Nat) : Nat := ((0 - (k : Int)) % (perN sz fw n : Nat)).toNat
theorem bk_mod {P k : Nat} (h : 0 < P) : (k + ((0 - (k : Int)) % (P : Nat)).toNat) % P = 0 := by
  have e := Int.emod_nonneg (0 - (k : Int)) (b := (P : Nat)) (by omega)
  have f := Int.emod_add_mul_ediv (0 - (k : Int)) (P : Nat)
  have g : (((k + ((0 - (k : Int)) % (P : Nat)).toNat : Nat) : Int)) % (P : Nat) = 0 := by
    rw [Int.natCast_add, Int.toNat_of_nonneg e, show (k : Int) + (0 - (k : Int)) % (P : Nat) = (P : Nat) * (-((0 - (k : Int)) / (P : Nat))) by rw [Int.mul_neg]; omega, Int.mul_emod_right]
  omega
theorem adv_bk {sz fw : List Nat} (M : RowM sz fw) {q : List Nat} {cs : List (List Nat)} (v : Val sz cs) (hb : least sz sz.length ≤ q.length + totM cs) (k : Nat) : adv sz fw (k + bk sz fw (q.length + totM cs) k) (q, cs) = (q, cs) := by
  rw [adv_modp M v hb, show (k + bk sz fw (q.length + totM cs) k) % perN sz fw (q.length + totM cs) = 0 from bk_mod (perN_pos M hb)]
  rfl
end R
namespace R
open PySem
end R
namespace R
open PySem
end R
namespace R
open PySem
theorem adv_ctr {sz fw : List Nat} (M : RowM sz fw) : ∀ (n : Nat) {q : List Nat} {cs : List (List Nat)}, Val sz cs → least sz sz.length ≤ q.length + totM cs → Val sz (adv sz fw n (q, cs)).2 ∧ ctr sz (adv sz fw n (q, cs)).2 = (ctr sz cs + n) % prodL sz ∧ (adv sz fw n (q, cs)).1.length + totM (adv sz fw n (q, cs)).2 = q.length + totM cs
  | 0, q, cs, v, _ => by
    refine ⟨v, ?_, rfl⟩
    rw [Nat.add_zero, Nat.mod_eq_of_lt (by rw [prR_eq]; exact ctr_lt v)]
    rfl
  | n + 1, q, cs, v, hb => by
    have a := val_tot v
    have hls : least sz sz.length = (sz.map (· - 1)).sum + 1 := by unfold least; rw [List.take_length]
    have b := sum_pred M.s1
    cases q with
    | nil => rw [List.length_nil] at hb; omega
    | cons x q =>
      have c := csc_ctr (fw := fw) (m := x) (q := q) M.ne v
      have d := csc_tot (m := x) (q := q) M.ne M.fl M.fi v
      rw [List.length_cons] at hb
      obtain ⟨e1, e2, e3⟩ := adv_ctr M n (q := (csc sz fw cs x q).2) (cs := (csc sz fw cs x q).1) c.1 (by omega)
      refine ⟨e1, ?_, ?_⟩
      · show ctr sz (adv sz fw n ((csc sz fw cs x q).2, (csc sz fw cs x q).1)).2 = _
        rw [e2, c.2, prR_eq]
        have hlt := ctr_lt v
        split
        · rw [show ctr sz cs + 1 + n = ctr sz cs + (n + 1) by omega]
        · rw [show ctr sz cs + (n + 1) = n + prR sz by omega, Nat.add_mod_right, Nat.zero_add]
      · show (adv sz fw n ((csc sz fw cs x q).2, (csc sz fw cs x q).1)).1.length + totM (adv sz fw n ((csc sz fw cs x q).2, (csc sz fw cs x q).1)).2 = _
        rw [e3, List.length_cons]
        omega
end R
namespace R
open PySem PySem.Spec PyProof.Rows L2
section
variable {prog : Program} {w : World} {A : Around} {E : Value → Shared → Prop} {s : Shared}
end
end R
namespace R
open PySem PySem.Spec PyProof.Rows L2
def mDE : DE := fun _ Q => Q (.fz (.dct [] []))
section
variable {X : Cx} {a b c : Expr} {ma mb mc : DE} {pos : Pos}
theorem dp_dE : PE X (.Dict [] [] pos) (LP X.K mDE) := pe_imp pe_dnewK fun σ H Q h => by
  obtain ⟨W, env, fp, xf, Q0, E, S, hm, k⟩ := h
  intro p n
  have fr := S.free n
  have F : Frz X.K W (upd H p (.dK [])) [p] (W.put p (.dK [])) := (Frz.put ⟨fun _ _ => ⟨rfl, rfl⟩, fun _ m => (by cases m), fun _ m => (by cases m)⟩ upd_same fr.2 (by simp))
  have S1 := S.new (o := .dK []) n
  have t1 : Stp W H [] W (upd H p (.dK [])) := .new n
  have hnf : ∀ a ∈ [p], W.G a = none ∧ W.S a = none ∧ upd H p (.dK []) a ≠ none := fun a m => by
    rw [List.mem_singleton.mp m]
    exact ⟨fr.1, fr.2, by rw [upd_same]; exact fun z => nomatch z⟩
  refine k _ hm _ (W.put p (.dK [])) _ (t1.trans F.stp fun a m => .inr (by rw [List.mem_singleton.mp m]; exact n)) (F.sat S1 hnf fun a m => ?_) (.dct (kvs := []) upd_same .nil)
  rw [List.mem_singleton.mp m]
  exact ⟨fun q => (S.off p q).2.2 n, fun q => (S.xof p q).2.2 n⟩
end
end R
namespace R
open PySem
end R
namespace R
open PySem
end R
namespace R
open PySem PySem.Spec PyProof.Rows L2
section
variable {X : Cx} {a c : Expr} {ma : DE} {mx : DX} {pos : Pos}
end
end R
namespace R
open PySem
end R
namespace R
end R
namespace R
open PySem
section
variable {t : Nat → Nat} {n i : Nat} {c : List Nat}
end
end R
namespace R
open PySem PySem.Spec PyProof.Rows L2
section
variable {X : Cx} {a b c : Expr} {pos : Pos} {mr : DA}
end
end R
namespace R
open PySem PySem.Spec PyProof.Rows L2
section
variable {X : Cx} {a b c : Expr} {mb mc : DE} {pos : Pos} {pr : List Nat} {pl : DP}
end
end R
namespace R
open PySem
end R
namespace R
open PySem
def cntB (P : Nat → Bool) : Nat → Nat
  | 0 => 0
  | n + 1 => cntB P n + (if P n = true then 1 else 0)
def fstB (P : Nat → Bool) : Nat → Option Nat
  | 0 => none
  | n + 1 => (fstB P n).or (if P n = true then some n else none)
theorem adv_memb {sz fw : List Nat} (M : RowM sz fw) : ∀ (n : Nat) {q : List Nat} {cs : List (List Nat)}, Val sz cs → (memb (adv sz fw n (q, cs)).1 (adv sz fw n (q, cs)).2).Perm (memb q cs) ∧ Val sz (adv sz fw n (q, cs)).2
  | 0, q, cs, v => ⟨.refl _, v⟩
  | n + 1, [], cs, v => adv_memb M n v
  | n + 1, x :: q, cs, v => by
    obtain ⟨a, b⟩ := adv_memb M n (q := (csc sz fw cs x q).2) (csc_ctr (fw := fw) (m := x) (q := q) M.ne v).1
    exact ⟨a.trans (csc_perm M.ne M.fl M.fi v), b⟩
def pcN (cs : List (List Nat)) (k : Nat) : List Nat := cs.getD k []
def inC (sz fw : List Nat) (tg x : Nat) (s : List Nat × List (List Nat)) (k : Nat) : Bool := decide (x ∈ pcN (adv sz fw k s).2 tg)
end R
namespace R
open PySem
def og (l : List (Option Nat)) (i : Nat) : Option Nat := l.getD i none
structure VOk (sz fw : List Nat) (tg c : Nat) (v : List Nat × List (Option Nat)) (Q : List Nat) (rest : List (List Nat)) (W : Nat) : Prop where
  l1 : v.1.length = Q.length
  l2 : v.2.length = Q.length
  cnt : ∀ i, i < Q.length → pk v.1 i = cntB (inC sz fw tg (pk Q i) (Q, List.replicate c [] ++ rest)) W
  fst : ∀ i, i < Q.length → og v.2 i = fstB (inC sz fw tg (pk Q i) (Q, List.replicate c [] ++ rest)) W
end R
namespace R
open PySem PySem.Spec PyProof.Rows L2
section
variable {X : Cx} {a tg : Expr} {mx : DX} {g : DG} {pos : Pos} {pr : List Nat}
end
section
variable {X : Cx} {CX : CXT} {k np : Nat} {f C : Addr} {fd : FuncData} {ps ks : List Str} {sp : Sp} {E : XK} {x m : Str} {p pos apos kpos : Pos} {e o : Expr} {es : List Expr} {kws : List Keyword} {te ta : TE} {t tk : TA} {nm : Option Str} {g : List Value → List Value → List Value} {gV : List V → List V → List V}
end
structure MetKR (P : Program) (w : World) (K : PySem.W.Frag) (mg : Str → Option Value) (base : Heap) (C : Addr) (m : Str) (n : Nat) (F : Spec1) (np : Nat) (ks : List Str) (k : Nat) : Prop where
  ex : ∃ (f : Addr) (fd : FuncData) (ps : List Str) (g : List Value → List Value → List Value), Cls K C ∧ Meth K C m f ∧ FnOk P w K mg base CX0 k f fd ps (spR K n F.io) ∧ KBn K fd ps (np + 1) ks g (fun vs zs => vs ++ zs)
section
variable {X : Cx} {k j n np : Nat} {C : Addr} {F1 : Spec1} {x m : Str} {p pos apos : Pos} {e o : Expr} {es : List Expr} {mo : DE} {ma mk : DA} {kws : List Keyword} {ks : List Str}
end
end R
namespace R
open PySem PySem.Spec PyProof.Rows L2
section
variable {X : Cx} {tg : Expr} {g : DG} {m : DS} {s1 : List Stmt} {pos : Pos} {pr : List Nat}
theorem Post.less {K : PySem.W.Frag} {W : Wd} {H : Hp} {fp : List Addr} {i : Nat} {σ σ' : L2.St} {W' : Wd} {H' : Hp} {e : Env} {fp' xf' : List Addr} (P : Post K W H fp (i :: pr) σ σ' W' H' e fp' xf') : Post K W H fp pr σ σ' W' H' e fp' xf' :=
  ⟨P.t, P.E, P.S, P.nf, fun l m => P.pr l (List.mem_cons_of_mem _ m)⟩
theorem RtOk.more {K : PySem.W.Frag} {ex : Nat → Hp → Prop} {W : Wd} {H : Hp} {fp : List Addr} {i : Nat} {pr : List Nat} {σ : L2.St} {Kr : Rs → Env → Prop} {Dr : V → Hp → Prop} (rt : RtOk K ex W H fp pr σ Kr Dr) : RtOk K ex W H fp (i :: pr) σ Kr Dr :=
  ⟨fun r e q v σ' W' H' fp' xf' p o => rt.rt r e q v σ' W' H' fp' xf' p.less o, fun k e q σ' W' H' fp' xf' p => rt.x k e q σ' W' H' fp' xf' p.less⟩
end
end R
namespace R
open PySem PySem.Spec PyProof.Rows L2
section
variable {X : Cx} {a b c : Expr} {pos : Pos} {mr : DA}
end
end R
namespace R
open PySem
end R
namespace R
open PySem
section
variable {sz fw : List Nat} {c tg x : Nat} {q : List Nat} {rest : List (List Nat)}
end
section
variable {sz fw : List Nat} {tg : Nat} {q : List Nat}
end
def Fst (P : Nat → Bool) (a : Nat) : Option Nat → Prop
  | none => ∀ k, a ≤ k → P k = false
  | some k => a ≤ k ∧ P k = true ∧ ∀ j, a ≤ j → j < k → P j = false
theorem Fst.uniq {P : Nat → Bool} {a : Nat} {o o2 : Option Nat} (h : Fst P a o) (h2 : Fst P a o2) : o = o2 := by
  cases o with
  | none => cases o2 with
    | none => rfl
    | some k => have := h k h2.1; rw [h2.2.1] at this; cases this
  | some k => cases o2 with
    | none => have := h2 k h.1; rw [h.2.1] at this; cases this
    | some m =>
      rcases Nat.lt_trichotomy k m with z | z | z
      · have := h2.2.2 k h.1 z; rw [h.2.1] at this; cases this
      · rw [z]
      · have := h.2.2 m h2.1 z; rw [h2.2.1] at this; cases this
end R
namespace R
open PySem PySem.Spec PyProof.Rows L2
section
variable {X : Cx} {tg a b c : Expr} {ma mb mc : DE} {pos tpos : Pos} {ta tb : DT} {elts : List Expr} {kk : Nat}
end
end R
namespace R
open PySem
end R
namespace R
open PySem PySem.Spec PyProof.Rows L2
section
variable {X : Cx} {a : Expr} {lo hi : Option Expr} {ma : DE} {ml mh : DO} {pos : Pos}
end
end R
namespace R
open PySem
end R
namespace R
open PySem PySem.Spec PyProof.Rows
end R
namespace R
open PySem PySem.Spec PyProof.Rows L2
end R
namespace R
open PySem PySem.Spec PyProof.Rows L2
section
variable {prog : Program} {w : World} {A : Around} {E : Value → Shared → Prop} {s : Shared}
def ZipSt (h : Heap) (z TI TO i1 i2 l1 l2 : Addr) (k : Nat) : Prop :=
  IsPair h TI (.ref i1) (.ref i2) ∧ h.IsListIter i1 l1 k ∧ h.IsListIter i2 l2 k ∧ ((IsZip h z TI TO .none ∧ ∃ x y, IsPair h TO x y) ∨ ∃ T f o, IsZipHeld h z TI TO T f ∧ h.get? T = some o ∧ T ∉ [z, TI, TO, i1, i2])
theorem ZipSt.kept {h h' : Heap} {z TI TO i1 i2 l1 l2 : Addr} {k : Nat} (st : ZipSt h z TI TO i1 i2 l1 l2 k) (q : Addr) (hk : ∀ c o, c ≠ q → h.get? c = some o → h'.get? c = some o) (hq : ∀ o, h.get? q = some o → o.cls = .type "list") (hq2 : ∃ o, h'.get? q = some o) : ZipSt h' z TI TO i1 i2 l1 l2 k := by
  have no : ∀ {c : Addr} {o : Obj}, h.get? c = some o → o.cls ≠ .type "list" → h'.get? c = some o := fun {c o} e n => hk c o (fun z => n (hq o (z ▸ e))) e
  obtain ⟨hTI, ⟨o1, e1, c1, d1⟩, ⟨o2, e2, c2, d2⟩, hz⟩ := st
  refine ⟨no hTI (by simp), ⟨o1, no e1 (by rw [c1]; simp), c1, d1⟩, ⟨o2, no e2 (by rw [c2]; simp), c2, d2⟩, ?_⟩
  rcases hz with ⟨hz, x0, y0, hTO⟩ | ⟨T, f, o, hz, hT, hTn⟩
  · exact .inl ⟨no hz (by simp), x0, y0, no hTO (by simp)⟩
  · by_cases e : T = q
    · obtain ⟨o', ho'⟩ := hq2
      exact .inr ⟨T, f, o', no hz (by simp), e ▸ ho', hTn⟩
    · exact .inr ⟨T, f, o, no hz (by simp), hk _ _ e hT, hTn⟩
end
structure FrP (H : Hp) (q : Addr) (ps : List (Addr × V × V)) : Prop where
  no : ∀ p ∈ ps, H p.1 = none
  nq : ∀ p ∈ ps, p.1 ≠ q
  nd : (ps.map (·.1)).Nodup
section
variable {X : Cx} {pins : List (Addr × Obj)} {σ : L2.St} {a b q z TI TO i1 i2 : Addr} {xs ys : List V} {H0 : Hp} {A1 : Around} {Rs : Result → Shared → Prop}
end
end R
namespace R
open PySem PySem.Spec PyProof.Rows L2
section
variable {K : PySem.W.Frag} {W : Wd} {fp xf : List Addr} {q : Addr}
end
section
variable {X : Cx} {a b c : Expr} {ma mb mc : DE} {pos pos2 p p2 : Pos}
end
end R
namespace R
section
variable {sz fw : List Nat} {q : List Nat} {cs : List (List Nat)}
end
end R
namespace R
section
variable {sz fw : List Nat} {q : List Nat} {cs : List (List Nat)}
end
end R
namespace R
section
variable {sz fw : List Nat} {q : List Nat} {cs : List (List Nat)}
end
end R
namespace R
open PySem PySem.Spec PyProof.Rows L2
section
variable {X : Cx} {c o o1 o3 : Expr} {mc : DE} {pos p1 : Pos} {pr : List Nat} {es es1 es3 : List Expr} {i : Nat} {js : List Nat}
end
end R
namespace R
open PySem PySem.Spec PyProof.Rows L2
end R
namespace R
open PySem
section
variable {ss fs a a' b b' : List Nat} {s s' : Nat} {q : List Nat}
end
end R
namespace R
open PySem PySem.Spec PyProof.Rows L2
open AutoSeq1 (wpAny_loadPart')
section
variable {prog : Program} {w : World} {A : Around} {E : Value → Shared → Prop} {s : Shared}
end
section
variable {X : Cx} {a : Expr} {ma : DE} {pos tpos : Pos} {elts : List Expr} {kk : Nat}
end
end R
namespace R
open PySem PySem.Spec PyProof.Rows L2
section
variable {prog : Program} {w : World} {A : Around} {E : Value → Shared → Prop} {s : Shared} {K : PySem.W.Frag} {x y C f : Addr} {ox : Obj} {od : Option Obj}
end
section
variable {X : Cx} {CX : CXT} {C f : Addr} {fd : FuncData} {ps : List Str} {k : Nat} {sp : Sp} {E : XK}
end
section
variable (P : Program) (w : World) (K : PySem.W.Frag) (mg : Str → Option Value) (base : Heap)
structure EqR (C : Addr) (F : Spec1) (k : Nat) : Prop where
  ex : ∃ (f : Addr) (fd : FuncData) (ps : List Str), Meth K C "__eq__" f ∧ FnOk P w K mg base CX0 k f fd ps (spR K 2 F.io) ∧ Binds K fd ps []
end
section
variable {X : Cx} {k j : Nat} {C : Addr} {F1 : Spec1} {pos : Pos} {a b : Expr} {ma mb : DE}
end
end R
namespace R
open PySem
def rc : List Nat → List (List Nat) → List (List Nat)
  | s :: s2 :: ss, c :: cs => if s = 1 then rc (s2 :: ss) cs else c :: rc (s2 :: ss) cs
  | _, cs => cs
end R
namespace R
open PySem
inductive Bh (s : Nat) : List Nat → List Nat → Prop where
  | no (b : List Nat) : Bh s [] b
  | one {b : List Nat} : pk b 0 < s → pk b 0 + 1 ≠ s → Bh s [1] b
  | big {u : Nat} {v b : List Nat} : pk b 0 < s → 2 ≤ u → Bh s (u :: v) b
section
variable {ss fs a a' b b' : List Nat} {s s' : Nat} {q : List Nat}
end
end R
namespace R
open PySem PySem.Spec PyProof.Rows L2
section
variable {X : Cx} {es : List Expr} {gs : List DG} {pos : Pos}
end
end R
namespace R
open PySem PySem.Spec PyProof.Rows L2
section
variable {K : PySem.W.Frag} {W : Wd} {H : Hp} {fp xf : List Addr} {σ : L2.St} {env : Env}
end
section
variable {X : Cx} {a b a2 b2 c : Expr} {pl pl2 : DP} {mb mb2 mc : DE} {pos : Pos} {pr : List Nat}
end
end R
namespace R
open PySem
section
variable {q w c : List Nat}
end
end R
namespace R
open PySem
def IsOff (sz fw : List Nat) (A B : List Nat × List (List Nat)) : Option Nat → Prop
  | none => ∀ d, adv sz fw d A ≠ B
  | some D => adv sz fw D A = B ∧ ∀ d, d < D → adv sz fw d A ≠ B
structure StM (sz : List Nat) (n : Nat) (A : List Nat × List (List Nat)) : Prop where
  v : Val sz A.2
  t : A.1.length + totM A.2 = n
section
variable {sz fw : List Nat} {n : Nat} {A B : List Nat × List (List Nat)}
theorem StM.go (M : RowM sz fw) (hn : least sz sz.length ≤ n) (h : StM sz n A) (k : Nat) : StM sz n (R.adv sz fw k A) := by
  obtain ⟨q, c⟩ := A
  obtain ⟨a, _, b⟩ := adv_ctr M k (q := q) (cs := c) h.v (by have : q.length + totM c = n := h.t; omega)
  exact ⟨a, b.trans h.t⟩
theorem StM.cnt (M : RowM sz fw) (hn : least sz sz.length ≤ n) (h : StM sz n A) (k : Nat) : ctr sz (adv sz fw k A).2 = (ctr sz A.2 + k) % prodL sz := by
  obtain ⟨q, c⟩ := A
  exact (adv_ctr M k (q := q) (cs := c) h.v (by have : q.length + totM c = n := h.t; omega)).2.1
theorem StM.lt (h : StM sz n A) : R.ctr sz A.2 < prodL sz := by rw [prR_eq]; exact ctr_lt h.v
theorem StM.bk (M : RowM sz fw) (hn : least sz sz.length ≤ n) (h : StM sz n A) (k : Nat) : R.adv sz fw (k + R.bk sz fw n k) A = A := by
  obtain ⟨q, c⟩ := A
  have ht : q.length + totM c = n := h.t
  have := adv_bk M (q := q) (cs := c) h.v (by omega) k
  rw [ht] at this
  exact this
theorem IsOff.uniq {o o' : Option Nat} (h : IsOff sz fw A B o) (h' : IsOff sz fw A B o') : o = o' := by
  cases o with
  | none =>
    cases o' with
    | none => rfl
    | some D => exact absurd h'.1 (h D)
  | some D =>
    cases o' with
    | none => exact absurd h.1 (h' D)
    | some D' =>
      rcases Nat.lt_trichotomy D D' with z | z | z
      · exact absurd h.1 (h'.2 D z)
      · rw [z]
      · exact absurd h'.1 (h.2 D' z)
end
end R
namespace R
open PySem
section
variable {sz fw : List Nat} {n : Nat} {A B : List Nat × List (List Nat)}
theorem StM.nd (M : RowM sz fw) (h : StM sz n A) (nd : (memb A.1 A.2).Nodup) (k : Nat) : (memb (R.adv sz fw k A).1 (R.adv sz fw k A).2).Nodup := by
  obtain ⟨q, c⟩ := A
  exact (adv_memb M k (q := q) (cs := c) h.v).1.nodup_iff.mpr nd
theorem IsOff.ctr (M : RowM sz fw) (hn : least sz sz.length ≤ n) (hA : StM sz n A) {D : Nat} (h : IsOff sz fw A B (some D)) : ctr sz B.2 = (ctr sz A.2 + D) % prodL sz := by
  rw [← h.1]
  exact hA.cnt M hn D
end
theorem perm_inj {l : List Nat} {n : Nat} (hl : l.length = n) (lt : ∀ i, i < n → pk l i < n) (inj : ∀ i j, i < n → j < n → pk l i = pk l j → i = j) : l.Perm (List.range n) := by
  have nd : l.Nodup := by
    rw [List.nodup_iff_pairwise_ne, List.pairwise_iff_getElem]
    intro i j hi hj hij e
    rw [← pk_lt hi, ← pk_lt hj] at e
    have := inj i j (by omega) (by omega) e
    omega
  have al : ∀ x ∈ l, x < n := fun x m => by
    obtain ⟨i, hi, rfl⟩ := mem_pk m
    exact lt i (by omega)
  refine perm_range nd fun x => ⟨al x, fun hx => ?_⟩
  apply Classical.byContradiction
  intro z
  have := nodup_le (n := n) (c := x :: l) (List.nodup_cons.mpr ⟨z, nd⟩) fun y m => by
    rcases List.mem_cons.mp m with rfl | m
    · exact hx
    · exact al y m
  rw [List.length_cons] at this
  omega
theorem pk_set' {l : List Nat} {a s i : Nat} (hi : i < l.length) : pk (l.set a s) i = if i = a then s else pk l i := by
  rw [pk_lt (by rw [List.length_set]; exact hi), List.getElem_set]
  split
  · rename_i e; rw [if_pos e.symm]
  · rename_i e; rw [if_neg fun z => e z.symm, pk_lt hi]
theorem pk_rng {n i : Nat} (h : i < n) : pk (List.range n) i = i := by
  rw [pk_lt (by rw [List.length_range]; exact h), List.getElem_range]
structure RotI (c : List Nat) (n i : Nat) (l : List Nat) : Prop where
  len : l.length = n
  st : ∀ j, j < i → pk l (pk c ((j + 1) % c.length)) = pk c j
  ot : ∀ p, p < n → (∀ j, j < i → p ≠ pk c ((j + 1) % c.length)) → pk l p = p
theorem RotI.start (c : List Nat) (n : Nat) : RotI c n 0 (List.range n) := ⟨List.length_range, fun j h => absurd h (Nat.not_lt_zero j), fun p h _ => pk_rng h⟩
theorem mod_inj {l i j : Nat} (hi : i < l) (hj : j < l) (e : (i + 1) % l = (j + 1) % l) : i = j := by
  have f : ∀ x, x < l → (x + 1) % l = if x + 1 = l then 0 else x + 1 := fun x hx => by
    split
    · rename_i z; rw [z, Nat.mod_self]
    · exact Nat.mod_eq_of_lt (by omega)
  rw [f i hi, f j hj] at e
  split at e <;> split at e <;> omega
theorem RotI.step {c l : List Nat} {n i : Nat} (h : RotI c n i l) (hi : i < c.length) (nd : c.Nodup) (lt : ∀ x ∈ c, x < n) : RotI c n (i + 1) (l.set (pk c ((i + 1) % c.length)) (pk c i)) := by
  have hm : ∀ j, pk c ((j + 1) % c.length) < n := fun j => lt _ (pk_mem (Nat.mod_lt _ (by omega)))
  refine ⟨by rw [List.length_set]; exact h.len, fun j hj => ?_, fun p hp hn => ?_⟩
  · rw [pk_set' (by rw [h.len]; exact hm j)]
    by_cases z : j = i
    · rw [z, if_pos rfl]
    · rw [if_neg fun e => z (mod_inj (by omega) hi (nodup_pk nd (Nat.mod_lt _ (by omega)) (Nat.mod_lt _ (by omega)) e))]
      exact h.st j (by omega)
  · rw [pk_set' (by rw [h.len]; exact hp), if_neg (hn i (by omega))]
    exact h.ot p hp fun j hj => hn j (by omega)
theorem at_next {c : List Nat} {p : Nat} (m : p ∈ c) : ∃ j, j < c.length ∧ p = pk c ((j + 1) % c.length) := by
  obtain ⟨i, hi, rfl⟩ := mem_pk m
  cases i with
  | zero => exact ⟨c.length - 1, by omega, by rw [show c.length - 1 + 1 = c.length by omega, Nat.mod_self]⟩
  | succ i => exact ⟨i, by omega, by rw [Nat.mod_eq_of_lt hi]⟩
theorem RotI.perm {c l : List Nat} {n : Nat} (h : RotI c n c.length l) (nd : c.Nodup) (lt : ∀ x ∈ c, x < n) : l.Perm (List.range n) := by
  have val : ∀ p, p < n → (p ∈ c ∧ ∃ j, j < c.length ∧ p = pk c ((j + 1) % c.length) ∧ pk l p = pk c j) ∨ (p ∉ c ∧ pk l p = p) := fun p hp => by
    by_cases m : p ∈ c
    · obtain ⟨j, hj, e⟩ := at_next m
      exact .inl ⟨m, j, hj, e, by rw [e]; exact h.st j hj⟩
    · exact .inr ⟨m, h.ot p hp fun j hj e => m (by rw [e]; exact pk_mem (Nat.mod_lt _ (by omega)))⟩
  refine perm_inj h.len (fun i hi => ?_) fun i j hi hj e => ?_
  · rcases val i hi with ⟨_, j, hj, _, e⟩ | ⟨_, e⟩
    · rw [e]; exact lt _ (pk_mem hj)
    · rw [e]; exact hi
  · rcases val i hi with ⟨m1, a, ha, e1, f1⟩ | ⟨m1, f1⟩ <;> rcases val j hj with ⟨m2, b, hb, e2, f2⟩ | ⟨m2, f2⟩
    · rw [f1, f2] at e
      rw [e1, e2, nodup_pk nd ha hb e]
    · rw [f1, f2] at e
      exact absurd (by rw [← e]; exact pk_mem ha) m2
    · rw [f1, f2] at e
      exact absurd (by rw [e]; exact pk_mem hb) m1
    · rw [f1, f2] at e
      exact e
section
variable {sz fw : List Nat} {n : Nat}
end
end R
namespace R
open PySem PySem.Spec PyProof.Rows L2
theorem count_eqU {x : V} : ∀ {xs : List V} {us : List Value}, Vals xs us → xs.all flatV = true → us.countP (eqU x) = xs.countP fun y => eqV y x
  | _, _, .nil, _ => rfl
  | y :: xs, u :: us, .cons r t, f => by
    rw [List.all_cons, Bool.and_eq_true] at f
    rw [List.countP_cons, List.countP_cons, eqU_of r f.1, count_eqU t f.2]
section
variable {X : Cx}
def rCntF (K : PySem.W.Frag) : V → List V → Hp → VK → Prop := fun x xs H Q => ∃ (a : Addr) (ys : List V) (y : V), x = V.ref a ∧ xs = [y] ∧ SqL K H a ys ∧ flatV y = true ∧ ys.all flatV = true ∧ Q (.int ((ys.countP fun z => eqV z y : Nat) : Int)) H
theorem mt_cntF : MtR X "list.count" (rCntF X.K) := by
  intro pins s σ H x xs v us Q I rx rxs h
  obtain ⟨a, ys, y, rfl, rfl, hs, fy, fys, q⟩ := h
  cases rx
  cases rxs with
  | cons ry rt =>
    rename_i uy ut
    cases rt
    obtain ⟨its, rv, ⟨⟨cls, dd, data, sl⟩, n, ho, hc, hdn, hd⟩, hlen⟩ := I.list hs
    simp only at hc hd
    subst hc hd
    refine call_meets PySem.F.slot_list_count ⟨_, ho, rfl⟩ PySem.F.entry_list_count (PySem.F.args_list_count_2 _ _)
      (SeqAt.list_countAt a its.toArray n dd sl uy (eqU y)) ⟨ho, fun u' hu' => mem_eqAt ry fy rv fys u' (by simpa using hu'), ?_⟩
    have ec : its.toArray.toList.countP (eqU y) = ys.countP fun z => eqV z y := count_eqU rv fys
    refine ⟨.int ((ys.countP fun z => eqV z y : Nat) : Int), H, I.tok _, ⟨s.toks, ?_⟩, q⟩
    show Value.int ((its.toArray.toList.countP (eqU y) : Nat) : Int) s.toks = Value.int ((ys.countP fun z => eqV z y : Nat) : Int) s.toks
    rw [ec]
end
def oCnt (ds : List D) (y : Rs) (Q : Rs → Prop) : Prop := (∃ b bs, y = .fz (.bl b) ∧ allOf D.bl? ds = some bs ∧ Q (.fz (.int (bs.count b : Nat)))) ∨ (∃ z xs, y = .fz (.str z) ∧ allOf D.str? ds = some xs ∧ Q (.fz (.int (xs.count z : Nat)))) ∨
  ∃ i ns, y = .fz (.int i) ∧ allOf D.int? ds = some ns ∧ Q (.fz (.int (ns.count i : Nat)))
def mCnt (a b : DE) : DE := fun env Q => a env fun x => ∃ ds, x.ffz.els true = some ds ∧ b env fun y => oCnt ds y.ffz Q
section
variable {X : Cx} {a b : Expr} {ma mb : DE}
theorem cnt_map {α : Type} [BEq α] (f : α → V) (y : α) (h : ∀ z, eqV (f z) (f y) = (z == y)) : ∀ l : List α, (l.map f).countP (fun z => eqV z (f y)) = l.count y
  | [] => rfl
  | z :: l => by rw [List.map_cons, List.countP_cons, List.count_cons, h, cnt_map f y h l]
theorem flat_map {α : Type} (f : α → V) (h : ∀ z, flatV (f z) = true) (l : List α) : (l.map f).all flatV = true := by
  rw [List.all_map]
  exact List.all_eq_true.mpr fun z _ => h z
theorem dp_count (ha : PE X a (LP X.K ma)) (hb : PE X b (LP X.K mb)) {apos p2 : Pos} (hst : starEach [b] X.env = (false, eval b X.env) :: starEach [] X.env := by rfl)
    (hbase : attributeBase a "count" X.env (eval a X.env) = eval a X.env := by rfl) (hfew : ((backTo p2 (starEach [b] X.env)).all (fun x => !x.1) && (backToKw p2 (keywordEach [] X.env)).all (fun x => x.1.isSome)
      && decide ([b].length + ([] : List Keyword).length + (if ([] : List Keyword).isEmpty then 0 else 1) < 30)) = true := by rfl) (hline : (apos.endLine == p2.line) = true := by rfl) :
    PE X (.Call (.Attribute a "count" apos) [b] [] p2) (LP X.K (mCnt ma mb)) := pe_imp (pe_bm PySem.F.plainAttrs_list PySem.F.slot_list_count PySem.F.type_list_count mt_cntF ha (da_cons hb da_nil hst) hbase hfew hline hst) fun σ H Q h => by
  obtain ⟨W, env, fp, xf, Q0, E, S, hm, k⟩ := h
  refine ⟨W, env, fp, xf, _, E, S, hm, fun r1 ⟨ds, e, h1⟩ v1 W1' H1 t1' S1' o1' => ?_⟩
  obtain ⟨W1, t1, S1, _, o1⟩ := ffz_ok S t1' S1' o1'
  obtain ⟨p, vs, rfl, g, rs⟩ := els_L e o1 S1
  refine ⟨.inl ⟨rfl, _, .of g⟩, ?_⟩
  refine LA.next (m := mCons mb mNil) (E.keep S t1) S1 (Q1 := one1 fun r => oCnt ds r.ffz Q0) h1 fun us hr vs2 W2' H2 g2 t2' S2' E2 os G => ?_
  obtain ⟨r2, rfl, hq⟩ := one1_inv hr
  obtain ⟨v2, rfl, o2'⟩ := os.one G
  obtain ⟨W2, t2, S2, _, o2⟩ := ffz_ok S1 t2' S2' o2'
  have l := t2.le S1 fun _ m => by cases m
  have o3 := o1.keep t2 l
  obtain ⟨p', vs', ep, g', rs'⟩ := els_L e o3 S2
  cases ep
  rcases hq with ⟨b, bs, e2, e3, q⟩ | ⟨z, xs, e2, e3, q⟩ | ⟨i, ns, e2, e3, q⟩
  · have e4 := allOf_bls e3 rs'
    subst e4
    rw [e2] at o2
    cases (show Rep X.K W2 v2 (.bl b) from o2)
    refine ⟨p, _, .bl b, rfl, rfl, .of g', rfl, flat_map V.bl (fun _ => rfl) bs, ?_⟩
    rw [cnt_map V.bl b (fun _ => rfl)]
    exact k _ q _ W2 H2 (t1.tr0 t2) S2 (.int _)
  · have e4 := allOf_strs e3 rs'
    subst e4
    rw [e2] at o2
    cases str_of o2
    refine ⟨p, _, .str z, rfl, rfl, .of g', rfl, flat_map V.str (fun _ => rfl) xs, ?_⟩
    rw [cnt_map V.str z (fun _ => rfl)]
    exact k _ q _ W2 H2 (t1.tr0 t2) S2 (.int _)
  · have e4 := allOf_ints e3 rs'
    subst e4
    rw [e2] at o2
    cases int_of o2
    refine ⟨p, _, .int i, rfl, rfl, .of g', rfl, flat_map V.int (fun _ => rfl) ns, ?_⟩
    rw [cnt_map V.int i (fun _ => rfl)]
    exact k _ q _ W2 H2 (t1.tr0 t2) S2 (.int _)
end
end R
namespace R
open PySem PySem.Spec PyProof.Rows L2
section
variable {K : PySem.W.Frag} {W W1 W2 W' : Wd} {H H1 H2 H' : Hp} {f f1 fp fp1 fp2 xf xf1 xf2 : List Addr} {σ σ1 σ2 : L2.St} {Q : VK} {r : Rs} {v : V} {env env1 env2 : Env}
end
section
variable {X : Cx} {tg a b c : Expr} {ma mb mc : DE} {pos : Pos} {ta tb : DT} {st : Stmt} {rest s1 s2 : List Stmt} {m m1 m2 : DS} {pr : List Nat} {pl : DP} {x : Str} {C : Addr}
end
end R
namespace R
open PySem PySem.Spec PyProof.Rows L2
section
variable {prog : Program} {w : World} {A : Around} {E : Value → Shared → Prop} {s : Shared}
end
section
variable {X : Cx} {a b c : Expr} {ma mb mc : DE} {pos : Pos}
end
end R
namespace R
open PySem PySem.Spec PyProof.Rows L2
section
variable {X : Cx} {a : Expr} {ma : DE} {pos : Pos} {pr : List Nat} {es : List Expr}
end
end R
namespace R
open PySem PySem.Spec PyProof.Rows L2
def mKill (i : Nat) (a : DS) : DS := fun env D => ∃ r, env[i]? = some (some r) ∧ a (env.set i none) D
section
variable {X : Cx} {pr : List Nat} {m : DS} {st : Stmt}
theorem ds_kill {i : Nat} (h : PS X st (LS X.K ex pr m)) : PS X st (LS X.K ex pr (mKill i m)) := ps_imp h fun D σ H h => by
  obtain ⟨W, env, fp, xf, K0, E, S, ⟨r, he, hm⟩, nx, bk, ct, rt⟩ := h
  obtain ⟨v, ev, _⟩ := E.get he S
  obtain ⟨f, fp1, xf1, E1, p1, x1, ow⟩ := E.clear i (some v)
  have es : σ.set i (some v) = σ := List.set_getElem_self_some ev
  rw [es] at E1
  have sp : Sat X.K W H (f ++ fp1) xf1 := S.perm p1.symm x1
  exact LS.from (Post.move (pr := pr) E1 sp.less p1) hm nx bk ct rt
end
end R
namespace R
open PySem PySem.Spec PyProof.Rows L2
section
variable {X : Cx} {a b c d : Expr} {ma mb mc md : DE} {pos : Pos}
end
end R
namespace R
open PySem PySem.Spec PyProof.Rows L2
section
variable {X : Cx} {b c : Expr} {mb mc : DE} {pos p1 : Pos} {pr : List Nat} {x : Str}
end
end R
namespace R
open PySem PySem.Spec PyProof.Rows L2
section
variable {K : PySem.W.Frag} {W : Wd} {H : Hp}
end
section
variable {X : Cx} {a b c : Expr} {ma mb mc : DE} {mr : DA} {pos : Pos}
end
end R
namespace R
open PySem PySem.Spec PyProof.Rows L2
section
variable {X : Cx} {b : Expr} {mb : DE} {pos : Pos} {pr : List Nat} {x : Str}
end
end R
namespace R
theorem ite_eq {A B : Prop} : (fun c : Bool => if c = true then A else B) = fun c => (c = true → A) ∧ (c = false → B) := by
  funext c
  cases c with
  | true => exact propext ⟨fun h => ⟨fun _ => by rw [if_pos rfl] at h; exact h, fun z => by cases z⟩, fun h => by rw [if_pos rfl]; exact h.1 rfl⟩
  | false => exact propext ⟨fun h => ⟨(fun z => by cases z), fun _ => by rw [if_neg Bool.false_ne_true] at h; exact h⟩, fun h => by rw [if_neg Bool.false_ne_true]; exact h.2 rfl⟩
theorem if_p {t : DT} {a b : DS} {env : Env} {Z : DK} (h : t env fun c => (c = true → a env Z) ∧ (c = false → b env Z)) : mIfS t a b env Z := by
  show t env fun c => if c = true then a env Z else b env Z
  rw [ite_eq]
  exact h
theorem or_p {t u : DT} {env : Env} {Q : Bool → Prop} (h : t env fun c => (c = true → Q true) ∧ (c = false → u env Q)) : mOr t u env Q := by
  show t env fun c => if c = true then Q true else u env Q
  rw [ite_eq]
  exact h
end R
namespace R
open PySem
end R
namespace R
open PySem
end R
namespace R
open PySem
end R
namespace R
open PySem PySem.Spec PyProof.Rows L2
def oEqX (neg : Bool) (x y : Rs) (Q : Rs → Prop) : Prop := ∃ a b, x = .fz (.str a) ∧ y = .fz (.str b) ∧ Q (.fz (.bl (decide (a = b) != neg)))
section
variable {X : Cx} {a b c : Expr} {ma mb mc : DE} {pos : Pos} {mr : DA}
theorem X_ne {σ : L2.St} {H : Hp} {Q : VK} (h : LP X.K (mOp (oEqX true) ma mb) σ H Q) : tOp rNe (LP X.K ma) (LP X.K mb) σ H Q := h.two fun W fp xf Q0 r1 r2 v1 v2 W2 H2 hr O o1 o2 => by
  obtain ⟨x, y, rfl, rfl, hq⟩ := hr
  rw [str_of o1, str_of o2]
  refine ⟨rfl, O.fin hq ?_⟩
  rw [Bool.bne_true, show decide (V.str x = V.str y) = decide (x = y) from decide_eq_decide.mpr ⟨fun e => by cases e; rfl, fun e => by rw [e]⟩]
  exact .bl _
theorem dt_neX (ha : PE X a (LP X.K ma)) (hb : PE X b (LP X.K mb)) : PT X (.Compare a [.NotEq] [b] pos) (LT X.K (mT (mOp (oEqX true) ma mb))) := dt_of op_ne (fun _ _ _ h => X_ne h) ha hb (nomark _)
end
end R
namespace R
open PySem PySem.Spec PyProof.Rows L2
section
variable {K : PySem.W.Frag} {W W1 W2 W' : Wd} {H H1 H2 H' : Hp} {f f1 fp xf : List Addr} {σ : L2.St} {env : Env}
theorem Stp.at (t : Stp W H [] W' H') {r : Addr} {o : HO} (h : H r = some o) (s : W.S r = none) : H' r = some o := t.kp r o h (by simp) s
theorem LcOk.outer {D r : Addr} {acc : List OT} {o0 o : HO} (L : LcOk K W H fp xf D acc W' H') (hr : H r = some o0) (hg : W.G r = none) (hs : W.S r = none) : LcOk K W (upd H r o) fp xf D acc W' (upd H' r o) := by
  obtain ⟨vs, g, hD, ow, nd, z⟩ := L.own
  have al := some_ne hr
  obtain ⟨e1, e2⟩ := L.t.kpS al
  have ne : ∀ a ∈ D :: g, a ≠ r := fun a m e => by rw [e] at m; rw [(z r m).1] at hr; cases hr
  have nn : ∀ a, upd H r o a ≠ none → H a ≠ none := fun a q => by
    by_cases e : a = r
    · rw [e]; exact al
    · rw [upd_ne e] at q; exact q
  refine ⟨⟨fun a n m => L.t.wx a (nn a n) m, fun a u e m s => ?_, fun a n => ?_⟩, L.S.wr (e1.trans hg) (e2.trans hs), vs, g, by rw [upd_ne (ne D List.mem_cons_self)]; exact hD, ow.mono (.refl _) fun a m u e => by rw [upd_ne (ne a (List.mem_cons_of_mem _ m))]; exact e, nd, fun a m => ⟨by rw [upd_ne (ne a m)]; exact (z a m).1, (z a m).2⟩⟩
  · by_cases q : a = r
    · rw [q, upd_same] at e ⊢; exact e
    · rw [upd_ne q] at e ⊢; exact L.t.kp a u e m s
  · by_cases q : a = r
    · rw [q, upd_same]; exact fun z => nomatch z
    · rw [upd_ne q]; exact L.t.al a (nn a n)
end
section
variable {X : Cx} {a b c : Expr} {ma mb mc : DE} {pos : Pos} {pr : List Nat} {tg elt iter : Expr} {scope : Scope} {own : List (Str × Nat)} {mz : DE}
end
end R
namespace R
open PySem PySem.Spec PyProof.Rows L2
section
variable {X : Cx} {a b c : Expr} {x y z : Str} {ma mb mc : DE} {pos : Pos} {pr : List Nat}
end
end R
namespace R
open PySem
def uS : List Bool → List Nat → List Nat
  | true :: m, sz => 1 :: uS m sz
  | false :: m, s :: sz => s :: uS m sz
  | _, _ => []
def uF : List Bool → List Nat → List Nat
  | true :: m, fw => 0 :: uF m fw
  | false :: m, f :: fw => f :: uF m fw
  | _, _ => []
def uK : List Bool → List (List Nat) → List (List Nat)
  | true :: m, cs => [] :: uK m cs
  | false :: m, c :: cs => c :: uK m cs
  | _, _ => []
inductive Mks : List Bool → Nat → Prop where
  | one : Mks [false] 1
  | unit {m : List Bool} {n : Nat} : Mks m n → Mks (true :: m) n
  | cup {m : List Bool} {n : Nat} : Mks m n → Mks (false :: m) (n + 1)
theorem Mks.pos {m : List Bool} {n : Nat} (h : Mks m n) : 1 ≤ n := by induction h <;> omega
theorem Mks.le {m : List Bool} {n : Nat} (h : Mks m n) : n ≤ m.length := by
  induction h with
  | one => exact Nat.le_refl _
  | unit _ ih => rw [List.length_cons]; omega
  | cup _ ih => rw [List.length_cons]; omega
theorem Mks.cnt {m : List Bool} {n : Nat} (h : Mks m n) : m.count false = n := by
  induction h with
  | one => rfl
  | unit _ ih => rw [List.count_cons, ih] <;> rfl
  | cup _ ih => rw [List.count_cons, ih] <;> rfl
theorem uS_len {m : List Bool} {n : Nat} (h : Mks m n) : ∀ {sz : List Nat}, sz.length = n → (uS m sz).length = m.length := by
  induction h with
  | one =>
    intro sz e
    match sz, e with
    | [s], _ => rfl
  | unit _ ih => intro sz e; rw [uS, List.length_cons, List.length_cons, ih e]
  | cup _ ih =>
    intro sz e
    match sz, e with
    | s :: sz, e => rw [uS, List.length_cons, List.length_cons, ih (by simpa using e)]
theorem uF_len {m : List Bool} {n : Nat} (h : Mks m n) : ∀ {fw : List Nat}, fw.length + 1 = n → (uF m fw).length + 1 = m.length := by
  induction h with
  | one =>
    intro sz e
    match sz, e with
    | [], _ => rfl
  | unit _ ih => intro sz e; rw [uF, List.length_cons, List.length_cons, ih e]
  | cup h ih =>
    intro sz e
    have := h.pos
    match sz, e with
    | [], e => simp at e; omega
    | s :: sz, e => rw [uF, List.length_cons, List.length_cons, ih (by simpa using e)]
theorem Mks.cons {m : List Bool} {n : Nat} (h : Mks m n) {sz : List Nat} (e : sz.length = n) : ∃ s l, uS m sz = s :: l := by
  have a := uS_len h e
  have b := h.le
  have c := h.pos
  cases q : uS m sz with
  | nil => rw [q] at a; rw [List.length_nil] at a; omega
  | cons s l => exact ⟨s, l, rfl⟩
theorem Val.ins {m : List Bool} {n : Nat} (h : Mks m n) : ∀ {sz : List Nat} {cs : List (List Nat)}, sz.length = n → Val sz cs → Val (uS m sz) (uK m cs) := by
  induction h with
  | one =>
    intro sz cs e v
    match sz, e, cs, v with
    | [s], _, [c], v => exact v
  | unit _ ih => intro sz cs e v; exact .cons (by decide) (ih e v)
  | cup _ ih =>
    intro sz cs e v
    match sz, e, cs, v with
    | s :: sz, e, c :: cs, .cons h v => exact .cons h (ih (by simpa using e) v)
theorem fi_ins {m : List Bool} {n : Nat} (h : Mks m n) : ∀ {sz fw : List Nat}, sz.length = n → fw.length + 1 = n → (∀ i, i < fw.length → pk fw i < pk sz i) → ∀ i, i < (uF m fw).length → pk (uF m fw) i < pk (uS m sz) i := by
  induction h with
  | one =>
    intro sz fw e1 e2 _ i hi
    match fw, e2 with
    | [], _ => exact absurd hi (Nat.not_lt_zero _)
  | unit _ ih =>
    intro sz fw e1 e2 hf i hi
    rw [uF, uS]
    rw [uF, List.length_cons] at hi
    cases i with
    | zero => exact Nat.zero_lt_one
    | succ i => exact ih e1 e2 hf i (by omega)
  | cup h ih =>
    intro sz fw e1 e2 hf i hi
    have hp := h.pos
    match sz, e1, fw, e2 with
    | s :: sz, e1, f :: fw, e2 =>
      rw [uF, uS]
      rw [uF, List.length_cons] at hi
      cases i with
      | zero => exact hf 0 (by simp)
      | succ i => exact ih (by simpa using e1) (by simpa using e2) (fun j hj => hf (j + 1) (by rw [List.length_cons]; omega)) i (by omega)
    | s :: sz, e1, [], e2 => simp at e2; omega
theorem s_ins {m : List Bool} {n : Nat} (h : Mks m n) : ∀ {sz : List Nat}, sz.length = n → ∀ s ∈ uS m sz, s = 1 ∨ s ∈ sz := by
  induction h with
  | one =>
    intro sz e s hs
    match sz, e with
    | [t], _ => exact .inr hs
  | unit _ ih =>
    intro sz e s hs
    rw [uS] at hs
    rcases List.mem_cons.mp hs with rfl | hs
    · exact .inl rfl
    · exact ih e s hs
  | cup _ ih =>
    intro sz e s hs
    match sz, e with
    | t :: sz, e =>
      rw [uS] at hs
      rcases List.mem_cons.mp hs with rfl | hs
      · exact .inr List.mem_cons_self
      · exact (ih (sz := sz) (by simpa using e) s hs).imp id (List.mem_cons_of_mem _)
theorem RowM.ins {m : List Bool} {sz fw : List Nat} (M : RowM sz fw) (h : Mks m sz.length) : RowM (uS m sz) (uF m fw) := by
  have a := uS_len h rfl
  have b := uF_len h M.fl
  have c := h.le
  have d := M.l0
  exact ⟨by omega, by omega, fun s hs => (s_ins h rfl s hs).elim (fun e => by omega) (M.s1 s), fi_ins h rfl M.fl M.fi⟩
end R
namespace R
open PySem PySem.Spec PyProof.Rows L2
section
variable {K : PySem.W.Frag} {W W1 W2 W' : Wd} {H H1 H2 H' : Hp} {f f1 fp xf : List Addr} {σ : L2.St}
end
section
variable (P : Program) (w : World) (K : PySem.W.Frag) (mg : Str → Option Value) (base : Heap)
structure CalZ (x : Str) (n : Nat) (F : Spec1) (ks : List Str) (k : Nat) : Prop where
  ex : ∃ (f : Addr) (fd : FuncData) (ps : List Str) (g : List Value → List Value → List Value), FnOk P w K mg base CX0 k f fd ps (spR K n F.io) ∧ mg x = some (.ref f) ∧ PySem.W.keepIn K (.ref f) = true ∧ KBn K fd ps 0 ks g (fun _ zs => zs.reverse)
structure MetZ (C : Addr) (m : Str) (n : Nat) (F : Spec1) (ks : List Str) (k : Nat) : Prop where
  ex : ∃ (f : Addr) (fd : FuncData) (ps : List Str) (g : List Value → List Value → List Value), Cls K C ∧ Meth K C m f ∧ FnOk P w K mg base CX0 k f fd ps (spR K n F.io) ∧ KBn K fd ps 1 ks g (fun vs zs => vs ++ zs.reverse)
structure MakZ (x : Str) (C : Addr) (n : Nat) (F : Spec) (ks : List Str) (k : Nat) : Prop where
  ex : ∃ (f : Addr) (fd : FuncData) (ps : List Str) (g : List Value → List Value → List Value), Mk K C f ∧ FnOk P w K mg base CX0 k f fd ps (spR K n F) ∧ mg x = some (.ref C) ∧ KBn K fd ps 1 ks g (fun vs zs => vs ++ zs.reverse)
end
section
variable {X : Cx} {CX : CXT} {k j n np : Nat} {f C : Addr} {fd : FuncData} {ps ks : List Str} {sp : Sp} {E : XK} {x m : Str} {p pos apos kpos : Pos} {e o : Expr} {es : List Expr} {kws : List Keyword} {te ta : TE} {t tk : TA} {nm : Option Str} {g : List Value → List Value → List Value} {gV : List V → List V → List V} {F1 : Spec1} {F0 : Spec} {mo : DE} {mk : DA}
end
section
variable {K : PySem.W.Frag} {x qual : Str} {params : Arguments} {body : List Stmt} {scope : Scope} {kws : List (Str × V)} {f : Addr} {fd : FuncData} {ps : List Str}
end
end R
namespace R
open PySem PySem.Spec PyProof.Rows L2
section
variable {X : Cx} {k j n i : Nat} {F0 : Spec} {dv : List D} {m nm : Str} {p pos apos : Pos} {e : Expr} {es : List Expr} {ma : DA} {C : Addr}
end
end R
namespace R
open PySem PySem.Spec PyProof.Rows L2
def exK (ad : Nat → Addr) (E : XK) : Nat → Hp → Prop := fun k H => match fldOf k with
  | none => E (.ref (ad k)) none H
  | some p => ∀ d, H d = some (.xd [(p.1, .str p.2)]) → E (.ref (ad k)) (some d) H
theorem exK_fld {ad : Nat → Addr} {E : XK} {k : Nat} {H : Hp} {p : Str × Str} {d : Addr} (hf : fldOf k = some p) (h : exK ad E k H) (hd : H d = some (.xd [(p.1, .str p.2)])) : E (.ref (ad k)) (some d) H := by
  unfold exK at h
  rw [hf] at h
  exact h d hd
theorem exK_mk {ad : Nat → Addr} {E : XK} {k : Nat} {H : Hp} (h1 : fldOf k = none → E (.ref (ad k)) none H) (h2 : ∀ p d, fldOf k = some p → H d = some (.xd [(p.1, .str p.2)]) → E (.ref (ad k)) (some d) H) : exK ad E k H := by
  unfold exK
  cases e : fldOf k with
  | none => exact h1 e
  | some p => exact fun d hd => h2 p d e hd
def mRaise (k : Nat) : DS := fun env D => D.rt (.fz (.exn k)) env
def LPX (K : PySem.W.Frag) (ex : Nat → Hp → Prop) (m : DE) : TE := fun σ H Q => ∃ (W : Wd) (env : Env) (fp xf : List Addr) (Q0 : Rs → Prop), EnvOk K W H σ env fp xf ∧ Sat K W H fp xf ∧ m env Q0 ∧
  (∀ r, Q0 r → ∀ v W' H', Stp W H [] W' H' → Sat K W' H' fp xf → ResOk K H fp W' H' v r → Q v H') ∧ ∀ k, Q0 (.fz (.exn k)) → ∀ W' H', Stp W H [] W' H' → Sat K W' H' fp xf → ex k H'
def spX (K : PySem.W.Frag) (ad : Nat → Addr) (n : Nat) (F : Spec) : Sp := fun vs H Q E => vs.length = n ∧ ∃ (W : Wd) (ss : Env) (fp xf : List Addr) (Q0 : Rs → Env → Prop), EnvOk K W H (vs.map some) ss fp xf ∧ Sat K W H fp xf ∧ F ss Q0 ∧
  (∀ r ss', Q0 r ss' → ∀ v W' H' fp' xf', Stp W H fp W' H' → EnvOk K W' H' (vs.map some) ss' fp' xf' → Sat K W' H' fp' xf' → (∀ a ∈ fp', a ∈ fp ∨ H a = none) → RetOk K H fp fp' W' H' v r → Q v H') ∧
  ∀ k ss', Q0 (.fz (.exn k)) ss' → ∀ W' H' fp' xf', Stp W H fp W' H' → EnvOk K W' H' (vs.map some) ss' fp' xf' → Sat K W' H' fp' xf' → (∀ a ∈ fp', a ∈ fp ∨ H a = none) → exK ad E k H'
def Rs.exq (r : Rs) (x : Nat → Prop) (n : Prop) : Prop := match r with
  | .fz (.exn k) => x k
  | _ => n
theorem exq_ok {K : PySem.W.Frag} {H H' : Hp} {fp : List Addr} {W' : Wd} {v : V} {r : Rs} {x : Nat → Prop} {n : Prop} (h : r.exq x n) (o : ResOk K H fp W' H' v r) : n := by
  unfold Rs.exq at h
  split at h
  · rename_i k
    have o : Rep K W' v (.exn k) := o
    cases o
  · exact h
def mDropE (a : DE) : DS := fun env D => a env fun r => r.exq (fun k => D.rt (.fz (.exn k)) env) (D.nx env)
section
variable {X : Cx} {a b c : Expr} {ma mb mc : DE} {pos : Pos} {pr : List Nat} {ex : Nat → Hp → Prop} {ad : Nat → Addr} {E : XK} {x : Str}
theorem ds_dropE (ha : PE X a (LPX X.K ex ma)) (hs : swapsWith a none pos.line X.env = pure false := by rfl) : PS X (.Expr a pos) (LS X.K ex pr (mDropE ma)) := ps_imp (ps_expr ha hs) fun D σ H h => by
  obtain ⟨W, env, fp, xf, K0, En, S, hm, nx, bk, ct, rt⟩ := h
  exact ⟨W, env, fp, xf, _, En, S, hm, fun r hr v W1 H1 t1 S1 o => nx env (exq_ok hr o) σ W1 H1 fp xf (.pure t1 (En.keep S t1) S1), fun k hk W1 H1 t1 S1 => rt.x k env hk σ W1 H1 fp xf (.pure t1 (En.keep S t1) S1)⟩
end
end R
namespace R
open PySem PySem.Spec PyProof.Rows L2
section
variable {K : PySem.W.Frag} {W W1 W2 W' : Wd} {H H1 H2 H' : Hp} {f f1 fp fp1 fp2 xf xf1 xf2 : List Addr} {σ σ1 σ2 : L2.St} {Q : VK} {r : Rs} {v : V} {env env1 env2 : Env}
theorem call1X {ad : Nat → Addr} {F : Spec1} {vs dvs : List V} {rs : List Rs} {dv : List D} {n : Nat} {E : XK} {Q0 : Rs → Prop} {g : List Addr} (hn : (vs ++ dvs).length = n) (O : Ops K H Q Q0 W2 H2 W fp xf) (ox : ∀ k, Q0 (.fz (.exn k)) → ∀ W' H', Stp W H [] W' H' → Sat K W' H' fp xf → exK ad E k H') (os : ResAll K H fp W2 H2 vs rs g) (G : Fresh H W2 g) (hd : ∀ W, RepAll K W dvs dv)
    (h : F (rs.map (fun r => some r.arg) ++ dv.map fun d => some (.fz d)) fun r => r.own ∧ Q0 r) : spX K ad n F.io (vs ++ dvs) H2 Q E := by
  obtain ⟨xf1, E1, z1⟩ := os.lend fun a m => (G.2 a m).2.2
  obtain ⟨xf2, E2, z2⟩ := (EnvOk.consts (hd W2)).app E1
  have S2 : Sat K W2 H2 [] xf2 := O.S2.only fun a m => (z2 a m).elim (z1 a) fun m => by cases m
  rw [← List.map_append] at E2
  refine ⟨hn, W2, _, [], xf2, fun r _ => r.own ∧ Q0 r, E2, S2, h, fun r ss' ⟨ho, q⟩ v W' H' fp' xf' t E' S' nf o => ?_, fun k ss' ⟨_, q⟩ W' H' fp' xf' t E' S' nf => ox k q W' H' (O.t.tr0 t) (O.S2.back t (S'.sublist (List.nil_sublist _) fun _ m => m))⟩
  have Sb := O.S2.back t (S'.sublist (List.nil_sublist _) fun _ m => m)
  refine O.k r q v W' H' (O.t.tr0 t) Sb ?_
  cases r with
  | fz d => exact o
  | nw x =>
    obtain ⟨f, ow, nd, z⟩ := o
    refine ⟨f, ow, nd, fun a m => ⟨?_, (z a m).2.2⟩⟩
    rcases (z a m).1 with q | q
    · cases q2 : H a with
      | none => rfl
      | some o => exact absurd q (O.t.al a (some_ne q2))
    · cases q
  | br x => exact ho.elim
  | ex x => exact ho.elim
end
section
variable {P : Program} {w : World} {K : PySem.W.Frag} {mg : Str → Option Value} {base : Heap}
theorem fn_RX {ad : Nat → Addr} {x qual : Str} {params : Arguments} {bodyS : List Stmt} {scope : Scope} {dfl : List V} {kws : List (Str × V)} {f : Addr} {fd : FuncData} {N ps : List Str} {k n : Nat} {F0 : Spec} {pr : List Nat} {m : DS} (F : FunD K x qual params bodyS scope dfl kws f fd) (S : FnScope N ps scope) (hn : ps.length = n)
    (body : ∀ (cdv : Value) (A : Around) (outer : List PySem.Env) (s : Shared) (H : Hp) (E : XK), Room k (A.deeper (envOfC qual scope s.heap.objs.size f cdv)) → PSs (cxOf (L2.CX P w) P w K mg base N qual scope f cdv A outer s H E) bodyS (LS K (exK ad E) pr m))
    (wp : ∀ ss Q0, ss.length = n → F0 ss Q0 → m (ss ++ List.replicate (N.length - n) none) { nx := fun e => Q0 (.fz .non) (outs pr n e), rt := fun r e => Q0 r (outs pr n e) }) : FnOk P w K mg base (L2.CX P w) (k + 1) f fd ps (spX K ad n F0) := by
  refine def_ok F S (fun vs H Q E h => by rw [hn]; exact h.1) (fun cdv A outer s H vs Q E hr h => ⟨LS K (exK ad E) pr m, body cdv A outer s H E hr, ?_⟩)
  obtain ⟨hl, W, ss, fp, xf, Q0, E0, S0, hF, kk, kx⟩ := h
  have hss : ss.length = n := by
    have e := E0.len
    rw [List.length_map] at e
    omega
  obtain ⟨xf1, E1, z1⟩ := start_env (N := N) E0 hl
  have pick : ∀ {σ' : L2.St} {e : Env} {W' : Wd} {H' : Hp} {fp' xf' : List Addr}, Post K W H fp pr (L2.start N vs) σ' W' H' e fp' xf' → ∃ fp2 xf2, EnvOk K W' H' (vs.map some) (outs pr n e) fp2 xf2 ∧ fp2.Sublist fp' ∧ ∀ a ∈ xf2, a ∈ xf' := by
    intro σ' e W' H' fp' xf' Pt
    refine Pt.E.pick _ _ ?_ fun i s hs => ?_
    · unfold outs
      rw [List.length_map, List.length_map, List.length_range, hl]
    · unfold outs at hs
      rw [List.getElem?_map] at hs
      cases q : (List.range n)[i]? with
      | none => rw [q] at hs; cases hs
      | some j =>
        obtain ⟨hi, ej⟩ := List.getElem?_eq_some_iff.mp q
        rw [List.getElem_range] at ej
        subst ej
        rw [List.length_range] at hi
        rw [q] at hs
        have hs : some (if i ∈ pr then (e[i]?).join else none) = some (some s) := hs
        by_cases hp : i ∈ pr
        · rw [if_pos hp] at hs
          have e2 : (e[i]?).join = some s := Option.some.inj hs
          have e3 : e[i]? = some (some s) := by
            cases q2 : e[i]? with
            | none => rw [q2] at e2; cases e2
            | some y => rw [q2] at e2; exact congrArg some e2
          refine ⟨e3, ?_⟩
          have h4 := Pt.pr i hp
          have h5 : (L2.start N vs)[i]? = (vs.map some)[i]? := by
            unfold L2.start
            rw [List.getElem?_append_left (by rw [List.length_map]; omega)]
          rw [h4, h5]
        · rw [if_neg hp] at hs
          cases hs
  have fin : ∀ r e, Q0 r (outs pr n e) → ∀ v σ' W' H' fp' xf', Post K W H fp pr (L2.start N vs) σ' W' H' e fp' xf' → RetOk K H fp fp' W' H' v r → Q v H' := fun r e q v σ' W' H' fp' xf' Pt o => by
    obtain ⟨fp2, xf2, E2, sl, z2⟩ := pick Pt
    refine kk r _ q v W' H' fp2 xf2 Pt.t E2 (Pt.S.sublist sl z2) (fun a m => Pt.nf a (sl.subset m)) ?_
    cases r with
    | fz d => exact o
    | nw t =>
      obtain ⟨f, ow, nd, z⟩ := o
      exact ⟨f, ow, nd, fun a m => ⟨(z a m).1, fun q => (z a m).2.1 (sl.subset q), (z a m).2.2⟩⟩
    | br t => exact o
    | ex t => exact o
  refine ⟨W, _, fp, xf1, _, E1, S0.less0 z1, wp ss Q0 hss hF, fun e q σ' W' H' fp' xf' Pt => fin _ e q .non σ' W' H' fp' xf' Pt Rep.non, fun _ q => q.elim, fun _ q => q.elim, ⟨fin, fun k2 e q σ' W' H' fp' xf' Pt => by
    obtain ⟨fp2, xf2, E2, sl, z2⟩ := pick Pt
    exact kx k2 _ q W' H' fp2 xf2 Pt.t E2 (Pt.S.sublist sl z2) (fun a m => Pt.nf a (sl.subset m))⟩⟩
end
section
variable (P : Program) (w : World) (K : PySem.W.Frag) (mg : Str → Option Value) (base : Heap) (ad : Nat → Addr)
structure CalX (x : Str) (n : Nat) (F : Spec1) (dv : List D) (k : Nat) : Prop where
  ex : ∃ (f : Addr) (fd : FuncData) (ps : List Str) (ds : List Value) (dvs : List V), FnOk P w K mg base (L2.CX P w) k f fd ps (spX K ad n F.io) ∧ mg x = some (.ref f) ∧ PySem.W.keepIn K (.ref f) = true ∧ Binds K fd ps ds ∧ Vals dvs ds ∧ ∀ W, RepAll K W dvs dv
structure MetX (C : Addr) (m : Str) (n : Nat) (F : Spec1) (dv : List D) (k : Nat) : Prop where
  ex : ∃ (f : Addr) (fd : FuncData) (ps : List Str) (ds : List Value) (dvs : List V), Cls K C ∧ Meth K C m f ∧ FnOk P w K mg base (L2.CX P w) k f fd ps (spX K ad n F.io) ∧ Binds K fd ps ds ∧ Vals dvs ds ∧ ∀ W, RepAll K W dvs dv
end
section
variable {X : Cx} {CX : CXT} {k j n : Nat} {f C : Addr} {fd : FuncData} {ps : List Str} {F1 : Spec1} {F0 : Spec} {dvs : List V} {dv : List D} {ds : List Value} {E : XK} {x m : Str} {p pos apos : Pos} {e o : Expr} {es : List Expr} {mo : DE} {ma : DA}
theorem call_allX {ad : Nat → Addr} {σ : L2.St} {H : Hp} {Q : VK} (hd : ∀ W, RepAll X.K W dvs dv) (h : LPX X.K (exK ad E) (mCall n F1 ma dv) σ H Q) : tCall (spX X.K ad n F1.io) dvs E (LA X.K ma) σ H Q := by
  obtain ⟨W, env, fp, xf, Q0, En, S, hm, k, kx⟩ := h
  refine LA.next En S hm fun rs ⟨hn, hr⟩ vs W1 H1 g t1 S1 E1 os G => ?_
  obtain ⟨W4, g', t4, S4, _, _, o4, G4, _, _⟩ := os.ffz (.refl _) rfl S t1 S1 G.1 G.2
  rw [args_eq] at hr
  exact call1X ((args_len os.len (hd W1).len).symm.trans hn) ⟨S, t4, S4, k⟩ kx o4 G4 hd hr
theorem dp_calX {ad : Nat → Addr} (c : CalX X.prog X.w X.K X.mg X.base ad x n F1 dv k) (hr : Room j X.A) (hk : k ≤ j) (tk : Takes X (fun cls d _ H => E cls d H)) (ha : PA X (e :: es) (LA X.K ma))
    (hg : Gl X x := by rfl) (hst : starEach (e :: es) X.env = (false, eval e X.env) :: starEach es X.env := by rfl) (hpl : (backTo pos (starEach es X.env)).any (·.1) = false := by rfl) (hdb : (x == ("__debug__" : Str)) = false := by decide) :
    PE X (.Call (.Name x p) (e :: es) [] pos) (LPX X.K (exK ad E) (mCall n F1 ma dv)) := by
  obtain ⟨f, fd, ps, ds, dvs, F, hm, kp, b, d, r⟩ := c.ex
  exact pe_imp (pe_call F (hr.mono hk) hg hm kp b d (E := E) (passes_call tk fun _ _ _ _ h => h) ha hdb hst hpl) fun σ H Q h => call_allX r h
end
end R
namespace R
open PySem PySem.Spec PyProof.Rows L2
abbrev lamQ (X : Cx) : Str := X.env.qual ++ "<lambda>"
def Made1 (H H1 : Hp) (P : Addr) (ps : Array Value) (c : Addr) (q : Str) : Prop :=
  (H1 = H ∧ ∃ pos, codeAmong pos ps.toList = some (.ref c)) ∨ ∃ pos : Pos, H c = none ∧ H1 = upd (upd H P (.tbl (ps ++ #[rawInt pos.line, rawInt pos.col, .ref c]))) c (LamX.CodeO c q)
section
variable {X : Cx} {pins : List (Addr × Obj)} {σ : L2.St} {H HZ : Hp} {s s1 : Shared}
theorem lam_new {c P : Addr} {ps : Array Value} {params : Arguments} {body : Expr} {scope : Scope} {pos : Pos} {Q E : Value → Shared → Prop} (I : Inv X pins σ H s) (tb : LamX.TabB X.base X.mg c P) (ec : X.env.code = .ref c) (eP : H P = some (.tbl ps)) (tr : TriplesOk ps.toList)
    (am : ∀ (p : Pos) (v : Value), codeAmong p ps.toList = some v → ∃ c, v = .ref c ∧ H c = some (LamX.CodeO c (lamQ X))) (df : defaultsOf params X.env = ([], [])) (fr : ∀ y ∈ scope.names, y.2 = .free → ∃ c, X.env.cells.lookup y.1 = some c)
    (k : ∀ (f c1 : Addr) (pm ct : Value) (H1 : Hp) (s' : Shared), Inv X pins σ H1 s' → Made1 H H1 P ps c1 (lamQ X) → H1 c1 = some (LamX.CodeO c1 (lamQ X)) → s'.heap.get? f = some (PySem.W.kla_obj "<lambda>" (lamQ X) params body scope (cloFrom X.env.cells scope.names []) pm c1 ct) → H1 f = none → f ∉ frs X.stack → Q (.ref f) s') :
    wpAny (model X.prog X.w) X.A (eval (.Lambda params body scope pos) X.env) Q E s := by
  have b1 := tb.bm.keeps I.bk
  have g1 : s.heap.get? P = some (PySem.W.tabObj ps) := I.hok P _ eP
  have nf : ∀ f, s.heap.objs.size ≤ f → f ∉ frs X.stack := fun f z m => by
    rcases List.mem_cons.mp (I.stkSub _ m) with q | q
    · rw [q] at z
      exact Nat.lt_irrefl _ (Nat.lt_of_lt_of_le I.lt z)
    · exact I.nofs z q
  apply PySem.W.kla_eval df
  match hc : codeAmong pos ps.toList with
  | some v =>
    obtain ⟨c1, rfl, hq⟩ := am pos v hc
    exact PySem.W.kla_makeFunctionHit (P := P) (closure_ok fr) I.ok.glob (I.mod.glob.keeps I.bk) ec (tb.code.keeps I.bk) g1 tr hc b1 fun ct h2 tk x z =>
      k _ c1 _ ct H _ (I.kept fun b o e => Heap.get?_push_of_some _ (x b o e)) (.inl ⟨rfl, pos, hc⟩) hq (Heap.get?_push_size h2 rfl) (I.hok.fresh z) (nf _ z)
  | none =>
    refine PySem.W.kla_makeFunction (P := P) (closure_ok fr) I.ok.glob (I.mod.glob.keeps I.bk) ec (tb.code.keeps I.bk) g1 tr hc tb.gP b1 fun c1 ct h2 tk x z1 z2 cr ht => ?_
    obtain ⟨_, oc, vs, t, ec1, r1, r2, r3⟩ := cr
    cases ec1
    have n1 : H c1 = none := I.hok.fresh z1
    have z3 : s.heap.objs.size ≤ h2.objs.size := Nat.le_of_lt (Nat.lt_of_le_of_lt z1 z2)
    refine k h2.objs.size c1 _ ct _ _ (LamX.inv_table (c := c1) (q := lamQ X) I eP (fun b o hb e => Heap.get?_push_of_some _ (x b o hb e)) (Heap.get?_push_of_some _ ht) z1 ⟨oc, vs, t, Heap.get?_push_of_some _ r1, r2, r3⟩) (.inr ⟨pos, n1, rfl⟩) upd_same (Heap.get?_push_size h2 rfl) ?_ (nf _ z3)
    rw [upd_ne (Nat.ne_of_gt z2), upd_ne (Nat.ne_of_gt (Nat.lt_of_lt_of_le (Heap.lt_size g1) z3))]
    exact I.hok.fresh z3
theorem made_satG {K : PySem.W.Frag} {W : Wd} {H1 : Hp} {fp xf : List Addr} {P c : Addr} {q : Str} {ps : Array Value} (S : Sat K W H fp xf) (sP : W.S P = some (99, [.str q])) (eP : H P = some (.tbl ps)) (md : Made1 H H1 P ps c q) :
    ∃ W', Stp W H [] W' H1 ∧ Sat K W' H1 fp xf ∧ W'.G c = some (LamX.CodeO c q) := by
  rcases md with ⟨rfl, p, hp⟩ | ⟨pos, n, rfl⟩
  · refine ⟨W, .refl, S, ?_⟩
    obtain ⟨_, o, eo, v⟩ := S.vol.ok P _ _ sP
    rcases v with ⟨kvs, rfl, _⟩ | ⟨_, q2, cs2, eq, rfl, _, am2⟩
    · rw [eP] at eo; cases eo
    · rw [eP] at eo
      cases eo
      cases eq
      obtain ⟨c3, ec3, rc3⟩ := am2 p _ hp
      cases ec3
      cases rc3 with
      | cod g => exact g
  · have nG := (S.free n).1
    have nS := (S.free n).2
    have hP := (S.vol.ok P _ _ sP).1
    have ncP : P ≠ c := fun z => by rw [z, n] at eP; cases eP
    have at1 : ∀ a o, a ≠ P → H a = some o → upd (upd H P (.tbl (ps ++ #[rawInt pos.line, rawInt pos.col, .ref c]))) c (LamX.CodeO c q) a = some o := fun a o z e => by
      rw [upd_ne (ne_of_none e n), upd_ne z]; exact e
    have al : ∀ a, H a ≠ none → upd (upd H P (.tbl (ps ++ #[rawInt pos.line, rawInt pos.col, .ref c]))) c (LamX.CodeO c q) a ≠ none := fun a z => by
      by_cases e1 : a = c
      · rw [e1, upd_same]; exact fun z => nomatch z
      · rw [upd_ne e1]
        by_cases e2 : a = P
        · rw [e2, upd_same]; exact fun z => nomatch z
        · rw [upd_ne e2]; exact z
    have put : ∀ a, a ≠ c → (W.put c (LamX.CodeO c q)).G a = W.G a := fun a z => upd_ne z
    have nc : ∀ a, H a ≠ none → a ≠ c := fun a z e => z (by rw [e]; exact n)
    have le : W.Le (W.put c (LamX.CodeO c q)) := ⟨fun a o e => (put a (fun z => by rw [z, nG] at e; cases e)).trans e, fun _ _ e => e⟩
    refine ⟨W.put c (LamX.CodeO c q), ⟨fun a z _ => ⟨put a (nc a z), rfl⟩, fun a o e _ z => at1 a o (fun w => by rw [w, sP] at z; cases z) e, al⟩, ⟨fun a o e => ?_, ⟨fun a k ds e => ?_, fun p x e => ?_⟩, S.nd, fun a m => ?_, fun a m => ⟨(S.xof a m).1, (S.xof a m).2.1, al a (S.xof a m).2.2⟩⟩, upd_same⟩
    · by_cases z : a = c
      · subst z
        have e : upd W.G a (LamX.CodeO a q) a = some o := e
        rw [upd_same] at e
        rw [upd_same]; exact e
      · rw [put a z] at e
        exact at1 a o (fun w => by rw [w, hP] at e; cases e) (S.sub a o e)
    · have e : W.S a = some (k, ds) := e
      obtain ⟨g, o, h1, v⟩ := S.vol.ok a k ds e
      refine ⟨(put a (nc a (some_ne h1))).trans g, ?_⟩
      by_cases z : a = P
      · subst z
        rw [sP] at e
        cases e
        refine ⟨_, by rw [upd_ne ncP, upd_same], .inr ⟨rfl, q, _, rfl, rfl, ?_, fun p cv hc => ?_⟩⟩
        · rcases v with ⟨kvs, rfl, _⟩ | ⟨_, _, cs, _, rfl, tr, _⟩
          · rw [eP] at h1; cases h1
          · rw [eP] at h1
            cases h1
            simpa using PySem.TriplesOk_snoc _ _ _ _ tr
        · rcases v with ⟨kvs, rfl, _⟩ | ⟨_, q2, cs, e2, rfl, tr, am⟩
          · rw [eP] at h1; cases h1
          · rw [eP] at h1
            cases h1
            cases e2
            have hc : codeAmong p (ps.toList ++ [rawInt pos.line, rawInt pos.col, .ref c]) = some cv := by simpa using hc
            rcases LamX.among_app _ tr hc with w | w
            · obtain ⟨c0, w1, w2⟩ := am p cv w
              exact ⟨c0, w1, w2.mono le⟩
            · exact ⟨c, w, .cod upd_same⟩
      · exact ⟨o, at1 a o z h1, v.mono fun _ _ w => w.mono le⟩
    · obtain ⟨x1, cs, x2⟩ := S.vol.tb p x e
      refine ⟨x1, ?_⟩
      by_cases z : p = P
      · exact ⟨_, by rw [z, upd_ne ncP, upd_same]⟩
      · exact ⟨cs, at1 p _ z x2⟩
    · obtain ⟨o1, o2, o3⟩ := S.off a m
      exact ⟨(put a (nc a o3)).trans o1, o2, al a o3⟩
theorem made_sat {K : PySem.W.Frag} {W : Wd} {H H1 : Hp} {fp xf : List Addr} {P c : Addr} {q : Str} {ps : Array Value} (S : Sat K W H fp xf) (sP : W.S P = some (99, [.str q])) (eP : H P = some (.tbl ps)) (md : Made1 H H1 P ps c q) : ∃ W', Stp W H [] W' H1 ∧ Sat K W' H1 fp xf :=
  let ⟨W', a, b, _⟩ := made_satG S sP eP md; ⟨W', a, b⟩
theorem pe_actX {CXg : CXT} {Eg : XK} {Ng : List Str} {qg : Str} {sg : Scope} {g f c1 : Addr} {cdg pm ct : Value} {params : Arguments} {body : Expr} {scope : Scope} {k i : Nat} {a : Str} {pn : List (Addr × Obj)} {xe : Value → Shared → Prop} {W : WX} {tb : XK → TE} {p1 p2 : Pos}
    (I : Inv X pins σ H s) (L : LamX.LamS X.env.scope scope) (of0 : s.heap.get? f = some (PySem.W.kla_obj "<lambda>" (lamQ X) params body scope (cloFrom X.env.cells scope.names []) pm c1 ct)) (nH : H f = none) (nF : f ∉ frs X.stack)
    (b0 : bindArgs (PySem.W.kla_fn "<lambda>" (lamQ X) params body scope (cloFrom X.env.cells scope.names []) pm (.ref c1) ct) ⟨[], []⟩ = pure [])
    (tk : Takes ((cxOf CXg X.prog X.w X.K X.mg X.base Ng qg sg g cdg X.A X.stack s H Eg).tr pn xe) W) (hr : Room (k + 1) (X.A.deeper (envOfC qg sg s.heap.objs.size g cdg)))
    (hbody : ∀ (A : Around) (outer : List PySem.Env) (s : Shared) (H : Hp) (E : XK), Room k (A.deeper (LamX.lamEnv X scope s.heap.objs.size f c1)) → PE (LamX.lamCx X A outer s H E scope f c1) body (tb E))
    (hN : Ng[i]? = some a) (hv : Vis sg a) (hd : (a == ("__debug__" : Str)) = false := by decide) (hcd : (a == ("__classdict__" : Str)) = false := by decide) :
    PE ((cxOf CXg X.prog X.w X.K X.mg X.base Ng qg sg g cdg X.A X.stack s H Eg).tr pn xe) (.Call (.Name a p1) [] [] p2)
      (fun σZ HZ Q => σZ[i]? = some (some (.ref f)) ∧ HZ c1 = some (LamX.CodeO c1 (lamQ X)) ∧ ∃ E : XK, (∀ cls d H', E cls d H' → W cls d σZ H') ∧ tb E σ HZ Q) := by
  refine ⟨fun pinsZ sZ σZ HZ Q IZ ⟨hs, hc, E, hE, ht⟩ => wpAny_Call_Name_kw (thn ((pe_var (pos := p1) (i := i) hN hv hd hcd).run pinsZ sZ σZ HZ (fun v H1 => v = .ref f ∧ H1 = HZ) IZ ⟨.ref f, hs, rfl, rfl⟩) fun u s1 ⟨v, H1, I1, r1, e1, e2⟩ => ?_)⟩
  subst e1
  subst e2
  cases r1
  have of1 := I1.base.keep f _ of0 nH nF (fun z => nomatch (show f ∈ ([] : List Addr) from z))
  refine PySem.W.callWith_F0 ⟨_, _, _, _, of1⟩ ?_
  obtain ⟨⟨oc, vs, t, c2, c3, c4⟩, _, _⟩ := I1.hok c1 _ hc
  refine wpAny_call (codeAny_mono (R := CR (L2.CX X.prog X.w) (envOfC qg sg s.heap.objs.size g cdg :: X.stack) X.prog X.w H1 s1 Q E) (PySem.W.kla_callFunE hr.depth of1 rfl L.co L.gen rfl ⟨c1, oc, vs, t, rfl, c2, c3, c4⟩ ?_) fun r s' hq => ?_)
  · rw [show bindArgs (PySem.W.kla_fn "<lambda>" (lamQ X) params body scope (cloFrom X.env.cells scope.names []) pm (.ref c1) ct) ⟨([] : List Value) ++ [], []⟩ = pure [] from b0]
    refine wpAny_pure (wpAny_newFunctionEnv (fun y m => (L.own y m).2) (fun y m => absurd m (by simp)) (fun h2 n2 x2 => ⟨I1.nolimit.fresh _ x2, PySem.W.kla_codeExpr (wpAny_mono ((hbody _ _ s1 H1 E (hr.deeper _)).run [] _ σ H1 Q
      (LamX.lam_start2 I L I1.env0 hr.hd I1.base n2 fun b o e => x2.extBut b o (Nat.ne_of_lt (Heap.lt_size e)) (Heap.get?_push_of_some _ e)) ht) (fun v s' ⟨w', H', J, rv, q⟩ => ?_) fun e s' z => z)⟩) L.kind)
    exact ⟨w', H', J.os, J.bare, J.base, J.hok, rv, q⟩
  · match r, hq with
    | .error e, hq => exact tk e s' (XE.of_call I1 (fun cls d H' z => hE cls d H' z) hq)
    | .ok (.ret u), hq => exact I1.after hq
    | .ok .next, hq => exact hq.elim
    | .ok .brk, hq => exact hq.elim
    | .ok .cont, hq => exact hq.elim
end
end R
namespace R
open PySem PySem.Spec PyProof.Rows L2
structure BaseC (K : PySem.W.Frag) (mg : Str → Option Value) (b : Str) (D : Addr) : Prop where
  gl : mg b = some (.ref D)
  kp : PySem.W.keepIn K (.ref D) = true
  sg : PySem.W.specialIn K (.ref D) "__getattribute__" = some (some (.builtin "type.__getattribute__"))
  rd : PySem.W.readsIn K D (.type "type") = true
  fi : PySem.W.findCls K (.ref D) (.type "type") "__init__" = some (.val (.builtin "ValueError.__init__"))
section
variable {X : Cx} {e : Expr} {es : List Expr} {ta : TA} {b : Str} {D : Addr} {p1 p2 pos : Pos}
theorem pe_cinit {pl : Sem Bool} (B : BaseC X.K X.mg b D) (ha : PA X (e :: es) ta) (hg : Gl X b := by rfl) (hdb : (b == ("__debug__" : Str)) = false := by decide)
    (hev : eval (.Call (.Attribute (.Name b p1) "__init__" p2) (e :: es) [] pos) X.env = (do let ov ← eval (.Name b p1) X.env; standAt p2.atName; let (f, first) ← holding [ov] (getMethod ov "__init__" pl); callWith pos f first (backTo pos (starEach (e :: es) X.env)) (backToKw pos (keywordEach [] X.env))) := by rfl)
    (hse : starEach (e :: es) X.env = (false, eval e X.env) :: starEach es X.env := by rfl) (hpl : (backTo pos (starEach es X.env)).any (·.1) = false := by rfl) : PE X (.Call (.Attribute (.Name b p1) "__init__" p2) (e :: es) [] pos) (tVeI X.K ta) :=
  ⟨fun pins s σ H Q I h => PySem.W.methodCall_KW (ld_glob I hg B.gl (PySem.W.method_cls I.kIn B.sg (PySem.W.cls_value I.kIn B.rd B.fi (by decide +kernel) (by
    show wpAny _ _ (callWith pos (Value.builtin "ValueError.__init__") [] (backTo pos (starEach (e :: es) X.env)) []) _ _ _
    refine PyProof.Rows.callWith_method1 (thn (ha.run pos pins _ σ H _ (I.tok _) h) fun us s1 hh => ?_) hse hpl
    obtain ⟨vs, H1, I1, r1, a, C, ws, rfl, hl, T, ea, q⟩ := hh
    cases r1 with
    | @cons _ u0 _ ur ra rw0 =>
      cases (show u0 = Value.ref a from ra)
      exact oinit_ok T I1 ea (by rw [← Paired.length rw0, sizeLine_eq]; omega) fun s2 J => ⟨.non, H1, J, rfl, q⟩))) hdb) hev⟩
end
def spIni (C : Addr) (f : Str) : Sp := fun vs H Q _ => ∃ (a : Addr) (v : V), vs = [.ref a, v] ∧ H a = some (exo a C none) ∧ ∀ dx, H dx = none → dx ≠ a → Q .non (upd (upd H dx (exd dx [(f, v)])) a (exo a C (some dx)))
section
variable {P : Program} {w : World} {K : PySem.W.Frag} {mg : Str → Option Value} {base : Heap}
theorem fn_ini {CX : CXT} {pl : PySem.Env → Sem Bool} {x qual b self f t : Str} {params : Arguments} {scope : Scope} {fI D C : Addr} {fd : FuncData} {j : Nat} {p1 p2 p3 p4 p5 p6 q1 q2 q3 q4 : Pos}
    (F : FunD K x qual params [.Expr (.Call (.Attribute (.Name b p1) "__init__" p2) [.Name self p3, .Constant (.str t) j p4] [] p5) p6, .Assign [.Attribute (.Name self q1) f q2] (.Name f q3) q4] scope [] [] fI fd) (S : FnScope [self, f] [self, f] scope)
    (B : BaseC K mg b D) (T : OexC K C) (hno : PySem.W.findIn K (.ref C) f = some none) (v1 : Vis scope self) (v2 : Vis scope f) (gb : scope.names.lookup b = some .globalImplicit)
    (hev : ∀ env : PySem.Env, eval (.Call (.Attribute (.Name b p1) "__init__" p2) [.Name self p3, .Constant (.str t) j p4] [] p5) env = (do let ov ← eval (.Name b p1) env; standAt p2.atName; let (g, first) ← holding [ov] (getMethod ov "__init__" (pl env)); callWith p5 g first (backTo p5 (starEach [.Name self p3, .Constant (.str t) j p4] env)) (backToKw p5 (keywordEach [] env))))
    (d1 : (self == ("__debug__" : Str)) = false := by decide) (d2 : (self == ("__classdict__" : Str)) = false := by decide) (d3 : (f == ("__debug__" : Str)) = false := by decide) (d4 : (f == ("__classdict__" : Str)) = false := by decide) (d5 : (b == ("__debug__" : Str)) = false := by decide) : L2.FnOk P w K mg base CX 1 fI fd [self, f] (spIni C f) := by
  refine F.ok S (fun vs H Q E h => ?_) fun cdv A outer s H vs Q E hr h => ?_
  · obtain ⟨a, v, rfl, _, _⟩ := h
    rfl
  · obtain ⟨a, v, rfl, ha, hq⟩ := h
    refine ⟨_, pss_cons (ps_expr (pe_cinit (B := B) (pa_cons (pe_var (i := 0) rfl v1 d1 d2) (pa_cons pe_str pa_nil)) gb d5 (hev := hev _))) (pss_one (ps_ost (pe_var (i := 0) rfl v1 d1 d2) (pe_var (i := 1) rfl v2 d3 d4))), ?_⟩
    exact ⟨_, rfl, a, C, [.str t], rfl, by show 1 ≤ 1000; omega, T, ha, _, rfl, _, rfl, a, C, rfl, T, hno, .inl ⟨ha, fun dx n ne => hq dx n ne⟩⟩
end
structure IniC (P : Program) (w : World) (K : PySem.W.Frag) (mg : Str → Option Value) (base : Heap) (x : Str) (C : Addr) (f : Str) (k : Nat) : Prop where
  gl : mg x = some (.ref C)
  ox : OexC K C
  ini : ∃ (fI : Addr) (fd : FuncData) (self : Str), PySem.W.findIn K (.ref C) "__init__" = some (some (.ref fI)) ∧ PySem.W.typeIn K (.ref fI) = some (.type "function") ∧ L2.FnOk P w K mg base (L2.CX P w) 1 fI fd [self, f] (spIni C f) ∧ Binds K fd [self, f] []
section
variable {X : Cx} {E : XK} {ad : Nat → Addr} {x f v : Str} {p p2 pos pos2 : Pos}
theorem upd_new {H : Hp} {a d : Addr} {C : Addr} {o u : HO} (ha : H a = none) (hd : H d = none) : upd (del (upd (upd (upd H a (exo a C none)) d o) a (exo a C (some d))) a) d u = upd H d u := by
  funext b
  by_cases z : b = d
  · rw [z, upd_same, upd_same]
  · rw [upd_ne z, upd_ne z]
    by_cases y : b = a
    · rw [y, del_same, ha]
    · rw [del_ne y, upd_ne y, upd_ne z, upd_ne y]
theorem ds_raiseF {pr : List Nat} {k i j l : Nat} (c : IniC X.prog X.w X.K X.mg X.base x (ad k) f l) (hr : Room j X.A) (hj : 2 ≤ j) (hc : X.calm = true) (tk : Takes X (fun cls d _ H => E cls d H)) (hf : fldOf k = some (f, v) := by rfl) (hg : Gl X x := by rfl) (hdb : (x == ("__debug__" : Str)) = false := by decide) :
    PS X (.Raise (some (.Call (.Name x p) [.Constant (.str v) i p2] [] pos)) none pos2) (LS X.K (exK ad E) pr (mRaise k)) := by
  obtain ⟨fI, fd, self, iC, tI, F, hb⟩ := c.ini
  refine ps_imp (ps_raise hc tk (pmk_oex (ds := []) (dvs := []) c.ox iC tI F ((hr.mono hj).toRoom) hb .nil (passes_call tk fun _ _ _ _ z => (show False from z).elim) hg c.gl (pa_cons pe_str pa_nil) hdb)) fun D σ H h => ?_
  obtain ⟨W, env, fp, xf, K0, En, S, hm, nx, bk, ct, rt⟩ := h
  refine ⟨by show 1 ≤ 1000; omega, fun a ha => ⟨a, .str v, rfl, upd_same, fun d hd ne => ?_⟩⟩
  have hd : H d = none := by rw [upd_ne ne] at hd; exact hd
  refine ⟨rfl, d, [(f, .str v)], upd_same, by rw [upd_ne ne, upd_same], hd, ?_⟩
  rw [upd_new ha hd]
  exact exK_fld hf (rt.x k env hm σ W _ fp xf (.pure (.new hd) (En.keep S (.new hd)) (S.new hd))) upd_same
end
end R
namespace R
open PySem PySem.Spec PySem.W PySem.Calls PyProof.Rows
section
variable {prog : Program} {w : World} {A : Around} {E : Value → Shared → Prop} {s : Shared} {K : Frag} {x D : Addr} {ox : Obj} {od : Option Obj}
theorem find_cls (hd : hasDictIn K D = true) (ha : findIn K (.ref D) "__class__" = some (some (.builtin "object.__class__"))) (hn : specialIn K (.builtin "object.__class__") "__get__" = some (some (.builtin "getset_descriptor.__get__"))) (ht : takesIn K (.builtin "object.__class__") = some true) :
    findObj K D od "__class__" = some (.bind (.builtin "getset_descriptor.__get__") (.builtin "object.__class__")) := by
  obtain ⟨cd, hc, _⟩ := any_some hd
  unfold findObj
  rw [hc, Option.bind_some, ha, Option.bind_some]
  simp only [hn, ht, Option.bind_some]
theorem err_class {Q : Option Value → Shared → Prop} (c : L2.ExcC K D) (X : K.In s.heap) (I : InstAt s.heap x ox D od) (h : Q (some (.ref D)) { s with toks := s.toks + 1 }) : wpAny (model prog w) A (getAttr? (.ref x) "__class__") Q E s := by
  obtain ⟨hp, g, dr, tk, os⟩ := s
  have ty := I.type (M := model prog w)
  have l1 := looks_findIn (M := model prog w) X c.hg
  have l2 := looks_findIn (M := model prog w) X c.hk
  have l3 := looks_find (M := model prog w) X I (find_cls (od := od) c.hd c.ha c.hn c.ht)
  have l4 : Looks (model prog w) hp (isInstance (.ref x) (.type "BaseException")) true := ty.andThen (looks_subIn X c.hs)
  have n1 : (Value.builtin "BaseException.__getattribute__" == Value.builtin "object.__getattribute__") = false := by decide +kernel
  have n2 : (onTheHeap (Value.ref D) && Value.builtin "BaseException.__getattribute__" == Value.builtin "object.__getattribute__") = false := by rw [n1] <;> rfl
  have n3 : (false && onTheHeap (Value.builtin "BaseException.__getattribute__")) = false := rfl
  unfold getAttr? getAttrBy? getAttrBy
  refine wpAny_bind (wpAny_mkText (wpAny_bind (wpAny_attempt (wpAny_holding (wpAny_bind (ty.at (wpAny_bind (l1.at ?_))))))))
  change wpAny _ _ (if (onTheHeap (Value.ref D) && Value.builtin "BaseException.__getattribute__" == Value.builtin "object.__getattribute__") = true then _ else _) _ _ _
  rw [n2, if_neg Bool.false_ne_true]
  unfold getAttrByItsOwn hookBefore
  refine wpAny_bind (by
    rw [if_pos (show onTheHeap (Value.ref D) = true from rfl)]
    refine l2.at (wpAny_bind (wpAny_attempt (wpAny_holding ?_)))
    unfold callGetattribute
    rw [n3, if_neg Bool.false_ne_true]
    unfold boundAndCalled
    rw [PySem.F.excAttr_ValueError.ga.bind (.ref x)]
    refine wpAny_bind (wpAny_pure ?_)
    change wpAny _ _ (call (.builtin "BaseException.__getattribute__") [.ref x, .str "__class__" tk]) _ _ _
    refine wpAny_call (codeAny_call_builtin PySem.F.excAttr_ValueError.ga.plain PySem.F.entry_bexc_ga (@check_slot (model prog w) _ _ ⟨hp, g, dr, tk + 1, os⟩ "BaseException.__getattribute__" "BaseException" "__getattribute__" (.ref x) [.str "__class__" tk] [] _ (by decide +kernel) (by decide +kernel) l4 (PySem.F.args_bexc_ga (.ref x) (.str "__class__" tk)) ?_))
    unfold Builtin.«object.__getattribute__»
    refine wpAny_bind (wpAny_of_eq (a := ((Value.ref x : Value), [Value.str "__class__" tk])) (by first | rfl | (simp only [slotArgs]; rfl)) (wpAny_bind (wpAny_pure (wpAny_bind (ty.at (wpAny_bind (l3.at ?_)))))))
    change wpAny _ _ (holding [Value.builtin "object.__class__"] (call (.builtin "getset_descriptor.__get__") [.builtin "object.__class__", .ref x, .ref D]) >>= ret) _ _ _
    refine wpAny_bind (wpAny_holding (wpAny_call (class_get (s := ⟨hp, g, dr, tk + 1, os⟩) (ox := ox) (od := od) X I c.hm (wpAny_pure ?_))))
    change wpAny _ _ (handedOut (.ref D)) _ _ _
    rw [handedOut_of (v := .ref D) rfl]
    first
      | exact wpAny_pure (wpAny_pure h)
      | exact wpAny_pure h
      | exact wpAny_pure (wpAny_bind (wpAny_pure (wpAny_pure h))))
theorem err_kit (c : L2.ExcC K D) : KitX K (.ref x) (.ref D) (fun h => InstAt h x ox D od) where
  ty := fun _ _ _ I => I.type
  it := fun A2 h2 X2 _ => by
    obtain ⟨cdD, e, _⟩ := any_some c.hd
    unfold clsIn at e
    split at e
    · rename_i oh
      exact fun _ _ _ _ k q => by
        unfold isType loadHead
        exact wpAny_bind (wpAny_loadPart (k _ _ (X2 _ _ oh)) (wpAny_pure q))
    · cases e
  ne := fun h tp dd its n sl X2 htp => Bool.eq_false_iff.mpr fun q => by
    obtain ⟨cdD, e, _⟩ := any_some c.hd
    have e2 : D = tp := Value.ref.inj (beq_iff_eq.mp q)
    subst e2
    unfold clsIn at e
    split at e
    · rename_i oh
      cases (X2 _ _ oh).symm.trans htp
    · cases e
  ca := fun X2 I k => err_class c X2 I k
end
end R
namespace R
open PySem PySem.Spec PyProof.Rows L2
def mOut (wd : Option Nat → D) (ks : List Nat) (m : DE) : DE := fun env Q => m env fun r => r.exq (fun k => k ∈ ks ∧ Q (.fz (wd (some k)))) (Q (.fz (wd none)))
def mIsE (i : Nat) (r : Addr) (dx : Option Addr) (b : Bool) : DE := fun env Q => (match dx with
  | none => env[i]? = some (some (.fz (.adr r)))
  | some dd => ∃ f v, env[i]? = some (some (.ex (.xo r dd f v)))) ∧ Q (.fz (.bl b))
def mXf (i : Nat) (r dd : Addr) (f v : Str) : DE := fun env Q => env[i]? = some (some (.ex (.xo r dd f v))) ∧ Q (.fz (.str v))
def dOf (k : Nat) (dd : Addr) : Option Addr := match fldOf k with
  | some _ => some dd
  | none => none
def excR (k : Nat) (r dd : Addr) : Rs := match fldOf k with
  | some p => .ex (.xo r dd p.1 p.2)
  | none => .fz (.adr r)
theorem dOf_no {k : Nat} {dd : Addr} (h : fldOf k = none) : dOf k dd = none := by
  unfold dOf
  rw [h]
theorem dOf_fld {k : Nat} {dd : Addr} {p : Str × Str} (h : fldOf k = some p) : dOf k dd = some dd := by
  unfold dOf
  rw [h]
def outEnv (N : List Str) (i k : Nat) (f r dd : Addr) : Env := (some (.fz (.adr f)) :: List.replicate (N.length - 1) none).set i (some (excR k r dd))
structure OutD (P : Program) (w : World) (K : PySem.W.Frag) (mg : Str → Option Value) (base : Heap) (ad : Nat → Addr) (x : Str) (wd : Option Nat → D) (ks : List Nat) (g CS : Addr) (fd : FuncData) (a n e ret : Str) (pg : Arguments) (b1 : Stmt) (suite : List Stmt) (sg : Scope) (N : List Str) (i : Nat) (ms : Nat → Addr → Addr → DS) (j : Nat) (p1 p2 p3 p4 p5 p6 p7 p8 : Pos) : Prop where
  fn : FunD K x x pg [.Try [.Expr (.Call (.Name a p1) [] [] p2) p3] [.ExceptHandler (some (.Name e p4)) (some n) (b1 :: suite) p5] [] [] p6, .Return (some (.Constant (.str ret) j p7)) p8] sg [] [] g fd
  gm : mg x = some (.ref g)
  bd : Binds K fd [a] []
  sc : FnScope N [a] sg
  h0 : N[0]? = some a
  va : Vis sg a
  a1 : (a == ("__debug__" : Str)) = false
  a2 : (a == ("__classdict__" : Str)) = false
  hi : N[i]? = some n
  ln : sg.names.lookup n = some .local
  ge : sg.names.lookup e = some .globalImplicit
  de : (e == ("__debug__" : Str)) = false
  me : mg e = some (.ref CS)
  exm : ∀ k ∈ ks, PySem.W.exmOne K (.ref (ad k)) (.ref CS) = some true
  su : ∀ k ∈ ks, ∀ (cdv : Value) (A : Around) (outer : List PySem.Env) (s : Shared) (H : Hp) (r dd : Addr) (oe : Obj) (pn : List (Addr × Obj)), Zc (.ref (ad k)) (dOf k dd) oe → (∃ vs, oe.data = .fields vs) → Room 0 (A.deeper (envOfC x sg s.heap.objs.size g cdv)) → PSs ((cxOf CX0 P w K mg base N x sg g cdv A outer s H fun _ _ _ => False).nox.suite r ((r, oe) :: pn)) (b1 :: suite) (LS K exT [] (ms k r dd))
  rd : ∀ k ∈ ks, ∀ f r dd : Addr, ms k r dd (outEnv N i k f r dd) { nx := fun _ => False, rt := fun z _ => z = .fz (wd (some k)) }
  wn : wd none = .str ret
structure OutC (P : Program) (w : World) (K : PySem.W.Frag) (mg : Str → Option Value) (base : Heap) (ad : Nat → Addr) (x : Str) (wd : Option Nat → D) (ks : List Nat) : Prop where
  ex : ∃ (g CS : Addr) (fd : FuncData) (a n e ret : Str) (pg : Arguments) (b1 : Stmt) (suite : List Stmt) (sg : Scope) (N : List Str) (i : Nat) (ms : Nat → Addr → Addr → DS) (j : Nat) (p1 p2 p3 p4 p5 p6 p7 p8 : Pos), OutD P w K mg base ad x wd ks g CS fd a n e ret pg b1 suite sg N i ms j p1 p2 p3 p4 p5 p6 p7 p8
theorem excR_ok {K : PySem.W.Frag} {W : Wd} {H : Hp} {xf : List Addr} {k : Nat} {r dd : Addr} (hx : ∀ p, fldOf k = some p → H dd = some (.xd [(p.1, .str p.2)])) (S : Sat K W H [] xf) : SlotOk K W H ([] ++ ([] ++ [])) (.ref r) (excR k r dd) [] := by
  unfold excR
  cases e : fldOf k with
  | none => exact ⟨rfl, .adr r⟩
  | some p =>
    have hd := hx p e
    have hs : W.S dd = none := by
      cases z : W.S dd with
      | none => rfl
      | some q =>
        obtain ⟨kk, ps⟩ := q
        obtain ⟨_, o, ho, v⟩ := S.vol.ok dd kk ps z
        rw [hd] at ho
        cases ho
        cases kk with
        | zero => obtain ⟨_, _, _, w⟩ := v; cases w
        | succ kk =>
          rcases v with ⟨_, w, _⟩ | ⟨_, _, _, _, w, _⟩
          · cases w
          · cases w
    exact ⟨rfl, [dd], .xo hd, fun a m => by rw [List.mem_singleton.mp m]; exact ⟨by simp, hs⟩⟩
theorem tab_of {K : PySem.W.Frag} {W : Wd} {H : Hp} {fp xf : List Addr} {P : Addr} {q : Str} (S : Sat K W H fp xf) (hT : (lamTab K).lookup P = some q) : W.S P = some (99, [.str q]) ∧ ∃ cs, H P = some (.tbl cs) ∧ TriplesOk cs.toList ∧ ∀ (p : Pos) (v : Value), codeAmong p cs.toList = some v → ∃ c, v = .ref c ∧ H c = some (LamX.CodeO c q) := by
  obtain ⟨s, cs, e⟩ := S.vol.tb P q hT
  obtain ⟨_, o, e2, v⟩ := S.vol.ok P _ _ s
  refine ⟨s, cs, e, ?_⟩
  rcases v with ⟨kvs, rfl, _⟩ | ⟨_, q2, cs2, e3, rfl, tr, am⟩
  · rw [e] at e2; cases e2
  · rw [e] at e2
    cases e2
    cases e3
    refine ⟨tr, fun p v h => ?_⟩
    obtain ⟨c, rfl, rc⟩ := am p v h
    cases rc with
    | cod g => exact ⟨c, rfl, S.sub _ _ g⟩
section
variable {X : Cx}
theorem dp_out {x : Str} {ad : Nat → Addr} {wd : Option Nat → D} {ks : List Nat} {c P : Addr} {k j : Nat} {params : Arguments} {body : Expr} {scope : Scope} {mb : DE} {p lpos pos : Pos} (T : OutC X.prog X.w X.K X.mg X.base ad x wd ks) (TB : LamX.TabB X.base X.mg c P) (ec : X.env.code = .ref c)
    (hT : (lamTab X.K).lookup P = some (lamQ X)) (hr : Room j X.A) (hj : k + 2 ≤ j) (L : LamX.LamS X.env.scope scope) (df : defaultsOf params X.env = ([], [])) (b0 : ∀ (q : Str) (cl : List (Str × Addr)) (pm cv ctv : Value), bindArgs (PySem.W.kla_fn "<lambda>" q params body scope cl pm cv ctv) ⟨[], []⟩ = pure [])
    (hbody : ∀ (A : Around) (outer : List PySem.Env) (s : Shared) (H : Hp) (E : XK) (f c1 : Addr), Room k (A.deeper (LamX.lamEnv X scope s.heap.objs.size f c1)) → PE (LamX.lamCx X A outer s H E scope f c1) body (LPX X.K (exK ad E) mb))
    (hg : Gl X x := by rfl) (hdb : (x == ("__debug__" : Str)) = false := by decide) : PE X (.Call (.Name x p) [.Lambda params body scope lpos] [] pos) (LP X.K (mOut wd ks mb)) := by
  refine ⟨fun pins s σ H Q I ⟨W, env, fp, xf, Q0, En, S, hm, kk⟩ => ?_⟩
  obtain ⟨g, CS, fd, a, n, e, ret, pg, b1, suite, sg, N, i, ms, jj, p1, p2, p3, p4, p5, p6, p7, p8, D⟩ := T.ex
  obtain ⟨oc, od, dV, kV, doc, pm0, an, cdv, ct, osl, efd, lk, hcd, _, _⟩ := D.fn.ex
  obtain ⟨sP, cs, eP, tr, am⟩ := tab_of S hT
  refine wpAny_Call_Name_kw (ld_glob I hg D.gm ?_ hdb)
  refine PySem.W.callWith_K (h₀ := X.base) I.ok.mod.kin D.fn.kp ?_ (by rfl) (by rfl)
  show wpAny _ _ (spliced ((false, eval (.Lambda params body scope lpos) X.env) :: backTo pos (starEach [] X.env))) _ _ s
  refine Calls.spliced_cons (lam_new I TB ec eP tr am df (L.has I.ok) fun f c1 pm ct1 H1 s' I1 md ec1 of1 nf1 nF1 => ?_)
  refine Calls.spliced_nil ⟨I1.kIn, ?_⟩
  obtain ⟨W1, t1, S1⟩ := made_sat S sP eP md
  have E1 := En.keep S t1
  have rc : codeAny (model X.prog X.w) X.A (.call (.ref g) ⟨[.ref f], []⟩) (CR CX0 X.stack X.prog X.w H1 s' Q fun _ _ _ => False) s' := by
    subst efd
    refine LamX.run_ofS (N := N) (ps := [a]) (us := [.ref f]) (vs := [.ref f]) lk hcd D.sc (hr.mono (show (k + 1) + 1 ≤ j from hj)).toRoom I1.env0 (D.bd s' [.ref f] I1.kIn rfl) (.cons rfl .nil) rfl fun _ => ?_
    have hr2 : Room (k + 1) (X.A.deeper (envOfC x sg s'.heap.objs.size g cdv)) := (hr.mono (show (k + 1) + 1 ≤ j from hj)).deeper _
    refine ⟨_, (pss_cons (ps_try_as (X := (cxOf CX0 X.prog X.w X.K X.mg X.base N x sg g cdv X.A X.stack s' H1 fun _ _ _ => False).nox) (c := .ref CS) (i := i)
      (tb := fun W2 D' σ' H' => σ'[0]? = some (some (.ref f)) ∧ H' c1 = some (LamX.CodeO c1 (lamQ X)) ∧ ∃ E : XK, (∀ cls d H2, E cls d H2 → W2 cls d σ' H2) ∧ LPX X.K (exK ad E) mb σ H' fun _ H2 => D'.nx σ' H2)
      (ts := fun r cls d D' σ' H' => ∃ k ∈ ks, ∃ dd, cls = .ref (ad k) ∧ d = dOf k dd ∧ LS X.K exT [] (ms k r dd) D' σ' H') (Wout := fun _ _ _ _ => False)
      rfl rfl D.sc.nd D.hi D.ln ⟨D.ge, D.de, .inl D.me⟩ LamX.takes0 (fun W2 pn xe tk _ => ?_) (fun r oe cls d pn hz hf => ?_)) (pss_one (ps_ret pe_str))).nox, ?_⟩
    · have h := pe_actX (CXg := CX0) (Eg := fun _ _ _ => False) (p1 := p1) (p2 := p2) (i := 0) (tb := fun E => LPX X.K (exK ad E) mb) I1 L of1 nf1 nF1 (b0 _ _ _ _ _) tk hr2 (fun A outer s H E h => hbody A outer s H E f c1 h) D.h0 D.va D.a1 D.a2
      exact pss_one (ps_imp (ps_expr h) fun D' σ' H' w => w)
    · exact ⟨fun pins2 s2 σ2 H2 D2 I2 ⟨k2, m2, dd, e1, e2, h2⟩ => by
        subst e1 e2
        exact (D.su k2 m2 cdv X.A X.stack s' H1 r dd oe pn hz hf (hr2.mono (Nat.zero_le _))).run pins2 s2 σ2 H2 D2 I2 h2⟩
    · refine ⟨rfl, ec1, fun cls d H2 => ∃ k ∈ ks, ∃ dd, cls = .ref (ad k) ∧ d = dOf k dd ∧ (∀ p, fldOf k = some p → H2 dd = some (.xd [(p.1, .str p.2)])) ∧ ∃ W2, Stp W1 H1 [] W2 H2 ∧ Sat X.K W2 H2 fp xf ∧ Q0 (.fz (wd (some k))), ?_, W1, env, fp, xf, _, E1, S1, hm, fun r hr v W2 H2 t2 S2 o => ?_, fun k hk W2 H2 t2 S2 => ?_⟩
      · rintro cls d H2 ⟨k, mk, dd, rfl, rfl, hx, W2, t2, S2, hq⟩
        refine ⟨true, D.exm k mk, fun _ r nr => ⟨k, mk, dd, rfl, rfl, ?_⟩, fun z => nomatch z⟩
        obtain ⟨xf1, E0, z0⟩ := start_env (K := X.K) (W := W2) (H := H2) (N := N) (n := 1) (vs := [.ref f]) (ss := [some (.fz (.adr f))]) (.fz (.adr f) .nil) rfl
        have S20 : Sat X.K W2 H2 [] xf1 := S2.lend.less0 fun a m => absurd (z0 a m) (by simp)
        obtain ⟨fp3, xf3, E3, S3, z3⟩ := E0.put (i := i) (f := []) (fr := []) (v := .ref r) (r := excR k r dd) S20 (excR_ok hx S20)
        have e3 : fp3 = [] := List.eq_nil_iff_forall_not_mem.mpr fun a m => by rcases z3 a m with q | q <;> cases q
        subst e3
        refine ⟨W2, _, [], xf3, _, E3, S3, D.rd k mk f r dd, fun _ q => q.elim, fun _ q => q.elim, fun _ q => q.elim, ⟨fun z e hz v σ3 W3 H3 fp4 xf4 Pt o => ?_, fun _ _ _ _ _ _ _ _ _ => trivial⟩⟩
        subst hz
        exact kk _ hq v W3 H3 ((t1.tr0 t2).tr0 Pt.t) (S2.back Pt.t (Pt.S.sublist (List.nil_sublist _) fun _ m => m)) o
      · exact kk _ (exq_ok hr o) (.str ret) W2 H2 (t1.tr0 t2) S2 (by rw [D.wn]; exact .str ret)
      · exact exK_mk (fun hf => ⟨k, hk.1, 0, rfl, (dOf_no hf).symm, (fun p e => by rw [hf] at e; cases e), W2, t2, S2, hk.2⟩) fun p dd hf hd => ⟨k, hk.1, dd, rfl, (dOf_fld hf).symm, (fun q e => by rw [hf] at e; cases e; exact hd), W2, t2, S2, hk.2⟩
  refine wpAny_call (codeAny_mono rc fun r s2 hq => ?_)
  match r, hq with
  | .error e, hq => exact (show False from hq).elim
  | .ok (.ret u), hq => exact I1.after hq
  | .ok .next, hq => exact (show False from hq).elim
  | .ok .brk, hq => exact (show False from hq).elim
  | .ok .cont, hq => exact (show False from hq).elim
theorem call_isF {X : Cx} {a D : Addr} {dx : Option Addr} {oe : Obj} {pn : List (Addr × Obj)} (C : ExcC X.K D) (hz : Zc (.ref D) dx oe) (hf : ∃ vs, oe.data = .fields vs) : CallR (X.suite a ((a, oe) :: pn)) (.builtin "isinstance")
    (fun xs H Q => ∃ (c : V) (cv : Value) (b : Bool), xs = [.ref a, c] ∧ (∀ u, RelV c u → u = cv) ∧ PySem.W.kitOne X.K (.ref D) cv = some b ∧ (∀ dd, dx = some dd → ∃ fs, H dd = some (.xd fs)) ∧ Q (.bl b) H) := by
  intro pins s σ H xs us Q I r ⟨c, cv, b, e0, hcv, e, hd, q⟩
  subst e0
  obtain ⟨hget, _⟩ := I.pin (a, oe) (List.mem_append_left _ List.mem_cons_self)
  obtain ⟨vs, hv⟩ := hf
  obtain ⟨oc, odt, oda, osl⟩ := oe
  obtain ⟨h1, h2⟩ := hz
  dsimp only at h1 h2 hv
  subst h1 h2 hv
  match us, r with
  | [u1, u2], .cons rx (.cons rt .nil) =>
    cases rx
    have ec := hcv _ rt
    subst ec
    have key : ∃ od : Option Obj, PySem.W.InstAt s.heap a ⟨.ref D, odt, .fields vs, osl⟩ D od := by
      cases odt with
      | none => exact ⟨none, hget, rfl, rfl, trivial⟩
      | some dd =>
        obtain ⟨fs, hfs⟩ := hd dd rfl
        have hx : ObjOk X.prog X.w H s.heap dd (.xd fs) := I.hok dd _ hfs
        obtain ⟨mA, hns, _⟩ := hx
        obtain ⟨od, ho, _⟩ := lookIn_ns hns
        exact ⟨some od, hget, rfl, rfl, ho⟩
    obtain ⟨od, J⟩ := key
    exact PySem.W.kia_one (err_kit (od := od) C) I.kIn J e (fun z => nomatch z) fun tk => ⟨.bl b, H, I.kept (t' := tk) fun _ _ z => z, rfl, q⟩
theorem dp_isE {T en : Str} {i : Nat} {r D : Addr} {b : Bool} {oe : Obj} {pn : List (Addr × Obj)} {p p2 p3 pos : Pos} {cv : Value} {cV : V} {dx : Option Addr} (C : ExcC X.K D) (hz : Zc (.ref D) dx oe) (hf : ∃ vs, oe.data = .fields vs) (hm : X.mg "isinstance" = none) (hk : PySem.W.kitOne X.K (.ref D) cv = some b)
    (hcv : ∀ u, RelV cV u → u = cv) (ht : PE (X.suite r ((r, oe) :: pn)) (.Name T p3) (tC cV)) (he : PE (X.suite r ((r, oe) :: pn)) (.Name en p2) (tVar i)) (hg : Gl (X.suite r ((r, oe) :: pn)) "isinstance" := by rfl)
    (hs : starEach [.Name en p2, .Name T p3] X.env = (false, eval (.Name en p2) X.env) :: starEach [.Name T p3] X.env := by rfl) (hs2 : starEach [.Name T p3] X.env = (false, eval (.Name T p3) X.env) :: starEach [] X.env := by rfl)
    (hpl : (backTo pos (starEach [.Name T p3] X.env)).any (·.1) = false := by rfl) :
    PE (X.suite r ((r, oe) :: pn)) (.Call (.Name "isinstance" p) [.Name en p2, .Name T p3] [] pos) (LP X.K (mIsE i r dx b)) :=
  pe_imp (pe_callB (call_isF C hz hf) hg hm (by decide +kernel) (pa_cons he (pa_cons ht pa_nil hs2) hs) (he := hs) (hpl := hpl)) fun σ H Q ⟨W, env, fp, xf, Q0, En, S, ⟨ei, hq⟩, k⟩ => by
    cases dx with
    | none =>
      obtain ⟨v, ev, _, o⟩ := En.get ei S
      cases o _ rfl
      exact ⟨.ref r, ev, cV, cv, b, rfl, hcv, hk, (fun _ z => by cases z), k _ hq _ W H .refl S (.bl b)⟩
    | some dd =>
      obtain ⟨f, t, ei⟩ := ei
      obtain ⟨v, ev, ⟨g, ow, _⟩, _⟩ := En.get ei S
      cases ow with
      | xo hd => exact ⟨.ref r, ev, cV, cv, b, rfl, hcv, hk, (fun _ z => by cases z; exact ⟨_, hd⟩), k _ hq _ W H .refl S (.bl b)⟩
theorem dp_xf {f en : Str} {i : Nat} {r D dd : Addr} {oe : Obj} {pn : List (Addr × Obj)} {t : Str} {p2 pos : Pos} (C : XfC X.K D) (hno : PySem.W.findIn X.K (.ref D) f = some none) (hz : Zc (.ref D) (some dd) oe) (hf : ∃ vs, oe.data = .fields vs)
    (he : PE (X.suite r ((r, oe) :: pn)) (.Name en p2) (tVar i)) (hb : attributeBase (.Name en p2) f X.env (eval (.Name en p2) X.env) = eval (.Name en p2) X.env := by rfl) : PE (X.suite r ((r, oe) :: pn)) (.Attribute (.Name en p2) f pos) (LP X.K (mXf i r dd f t)) :=
  pe_imp (pe_xf C hno hz hf he hb) fun σ H Q ⟨W, env, fp, xf, Q0, En, S, ⟨ei, hq⟩, k⟩ => by
    obtain ⟨v, ev, ⟨g, ow, _⟩, _⟩ := En.get ei S
    cases ow with
    | xo hd => exact ⟨.ref r, ev, rfl, rfl, dd, [(f, .str t)], .str t, rfl, hd, by simp [List.lookup], k _ hq _ W H .refl S (.str t)⟩
def mXfK (i k : Nat) (r dd : Addr) (f : Str) : DE := fun env Q => ∃ p, fldOf k = some p ∧ p.1 = f ∧ env[i]? = some (some (.ex (.xo r dd f p.2))) ∧ Q (.fz (.str p.2))
theorem dp_xfK {f en : Str} {i k : Nat} {r D dd : Addr} {oe : Obj} {pn : List (Addr × Obj)} {p2 pos : Pos} (C : ExcC X.K D) (hno : ∀ p, fldOf k = some p → PySem.W.findIn X.K (.ref D) p.1 = some none) (hz : Zc (.ref D) (dOf k dd) oe) (hf : ∃ vs, oe.data = .fields vs)
    (he : PE (X.suite r ((r, oe) :: pn)) (.Name en p2) (tVar i)) (hb : attributeBase (.Name en p2) f X.env (eval (.Name en p2) X.env) = eval (.Name en p2) X.env := by rfl) : PE (X.suite r ((r, oe) :: pn)) (.Attribute (.Name en p2) f pos) (LP X.K (mXfK i k r dd f)) := by
  refine ⟨fun pins s σ H Q I h => ?_⟩
  obtain ⟨W, env, fp, xf, Q0, En, S, ⟨p, e1, e2, ei, hq⟩, kk⟩ := h
  subst e2
  rw [dOf_fld e1] at hz
  exact (dp_xf (i := i) (t := p.2) ⟨C.hg, C.hk, C.hs, C.hd⟩ (hno p e1) hz hf he hb).run pins s σ H Q I ⟨W, env, fp, xf, Q0, En, S, ⟨ei, hq⟩, kk⟩
end
end R
namespace R
open PySem PySem.Spec PyProof.Rows L2
structure ErrC (K : PySem.W.Frag) (mg : Str → Option Value) (x : Str) (a : Addr) : Prop where
  gl : mg x = some (.ref a)
  q : PySem.W.excIn K a He.veBase "ValueError.__new__" = true
  kp : PySem.W.keepIn K (.ref a) = true
  sb : PySem.W.subIn K (.ref a) (.type "BaseException") = some true
  ty : PySem.W.typeIn K (.ref a) = some (.type "type")
structure ErrI (K : PySem.W.Frag) (ad : Nat → Addr) (n k : Nat) : Prop where
  c : ExcC K (ad k)
  is : ∀ j, j < n → PySem.W.kitOne K (.ref (ad k)) (.ref (ad j)) = some (clsK k == j)
  ve : PySem.W.kitOne K (.ref (ad k)) (.type "ValueError") = some true
  nf : ∀ p, fldOf k = some p → PySem.W.findIn K (.ref (ad k)) p.1 = some none
theorem ErrI.congr {K : PySem.W.Frag} {ad ad' : Nat → Addr} {n k : Nat} (h : ErrI K ad n k) (hk : ad k = ad' k) (e : ∀ j, j < n → ad j = ad' j) : ErrI K ad' n k := ⟨by rw [← hk]; exact h.c, fun j hj => by rw [← hk, ← e j hj]; exact h.is j hj, by rw [← hk]; exact h.ve, by rw [← hk]; exact h.nf⟩
theorem errB_ok {K : PySem.W.Frag} {D : Addr} (h : errB K D = true) : ExcC K D := by
  obtain ⟨h1, h⟩ := He.ba h
  obtain ⟨h2, h⟩ := He.ba h
  obtain ⟨h3, h⟩ := He.ba h
  obtain ⟨h4, h⟩ := He.ba h
  obtain ⟨h5, h⟩ := He.ba h
  obtain ⟨h6, h⟩ := He.ba h
  obtain ⟨h7, h8⟩ := He.ba h
  exact ⟨He.eqO_ok h1, He.eqO_ok h2, of_decide_eq_true h3, h4, He.eqO_ok h5, He.eqO_ok h6, of_decide_eq_true h7, of_decide_eq_true h8⟩
theorem errIB_ok {K : PySem.W.Frag} {ad : Nat → Addr} {n k : Nat} (h : errIB K ad n k = true) : ErrI K ad n k := by
  obtain ⟨h1, h⟩ := He.ba h
  obtain ⟨h, h4⟩ := He.ba h
  obtain ⟨h2, h3⟩ := He.ba h
  refine ⟨errB_ok h1, fun j hj => of_decide_eq_true (List.all_eq_true.mp h2 j (List.mem_range.mpr hj)), of_decide_eq_true h3, fun p e => ?_⟩
  rw [e] at h4
  exact He.eqO_ok h4
theorem iniB_ok {K : PySem.W.Frag} {C : Addr} {f : Str} (h : iniB K C f = true) : OexC K C ∧ PySem.W.findIn K (.ref C) f = some none ∧ PySem.W.findIn K (.ref C) "__init__" = some (some (.ref (He.ma K C "__init__"))) ∧ PySem.W.typeIn K (.ref (He.ma K C "__init__")) = some (.type "function") := by
  obtain ⟨h1, h⟩ := He.ba h
  obtain ⟨h2, h⟩ := He.ba h
  obtain ⟨h3, h⟩ := He.ba h
  obtain ⟨h4, h⟩ := He.ba h
  obtain ⟨h5, h⟩ := He.ba h
  obtain ⟨h6, h⟩ := He.ba h
  obtain ⟨h7, h8⟩ := He.ba h
  refine ⟨⟨?_, He.eqO_ok h2, of_decide_eq_true h3, of_decide_eq_true h4, h5⟩, He.eqO_ok h6, He.eqO_ok h7, of_decide_eq_true h8⟩
  split at h1
  · rename_i dd cd sl ho
    split at h1
    · rename_i C2 bm k0 k1 k2 k3 n k5 hm hs
      obtain ⟨a1, a2⟩ := He.ba h1
      obtain ⟨a2, a3⟩ := He.ba a2
      obtain ⟨a3, b4⟩ := He.ba a3
      obtain ⟨a4, a5⟩ := He.ba b4
      clear b4
      have e1 : C2 = C := beq_iff_eq.mp a1
      have e2 : n = "ValueError.__new__" := beq_iff_eq.mp a2
      obtain ⟨nm, bs, mro, ns, qn, hd, sn, sub, ab, col, del⟩ := cd
      dsimp only at hm a3 a4
      have e4 : hd = true := a4
      have e3 : del = false := by cases del with
        | false => rfl
        | true => cases a3
      have hsl : sl = #[k0, k1, k2, k3, some (.builtin n), k5] := by
        obtain ⟨l⟩ := sl
        dsimp only at hs
        rw [hs]
      subst e1 e2 e3 hm hsl e4
      exact ⟨_, _, _, _, _, _, _, _, _, _, _, _, _, _, _, ho, a5⟩
    · cases h1
  · cases h1
theorem basB_ok {K : PySem.W.Frag} {mg : Str → Option Value} {b : Str} {D : Addr} (g : mg b = some (.ref D)) (h : basB K D = true) : BaseC K mg b D := by
  obtain ⟨h1, h⟩ := He.ba h
  obtain ⟨h2, h⟩ := He.ba h
  obtain ⟨h3, h4⟩ := He.ba h
  refine ⟨g, h1, He.eqO_ok h2, h3, ?_⟩
  split at h4
  · rename_i n e
    rw [e, show n = "ValueError.__init__" from beq_iff_eq.mp h4]
  · cases h4
def MakerOk (K : PySem.W.Frag) (mg : Str → Option Value) (base : Heap) (f : Addr) (q : Str) : Prop := ∀ cdv, CodeAt K f cdv q → ∃ c P, cdv = .ref c ∧ LamX.TabB base mg c P ∧ (lamTab K).lookup P = some ((q ++ ".<locals>.") ++ "<lambda>")
theorem maker_ok {K : PySem.W.Frag} {mg : Str → Option Value} {base : Heap} {q : Str} {p : He.Defn} (h : LamX.TabB base mg (He.cT K p).1 (He.cT K p).2) (e : (lamTab K).lookup (He.cT K p).2 = some ((q ++ ".<locals>.") ++ "<lambda>")) : MakerOk K mg base (He.fAd K p) q := by
  rintro cdv ⟨oc, od, osl, fd, lk, rfl, hc⟩
  obtain ⟨c, ec⟩ := He.codeIn_ref hc
  obtain rfl := He.codeOf_eq (p := p) lk ec
  exact ⟨_, _, ec, h, e⟩
section
variable {X : Cx} {k j n np : Nat} {C : Addr} {F1 : Spec1} {x m : Str} {p pos apos : Pos} {e o : Expr} {es : List Expr} {mo : DE} {ma mk : DA} {kws : List Keyword} {ks : List Str} {E : XK} {ad : Nat → Addr}
structure MetKX (P : Program) (w : World) (K : PySem.W.Frag) (mg : Str → Option Value) (base : Heap) (ad : Nat → Addr) (C : Addr) (m : Str) (n : Nat) (F : Spec1) (np : Nat) (ks : List Str) (k : Nat) : Prop where
  ex : ∃ (f : Addr) (fd : FuncData) (ps : List Str) (g : List Value → List Value → List Value), Cls K C ∧ Meth K C m f ∧ FnOk P w K mg base (L2.CX P w) k f fd ps (spX K ad n F.io) ∧ KBn K fd ps (np + 1) ks g (fun vs zs => vs ++ zs)
end
theorem exB_is {is es : List Str} {ks : List Nat} {tf : List He.Defn} {ox : List (Str × Str)} {K : PySem.W.Frag} (h : exB is es ks tf ox K = true) : is.all (isB K) = true := (He.ba h).1
theorem exB_err {is es : List Str} {ks : List Nat} {tf : List He.Defn} {ox : List (Str × Str)} {K : PySem.W.Frag} (h : exB is es ks tf ox K = true) {k : Nat} (m : k ∈ ks) : ErrI K (fun k => He.ga K (es.getD k "")) 7 k := errIB_ok (List.all_eq_true.mp (He.ba (He.ba h).2).1 k m)
theorem lookup_mem {α : Type} {a : Addr} {o : α} : ∀ {l : List (Addr × α)}, l.lookup a = some o → (a, o) ∈ l
  | [], h => by cases h
  | (b, u) :: r, h => by
    rw [List.lookup_cons] at h
    cases q : a == b with
    | true =>
      rw [q] at h
      cases h
      rw [beq_iff_eq.mp q]
      exact List.mem_cons_self
    | false =>
      rw [q] at h
      exact List.mem_cons_of_mem _ (lookup_mem h)
theorem exB_tab {is es : List Str} {ks : List Nat} {tf : List He.Defn} {ox : List (Str × Str)} {K : PySem.W.Frag} (h : exB is es ks tf ox K = true) {P : Addr} {q : Str} (e : (lamTab K).lookup P = some q) : ∃ p ∈ tf.map (He.cT K), p.2 = P := by
  obtain ⟨p, hp, z⟩ := List.any_eq_true.mp (List.all_eq_true.mp (He.ba (He.ba (He.ba h).2).2).1 (P, q) (lookup_mem e))
  exact ⟨_, List.mem_map.mpr ⟨p, hp, rfl⟩, beq_iff_eq.mp z⟩
theorem exB_lk {is es : List Str} {ks : List Nat} {tf : List He.Defn} {ox : List (Str × Str)} {K : PySem.W.Frag} (h : exB is es ks tf ox K = true) {p : He.Defn} (m : p ∈ tf) : (lamTab K).lookup (He.cT K p).2 = some ((p.1 ++ ".<locals>.") ++ "<lambda>") := of_decide_eq_true (List.all_eq_true.mp (He.ba (He.ba (He.ba (He.ba h).2).2).2).1 p m)
theorem exB_ox {is es : List Str} {ks : List Nat} {tf : List He.Defn} {ox : List (Str × Str)} {K : PySem.W.Frag} (h : exB is es ks tf ox K = true) {p : Str × Str} (m : p ∈ ox) : iniB K (He.ga K p.1) p.2 = true ∧ basB K (He.ga K "CupLadderError") = true := He.ba (List.all_eq_true.mp (He.ba (He.ba (He.ba (He.ba h).2).2).2).2 p m)
theorem tabs_at {fa : List He.Fa} {fn : List He.DefD} {ts : List He.Tab} {tf : List He.Defn} {ex : PySem.W.Frag → Bool} {w : World} {h : Heap} {K : PySem.W.Frag} {mg : Str → Option Value} (X : K.In h) (c : He.SaysX fa fn ts tf ex w h K)
    (b : ∃ (m : Addr) (o : Obj), mg "__builtins__" = some (.ref m) ∧ m ≠ builtinsNs ∧ h.get? m = some o ∧ o.cls = .type "module" ∧ o.dict = some builtinsNs ∧ o.data = .plain) : TabsAt K mg h (tf.map (He.cT K)) := by
  refine ⟨fun p m => ?_, fun p m => ?_, fun p m => ?_, b⟩
  all_goals
    obtain ⟨q, hq, rfl⟩ := List.mem_map.mp m
  · exact c.empty q hq
  · exact c.out q hq
  · exact PySem.W.codeHd_of_K X (c.hd q hq)
end R
namespace R
open PySem PySem.Spec PyProof.Rows L2
def LPE (K : PySem.W.Frag) (ex : Nat → Hp → Prop) (m : DE) : TE := fun σ H _ => ∃ (W : Wd) (env : Env) (fp xf : List Addr) (Q0 : Nat → Prop), EnvOk K W H σ env fp xf ∧ Sat K W H fp xf ∧ m env (fun r => ∃ k, r = .fz (.exn k) ∧ Q0 k) ∧ ∀ k, Q0 k → ∀ W' H', Stp W H [] W' H' → Sat K W' H' fp xf → ex k H'
section
variable {X : Cx} {a b e : Expr} {es : List Expr} {ma mb : DE} {mr : DA} {pos : Pos} {pr : List Nat} {ex : Nat → Hp → Prop} {x : Str} {n k j : Nat} {F1 : Spec1} {dv : List D}
theorem er_of (h : PE X a (LPX X.K ex ma)) : PE X a (LPE X.K ex ma) := pe_imp h fun σ H Q h => by
  obtain ⟨W, env, fp, xf, Q0, E, S, hm, kx⟩ := h
  refine ⟨W, env, fp, xf, _, E, S, hm, fun r hr v W1 H1 t1 S1 o => ?_, fun k hk W1 H1 t1 S1 => ?_⟩
  · obtain ⟨k, rfl, _⟩ := hr
    cases (show Rep X.K W1 v (.exn k) from o)
  · obtain ⟨k2, e, q⟩ := hk
    cases e
    exact kx k q W1 H1 t1 S1
theorem er_cal (c : CalR X.prog X.w X.K X.mg X.base x n F1 dv k) (hr : Room j X.A) (hk : k ≤ j) (ha : PE X a (LPE X.K ex ma)) {p : Pos} (hg : Gl X x := by rfl) (hst : starEach [a] X.env = (false, eval a X.env) :: starEach [] X.env := by rfl) (hpl : (backTo pos (starEach [] X.env)).any (·.1) = false := by rfl)
    (hdb : (x == ("__debug__" : Str)) = false := by decide) : PE X (.Call (.Name x p) [a] [] pos) (LPE X.K ex ma) := by
  obtain ⟨f, fd, ps, ds, dvs, F, hm, kp, b, d, r⟩ := c.ex
  exact pe_imp (pe_call F (hr.mono hk) hg hm kp b d (E := E0) pass0 (pa_cons ha pa_nil hst) hdb hst hpl) fun σ H Q h => h
theorem er_mul (ha : PE X a (LPE X.K ex ma)) (hb : PE X b (LP X.K mb)) : PE X (.BinOp a .Mult b pos) (LPE X.K ex ma) := pe_imp (pe_op op_mulAll ha hb) fun _ _ _ h => h
theorem er_div (ha : PE X a (LPE X.K ex ma)) (hb : PE X b (LP X.K mb)) : PE X (.BinOp a .FloorDiv b pos) (LPE X.K ex ma) := pe_imp (pe_op op_fdivW ha hb) fun _ _ _ h => h
variable {tg elt iter : Expr} {ifs : List Expr} {scope : Scope} {own : List (Str × Nat)} {g : DG} {t : DT} {mi : DE}
theorem er_lc (hc : X.calm = true) (hN : X.N.Nodup) (hi : PE X iter (LPE X.K ex mi)) (ok : BlkOk X.N X.env.scope scope own)
    (hg : ∀ (s : Shared) (H : Hp) (C : Addr) (cl : List (Str × Addr)) (fp : List Addr), PG (X.blk s H scope (compEnvC scope cl C X.env) fp) tg (LG X.K (fun i => i ∉ own.map (·.2)) g)) (ht : ∀ (s : Shared) (H : Hp) (C : Addr) (cl : List (Str × Addr)) (fp : List Addr), PTs (X.blk s H scope (compEnvC scope cl C X.env) fp) ifs (LT X.K t))
    (he : ∀ (s : Shared) (H : Hp) (C : Addr) (cl : List (Str × Addr)) (fp : List Addr), PE (X.blk s H scope (compEnvC scope cl C X.env) fp) elt (LP X.K ma)) (hs : ∀ x, foldedSetIterable iter X.env x = pure x := by intro _; rfl) :
    PE X (.ListComp elt [⟨tg, iter, ifs, 0⟩] scope pos) (LPE X.K ex mi) := pe_imp (pe_lc hc hN (pi_imp (t' := fun σ H _ => LPE X.K ex mi σ H fun _ _ => True) (pi_seq hi) fun _ _ _ h => h) ok hg ht he hs) fun σ H Q h => h
def mErrS (a : DE) : DS := fun env D => a env fun r => ∃ k, r = .fz (.exn k) ∧ D.rt (.fz (.exn k)) env
def mOrS (a b : DS) : DS := fun env D => a env D ∨ b env D
theorem ds_errRet (ha : PE X a (LPE X.K ex ma)) : PS X (.Return (some a) pos) (LS X.K ex pr (mErrS ma)) := ps_imp (ps_ret ha) fun D σ H ⟨W, env, fp, xf, K0, En, S, hm, _, _, _, rt⟩ =>
  ⟨W, env, fp, xf, fun k => K0.rt (.fz (.exn k)) env, En, S, hm, fun k hk W1 H1 t1 S1 => rt.x k env hk σ W1 H1 fp xf (.pure t1 (En.keep S t1) S1)⟩
theorem ds_orS {st : Stmt} {m1 m2 : DS} (h1 : PS X st (LS X.K ex pr m1)) (h2 : PS X st (LS X.K ex pr m2)) : PS X st (LS X.K ex pr (mOrS m1 m2)) := ⟨fun pins s σ H D I ⟨W, env, fp, xf, K0, En, S, hm, nx, bk, ct, rt⟩ => by
  rcases hm with hm | hm
  · exact h1.run pins s σ H D I ⟨W, env, fp, xf, K0, En, S, hm, nx, bk, ct, rt⟩
  · exact h2.run pins s σ H D I ⟨W, env, fp, xf, K0, En, S, hm, nx, bk, ct, rt⟩⟩
end
end R
namespace R
open PySem PySem.Spec PyProof.Rows L2
def oIdxB (ds : List D) (y : Rs) (Q : Rs → Prop) : Prop := ∃ (j : Nat) (b : Bool) (bs : List Bool), y = .fz (.bl b) ∧ allOf D.bl? ds = some bs ∧ bs[j]? = some b ∧ (∀ m, m < j → bs[m]? ≠ some b) ∧ Q (.fz (.int (j : Int)))
def mIdxB (a b : DE) : DE := fun env Q => a env fun x => ∃ ds, x.ffz.els true = some ds ∧ b env fun y => oIdxB ds y.ffz Q
section
variable {X : Cx} {a b : Expr} {ma mb : DE}
theorem dp_indexB (ha : PE X a (LP X.K ma)) (hb : PE X b (LP X.K mb)) {apos p2 : Pos} (hst : starEach [b] X.env = (false, eval b X.env) :: starEach [] X.env := by rfl)
    (hbase : attributeBase a "index" X.env (eval a X.env) = eval a X.env := by rfl) (hfew : ((backTo p2 (starEach [b] X.env)).all (fun x => !x.1) && (backToKw p2 (keywordEach [] X.env)).all (fun x => x.1.isSome)
      && decide ([b].length + ([] : List Keyword).length + (if ([] : List Keyword).isEmpty then 0 else 1) < 30)) = true := by rfl) (hline : (apos.endLine == p2.line) = true := by rfl) :
    PE X (.Call (.Attribute a "index" apos) [b] [] p2) (LP X.K (mIdxB ma mb)) := pe_imp (pe_bm PySem.F.plainAttrs_list PySem.F.slot_list_index PySem.F.type_list_index mt_index ha (da_cons hb da_nil hst) hbase hfew hline hst) fun σ H Q h => by
  obtain ⟨W, env, fp, xf, Q0, E, S, hm, k⟩ := h
  refine ⟨W, env, fp, xf, _, E, S, hm, fun r1 ⟨ds, e, h1⟩ v1 W1' H1 t1' S1' o1' => ?_⟩
  obtain ⟨W1, t1, S1, _, o1⟩ := ffz_ok S t1' S1' o1'
  obtain ⟨p, vs, rfl, g, rs⟩ := els_L e o1 S1
  refine ⟨.inl ⟨rfl, _, .of g⟩, ?_⟩
  refine LA.next (m := mCons mb mNil) (E.keep S t1) S1 (Q1 := one1 fun r => oIdxB ds r.ffz Q0) h1 fun us hr vs2 W2' H2 g2 t2' S2' E2 os G => ?_
  obtain ⟨r2, rfl, hq⟩ := one1_inv hr
  obtain ⟨v2, rfl, o2'⟩ := os.one G
  obtain ⟨W2, t2, S2, _, o2⟩ := ffz_ok S1 t2' S2' o2'
  have o3 := o1.keep t2 (t2.le S1 fun _ m => by cases m)
  obtain ⟨p', vs', ep, g', rs'⟩ := els_L e o3 S2
  cases ep
  obtain ⟨j, i, bs, e2, e3, hj, hn, q⟩ := hq
  have e4 := allOf_bls e3 rs'
  subst e4
  rw [e2] at o2
  cases (show Rep X.K W2 v2 (.bl i) from o2)
  refine ⟨p, _, .bl i, j, .bl i, rfl, rfl, .of g', rfl, flat_map V.bl (fun _ => rfl) bs, by rw [List.getElem?_map, hj] <;> rfl, beq_self_eq_true i, fun m z' hm hz => ?_, k _ q _ W2 H2 (t1.tr0 t2) S2 (.int _)⟩
  obtain ⟨y, ey, rfl⟩ := map_get_ne hz
  refine beq_false_of_ne fun z => hn m hm ?_
  rw [ey, z]
end
end R
namespace R
open PySem PySem.Spec PyProof.Rows L2
def oIsCA (C : Nat) (r : Rs) (Q : Rs → Prop) : Prop := (∃ ks ts, r.t.inst = some (C, ks, ts) ∧ Q (.fz (.bl true))) ∨ ∃ k, r.t.ty = some k ∧ Q (.fz (.bl false))
section
variable {X : Cx} {a b : Expr} {ma mb : DE} {pos : Pos} {C : Addr}
theorem dp_isCA {T : Str} {p p2 : Pos} (hm : X.mg "isinstance" = none) (hm2 : X.mg T = some (.ref C)) (hi : IsC X.K C) (ha : PE X a (LP X.K ma)) (hg : Gl X "isinstance" := by rfl) (hg2 : Gl X T := by rfl)
    (hdb : (T == ("__debug__" : Str)) = false := by decide) (hs : starEach [a, .Name T p2] X.env = (false, eval a X.env) :: starEach [.Name T p2] X.env := by rfl) (hs2 : starEach [.Name T p2] X.env = (false, eval (.Name T p2) X.env) :: starEach [] X.env := by rfl)
    (hpl : (backTo pos (starEach [.Name T p2] X.env)).any (·.1) = false := by rfl) :
    PE X (.Call (.Name "isinstance" p) [a, .Name T p2] [] pos) (LP X.K (mUn (oIsCA C) ma)) :=
  pe_imp (pe_callB call_isi hg hm (by decide +kernel) (pa_cons ha (pa_cons (pe_glob (v := .ref C) hg2 hm2 rfl hdb) pa_nil hs2) hs) (he := hs) (hpl := hpl)) fun σ H Q h => h.one fun W fp xf Q0 r v W2 H2 hc O o => by
    rcases hc with ⟨ks, ts, ek, q⟩ | ⟨k, ek, q⟩
    · obtain ⟨a, dx, fs, f, rfl, g, _⟩ := inst_ok ek o O.S2
      exact ⟨.ref a, .ref C, .ref C, .ref C, true, rfl, .own C, .base (.ins g hi.cl hi.ha hi.hn hi.htk hi.hm), hi.eq, O.fin q (.bl _)⟩
    · obtain ⟨t, hk⟩ := ty_ok ek O.S2 o
      exact ⟨v, .ref C, .type k, .ref C, false, rfl, .own C, t, (hi.no k hk).1, O.fin q (.bl _)⟩
end
section
variable {X : Cx} {CX : CXT} {C f : Addr} {fd : FuncData} {ps : List Str} {k : Nat} {sp : Sp} {E : XK}
end
section
variable {X : Cx} {k j : Nat} {C : Addr} {F1 : Spec1} {pos : Pos} {a b : Expr} {ma mb : DE}
end
end R
namespace R
open PySem PySem.Spec PyProof.Rows L2
section
variable {K : PySem.W.Frag} {W W' : Wd} {H H' : Hp} {fp : List Addr}
end
section
variable {X : Cx} {a b : Expr} {ma mb : DE} {pos : Pos} {k : Nat} {pr : List Nat}
end
end R
namespace R
open PySem PySem.Spec PyProof.Rows L2
section
variable {X : Cx} {a : Expr} {ma : DE} {pr : List Nat} {ex : Nat → Hp → Prop} {ad : Nat → Addr} {x : Str}
end
end R
namespace R
open PySem PySem.Spec PyProof.Rows L2
section
variable {prog : Program} {w : World} {A : Around}
end
end R
namespace R
open PySem PySem.Spec PyProof.Rows L2
section
variable {X : Cx} {a b : Expr} {pos : Pos} {mr : DA}
end
end R
namespace R
open PySem PySem.Spec PyProof.Rows L2
section
variable {X : Cx} {k n : Nat} {F0 : Spec} {dvs : List V} {dv : List D} {E : XK} {x : Str} {p pos : Pos} {e : Expr} {es : List Expr} {ma : DA} {is : List Nat} {m0 : DE} {ms : List DE}
end
end R
namespace R
open PySem PySem.Spec PyProof.Rows L2
section
variable {X : Cx} {pins : List (Addr × Obj)} {σ : L2.St} {H : Hp} {s : Shared}
end
end R
namespace R
open PySem PySem.Spec PyProof.Rows L2
section
variable {X : Cx} {pins : List (Addr × Obj)} {σ : L2.St} {H : Hp} {s : Shared}
theorem vals_ints {ns : List Int} : ∀ {kA : List Value}, Vals (ns.map V.int) kA → IntsAre kA ns := by
  induction ns with
  | nil => intro kA h; cases h; exact .nil
  | cons n ns ih =>
    intro kA h
    cases h with
    | cons r h =>
      obtain ⟨t, rfl⟩ := r
      exact .cons n t (ih h)
end
end R
namespace R
open PySem PySem.Spec PyProof.Rows L2
section
variable {X : Cx}
end
end R
namespace R
open PySem PySem.Spec PyProof.Rows L2
section
variable {X : Cx} {a b c : Expr} {ma mb mc : DE} {mr : DA} {pos p1 : Pos} {pr : List Nat} {x : Str}
end
end R
namespace R
open PySem PySem.Spec PyProof.Rows L2
def mMakeX (n : Nat) (C : Nat) (F : Spec) (a : DA) (dv : List D) : DE := fun env Q => a env fun rs => (args rs dv).length + 1 = n ∧ F (some (.nw (.ins C [] [])) :: args rs dv) fun r ss => r.exq (fun k => Q (.fz (.exn k))) (r = .fz .non ∧ ∃ t, ss.head? = some (some (.nw t)) ∧ Q (.nw t))
def mMakeKX (n : Nat) (C : Nat) (F : Spec) (np nk : Nat) (a k : DA) : DE := mMakeX n C F (mApp np nk a k) []
theorem exq_ret {K : PySem.W.Frag} {H H' : Hp} {fp fp' : List Addr} {W' : Wd} {v : V} {r : Rs} {x : Nat → Prop} {n : Prop} (h : r.exq x n) (o : RetOk K H fp fp' W' H' v r) : n := by
  unfold Rs.exq at h
  split at h
  · rename_i k
    have o : Rep K W' v (.exn k) := o
    cases o
  · exact h
section
variable (P : Program) (w : World) (K : PySem.W.Frag) (mg : Str → Option Value) (base : Heap) (ad : Nat → Addr)
structure MakX (x : Str) (C : Addr) (n : Nat) (F : Spec) (dv : List D) (k : Nat) : Prop where
  ex : ∃ (f : Addr) (fd : FuncData) (ps : List Str) (ds : List Value) (dvs : List V), Mk K C f ∧ FnOk P w K mg base (L2.CX P w) k f fd ps (spX K ad n F) ∧ mg x = some (.ref C) ∧ Binds K fd ps ds ∧ Vals dvs ds ∧ ∀ W, RepAll K W dvs dv
structure MakKX (x : Str) (C : Addr) (n : Nat) (F : Spec) (np : Nat) (ks : List Str) (k : Nat) : Prop where
  ex : ∃ (f : Addr) (fd : FuncData) (ps : List Str) (g : List Value → List Value → List Value), Mk K C f ∧ FnOk P w K mg base (L2.CX P w) k f fd ps (spX K ad n F) ∧ mg x = some (.ref C) ∧ KBn K fd ps (np + 1) ks g (fun vs zs => vs ++ zs)
end
section
variable {X : Cx} {CX : CXT} {k j n np : Nat} {f C : Addr} {fd : FuncData} {ps ks : List Str} {F0 : Spec} {dvs : List V} {dv : List D} {ds : List Value} {E : XK} {x m : Str} {p pos apos : Pos} {e o : Expr} {es : List Expr} {ma mk : DA} {kws : List Keyword} {ad : Nat → Addr} {pr : List Nat} {ex : Nat → Hp → Prop} {a : Expr} {mx : DE}
theorem make_allX {σ : L2.St} {H : Hp} {Q : VK} (hd : ∀ W, RepAll X.K W dvs dv) (h : LPX X.K (exK ad E) (mMakeX n C F0 ma dv) σ H Q) : tMake C (spX X.K ad n F0) dvs E (LA X.K ma) σ H Q := by
  obtain ⟨W, env, fp, xf, Q0, En, S, hm, k, kx⟩ := h
  refine LA.next En S hm fun rs ⟨hn, hr⟩ vs W1 H1 g t1 S1 E1 os G => ?_
  intro x dx nx ndx ne
  obtain ⟨W4, g', t4, S4, _, _, o4, G4, _, _⟩ := os.ffz (.refl _) rfl S t1 S1 G.1 G.2
  obtain ⟨xf1, Ea, z1⟩ := o4.lend fun a m => (G4.2 a m).2.2
  obtain ⟨xf2, Eb, z2⟩ := (EnvOk.consts (hd W4)).app Ea
  rw [← List.map_append] at Eb
  have nx1 : upd H1 dx (.own x) x = none := by rw [upd_ne (Ne.symm ne)]; exact nx
  have tn := (Stp.new (W := W4) (o := .own x) ndx).tr0 (.new (o := .ins C dx []) nx1)
  have Sn := (S4.new (o := .own x) ndx).new (o := .ins C dx []) nx1
  have En2 := Eb.mono (W' := W4) (H' := upd (upd H1 dx (.own x)) x (.ins C dx [])) (.refl _) fun a m o e => by
    rw [upd_ne (fun q => by rw [q, nx] at e; cases e), upd_ne (fun q => by rw [q, ndx] at e; cases e)]
    exact e
  have fx := S4.free nx
  have ow : Own X.K W4 (upd (upd H1 dx (.own x)) x (.ins C dx [])) (.ref x) (.ins C [] []) [x] := .ins (fs := []) upd_same .nil
  have E3 := EnvOk.nw ow En2
  have S3 : Sat X.K W4 (upd (upd H1 dx (.own x)) x (.ins C dx [])) ([x] ++ ([] ++ [])) xf2 := ⟨Sn.sub, Sn.vol, by simp, fun a m => by
    have e : a = x := by simpa using m
    rw [e]
    exact ⟨fx.1, fx.2, by rw [upd_same]; exact fun z => nomatch z⟩, fun a m => by
    have q : W4.S a = none ∧ H1 a ≠ none := (z2 a m).elim (z1 a) fun m => by cases m
    exact ⟨fun m2 => q.2 (by rw [show a = x by simpa using m2]; exact nx), q.1, tn.al a q.2⟩⟩
  have hlen : (V.ref x :: (vs ++ dvs)).length = n := by
    rw [List.length_cons, ← args_len os.len (hd W1).len]
    exact hn
  rw [args_eq] at hr
  have tall : ∀ {W' H'}, Stp W4 (upd (upd H1 dx (.own x)) x (.ins C dx [])) ([x] ++ ([] ++ [])) W' H' → Stp W H [] W' H' := fun t5 => by
    refine (t4.tr0 tn).trans t5 fun a m => .inr ?_
    have e : a = x := by simpa using m
    rw [e]
    cases z : H x with
    | none => rfl
    | some u => exact absurd nx (t4.al x (some_ne z))
  refine ⟨hlen, W4, _, _, xf2, _, E3, S3, hr, fun r ss' hq v W' H' fp' xf' t5 E5 S5 nf o => ?_, fun k2 ss' hq W' H' fp' xf' t5 E5 S5 nf => ?_⟩
  · obtain ⟨er, t, es, q⟩ := exq_ret hq o
    subst er
    have ev : v = .non := by cases (show Rep X.K W' v .non from o); rfl
    have Sb := S.back (tall t5) (S5.sublist (List.nil_sublist _) fun _ m => m)
    refine ⟨ev, ?_⟩
    cases ss' with
    | nil => cases es
    | cons s0 ss0 =>
      have es : some s0 = some (some (Rs.nw t)) := es
      cases es
      cases E5 with
      | nw ow5 rest =>
        rename_i f5 fp5
        obtain ⟨n1, _, _⟩ := List.nodup_append.mp S5.nd
        refine k _ q _ W' H' (tall t5) Sb ⟨f5, ow5, n1, fun a m => ?_⟩
        obtain ⟨o1, o2, _⟩ := S5.off a (List.mem_append_left _ m)
        refine ⟨?_, o1, o2⟩
        rcases nf a (List.mem_append_left _ m) with z | z
        · have e : a = x := by simpa using z
          rw [e]
          cases z : H x with
          | none => rfl
          | some u => exact absurd nx (t4.al x (some_ne z))
        · cases z2 : H a with
          | none => rfl
          | some u => exact absurd z ((t4.tr0 tn).al a (some_ne z2))
  · exact kx k2 hq W' H' (tall t5) (S.back (tall t5) (S5.sublist (List.nil_sublist _) fun _ m => m))
theorem dp_makX (c : MakX X.prog X.w X.K X.mg X.base ad x C n F0 dv k) (hr : Room j X.A) (hk : k + 1 ≤ j) (tk : Takes X (fun cls d _ H => E cls d H)) (ha : PA X (e :: es) (LA X.K ma))
    (hg : Gl X x := by rfl) (hdb : (x == ("__debug__" : Str)) = false := by decide) (he : starEach (e :: es) X.env = (false, eval e X.env) :: starEach es X.env := by rfl) (hpl : (backTo pos (starEach es X.env)).any (·.1) = false := by rfl) :
    PE X (.Call (.Name x p) (e :: es) [] pos) (LPX X.K (exK ad E) (mMakeX n C F0 ma dv)) := by
  obtain ⟨f, fd, ps, ds, dvs, M, F, hm, b, d, r⟩ := c.ex
  exact pe_imp (pe_make M F (hr.mono hk) hg hm b d (E := E) (passes_call tk fun _ _ _ _ h => h) ha hdb he hpl) fun σ H Q h => make_allX r h
theorem dp_makkX (c : MakKX X.prog X.w X.K X.mg X.base ad x C n F0 np ks k) (hr : Room j X.A) (hk : k + 1 ≤ j) (tk : Takes X (fun cls d _ H => E cls d H)) (ha : PA X (e :: es) (LA X.K ma)) (hkw : PK X kws (LA X.K mk))
    (hg : Gl X x := by rfl) (hall : (backToKw pos (keywordEach kws X.env)).all (·.1.isSome) = true := by rfl) (hks : (backToKw pos (keywordEach kws X.env)).filterMap (·.1) = ks := by rfl) (hdb : (x == ("__debug__" : Str)) = false := by decide) {nk : Nat} (hnk : ks.length = nk := by rfl)
    (he : starEach (e :: es) X.env = (false, eval e X.env) :: starEach es X.env := by rfl) (hpl : ((backTo pos (starEach (e :: es) X.env)).any (·.1) || (backToKw pos (keywordEach kws X.env)).any (·.1.isNone)) = false := by rfl) :
    PE X (.Call (.Name x p) (e :: es) kws pos) (LPX X.K (exK ad E) (mMakeKX n C F0 np nk ma mk)) := by
  subst hnk
  obtain ⟨f, fd, ps, g, M, F, hm, hb⟩ := c.ex
  refine pe_imp (pe_makeK (E := E) M F (hr.mono hk) hg hm hb (passes_call tk fun _ _ _ _ h => h) ha hkw hall hks hdb he hpl) fun σ H Q h => ?_
  have h2 := make_allX (X := X) (dvs := []) (dv := []) (E := E) (fun _ => .nil) h
  unfold tMake at h2
  have h3 := app_all h2
  unfold tMakeK
  obtain ⟨W, env, fp, xf, Q0, E, S, hm, k⟩ := h3
  refine ⟨W, env, fp, xf, Q0, E, S, hm, fun rs hr vs W1 H1 g t1 S1 o G => ?_⟩
  obtain ⟨W', env', fp', xf', Q0', E', S', hm', k'⟩ := k rs hr vs W1 H1 g t1 S1 o G
  refine ⟨W', env', fp', xf', Q0', E', S', hm', fun rs hr us W1 H1 g t1 S1 o G => ?_⟩
  obtain ⟨l1, l2, q⟩ := k' rs hr us W1 H1 g t1 S1 o G
  refine ⟨l1, l2, fun x dx a b c => ?_⟩
  have z := q x dx a b c
  rw [List.append_nil] at z
  exact z
end
def orI (F1 F2 : Spec) : Spec := fun ss Q => F1 ss Q ∨ F2 ss Q
section
variable {P : Program} {w : World} {K : PySem.W.Frag} {mg : Str → Option Value} {base : Heap} {ad : Nat → Addr} {k k1 k2 n : Nat} {f : Addr} {fd : FuncData} {ps : List Str} {F1 F2 : Spec}
theorem fn_or (a : FnOk P w K mg base (L2.CX P w) k1 f fd ps (spX K ad n F1)) (b : FnOk P w K mg base CX0 k2 f fd ps (spR K n F2)) (h1 : k1 ≤ k) (h2 : k2 ≤ k) : FnOk P w K mg base (L2.CX P w) k f fd ps (spX K ad n (orI F1 F2)) := by
  have key : ∀ {vs H Q E}, spX K ad n (orI F1 F2) vs H Q E → spX K ad n F1 vs H Q E ∨ spR K n F2 vs H Q E := by
    rintro vs H Q E ⟨hn, W, ss, fp, xf, Q0, E0, S0, hF, kk, kx⟩
    rcases hF with hF | hF
    · exact .inl ⟨hn, W, ss, fp, xf, Q0, E0, S0, hF, kk, kx⟩
    · exact .inr ⟨hn, W, ss, fp, xf, Q0, E0, S0, hF, kk⟩
  refine ⟨fun vs H Q E h => (key h).elim (a.len vs H Q E) (b.len vs H Q E), fun A outer s H args us vs Q E hr e0 hb r h => ?_⟩
  rcases key h with h | h
  · exact a.run A outer s H args us vs Q E (hr.mono h1) e0 hb r h
  · refine codeAny_mono (b.run A outer s H args us vs Q E (hr.mono h2) e0 hb r h) fun r s' q => ?_
    match r, q with
    | .error e, q => exact (show False from q).elim
    | .ok (.ret u), q => exact q
    | .ok .next, q => exact q
    | .ok .brk, q => exact q
    | .ok .cont, q => exact q
end
end R
namespace R
open PySem PySem.Spec PyProof.Rows L2
structure Mid (X : Cx) (sB : Shared) (HB : Hp) (sc : Scope) (ce : PySem.Env) (fp : List Addr) (ws : List Nat) (σ : L2.St) (tn : Nat → Heap → Prop) (W : Nat → Nat → Hp → Prop) (n : Nat) (t : Shared) : Prop where
  ex : ∃ (i : Nat) (G : Hp), Inv (X.blk sB HB sc ce fp) [] (wipe σ ws) G t ∧ tn i t.heap ∧ (∀ b ∈ fp, G b = none) ∧ W i n G
section
variable {X : Cx}
theorem lc_pass {pins : List (Addr × Obj)} {s : Shared} {σ : L2.St} {H : Hp} {Q : VK} {elt tg iter : Expr} {scope : Scope} {own : List (Str × Nat)} {pos : Pos} {wi : TI} {g : TG} {te : TE} (calm : X.calm = true) (nd : X.N.Nodup) (I : Inv X pins σ H s)
    (hi : PI X tg iter wi) (bk : BlkOk X.N X.env.scope scope own) (hg : ∀ (sB : Shared) (HB : Hp) (C : Addr) (cl : List (Str × Addr)) (fp : List Addr), PG (X.blk sB HB scope (compEnvC scope cl C X.env) fp) tg g)
    (he : ∀ (sB : Shared) (HB : Hp) (C : Addr) (cl : List (Str × Addr)) (fp : List Addr), Inv X pins σ HB sB → (∀ b ∈ fp, FpOk X pins HB b) → PE (X.blk sB HB scope (compEnvC scope cl C X.env) fp) elt te) (h : tLc wi g tYes te (own.map (·.2)) σ H Q)
    (hs : ∀ z, foldedSetIterable iter X.env z = pure z := by intro _; rfl) : wpAny (model X.prog X.w) X.A (eval (.ListComp elt [⟨tg, iter, [], 0⟩] scope pos) X.env) (EP X pins σ Q) X.xe s := by
  have caught : ∀ y ∈ scope.names, y.2 = .free → ∃ c, X.env.cells.lookup y.1 = some c := fun y m z => (bk.free y m z).elim (fun q => I.ok.has _ (.inl q)) fun q => I.ok.has _ (.inr q)
  rw [eval_ListComp]
  apply wpAny_comprehension_free (use := none) rfl hs (closure_ok caught) bk.kind (fun y m z => (bk.uniq y m).trans (congrArg some z))
  refine thn (hi.run pins s σ H _ I h) fun src sa ha => thn ha fun itv sb hb => ?_
  obtain ⟨it, fp, tn, J, Hb, rfl, Ib, T, on, off, q⟩ := hb
  refine wpAny_newObj_type (newEnv_comp ?_) (show (0 : Nat) ≤ sizeLine from Nat.zero_le _)
  obtain ⟨L, eL⟩ : ∃ L, L = sb.heap.objs.size := ⟨_, rfl⟩
  have freeL : Hb L = none := Ib.hok.fresh (Nat.le_of_eq eL.symm)
  obtain ⟨W, ⟨m0, w0⟩, turn⟩ := q L freeL
  obtain ⟨sc, esc⟩ : ∃ sc : Shared, sc = { sb with heap := sb.heap.push { cls := .type "list", data := .seq ([] : List Value).toArray } } := ⟨_, rfl⟩
  have esz : ∀ b ∈ fp, b < L := fun b m => by
    obtain ⟨o, e, _⟩ := T.obj _ _ on b m
    exact eL ▸ Heap.lt_size e
  have push : ∀ b o, sb.heap.get? b = some o → sc.heap.get? b = some o := fun b o e => by
    rw [esc]
    exact Heap.get?_push_of_some _ e
  have Ic : Inv X pins σ (upd Hb L (.lst [])) sc := by
    rw [esc]
    refine Ib.laid (t' := sb.toks) (fun b o e => Heap.get?_push_of_some _ e) (Nat.le_of_eq eL.symm) ⟨Nat.zero_le _, [], 0, .nil, ?_⟩
    rw [eL]
    exact Heap.get?_push_size _ rfl
  have gap : ∀ b ∈ fp, FpOk X pins (upd Hb L (.lst [])) b := fun b m => ⟨by rw [upd_ne (Nat.ne_of_lt (esz b m))]; exact (off b m).1, (off b m).2⟩
  have big : ∀ b ∈ fp, b < sc.heap.objs.size := fun b m => by
    rw [esc]
    show b < (sb.heap.push _).objs.size
    rw [Heap.size_push, ← eL]
    exact Nat.lt_succ_of_lt (esz b m)
  have Id := block_start Ic bk nd fun b m => ⟨gap b m, big b m⟩
  have doG := hg sc (upd Hb L (.lst [])) sc.heap.objs.size (cellsFrom (sc.heap.objs.size + 1) scope.names (cloFrom X.env.cells scope.names [])) fp
  have doE := he sc (upd Hb L (.lst [])) sc.heap.objs.size (cellsFrom (sc.heap.objs.size + 1) scope.names (cloFrom X.env.cells scope.names [])) fp Ic gap
  rw [eL] at *
  rw [← esc]
  show codeAny _ _ (.compStart _ 0 (.ref it) (.ref sb.heap.objs.size) (compEnvC scope (cellsFrom (sc.heap.objs.size + 1) scope.names (cloFrom X.env.cells scope.names [])) sc.heap.objs.size X.env)) (compPost (model X.prog X.w) X.A X.xe none _ (.ref sb.heap.objs.size) sc.heap.objs.size) { sc with heap := pushCells (sc.heap.push { cls := .type "dict", data := .dict #[] }) scope.names }
  have clear : ∀ b ∈ fp, (upd Hb sb.heap.objs.size (.lst [])) b = none := fun b m => (gap b m).1
  obtain ⟨ce, ece⟩ : ∃ ce, ce = compEnvC scope (cellsFrom (sc.heap.objs.size + 1) scope.names (cloFrom X.env.cells scope.names [])) sc.heap.objs.size X.env := ⟨_, rfl⟩
  rw [← ece] at Id doG doE ⊢
  have atC : ce.locals = sc.heap.objs.size := by rw [ece] <;> rfl
  obtain ⟨Hc, eHc⟩ : ∃ Hc, Hc = upd Hb sb.heap.objs.size (.lst []) := ⟨_, rfl⟩
  rw [← eHc] at Ic gap Id doG doE w0 clear
  obtain ⟨sd, esd⟩ : ∃ sd : Shared, sd = { sc with heap := pushCells (sc.heap.push { cls := .type "dict", data := .dict #[] }) scope.names } := ⟨_, rfl⟩
  rw [← esd] at Id ⊢
  have on2 : tn 0 sd.heap := T.keep _ _ _ on fun b _ o e => by
    rw [esd]
    exact pushCells_keeps _ _ _ _ (Heap.get?_push_of_some _ (push b o e))
  have inB : ∀ {τ : L2.St} {G : Hp} {t : Shared}, Inv (X.blk sc Hc scope ce fp) [] τ G t → (∀ b ∈ fp, G b = none) → ∀ b ∈ fp, FpOk (X.blk sc Hc scope ce fp) [] G b := fun {τ G t} J z b m =>
    ⟨z b m, (J.ok.exf b m).1, J.ok.exfs b m, .inl m, fun x c e => (J.ok.exf b m).2 x c e, fun p w => by cases w⟩
  have all : codeAny (model X.prog X.w) X.A (.compLoop (.ListComp elt [⟨tg, iter, [], 0⟩] scope pos) 0 (.ref it) (.ref sb.heap.objs.size) ce) (compPost (model X.prog X.w) X.A X.xe none (EP X pins σ Q) (.ref sb.heap.objs.size) sc.heap.objs.size) sd := by
    refine compLoop_any (Mid X sc Hc scope ce fp (own.map (·.2)) σ tn W) (fun n t ⟨i, G, J1, onI, zI, wI⟩ => ?_) m0 ⟨0, Hc, Id, on2, clear, w0⟩
    rcases turn i n G wI with ⟨stop, fin⟩ | ⟨go, Nx, back, each⟩
    · -- the end: in the def's context again
      refine thnF (T.done (X.blk sc Hc scope ce fp) rfl rfl rfl calm i [] t _ G (fun _ _ => False) J1 (inB J1 zI) onI stop) fun r u ⟨er, J2⟩ => ?_
      subst er
      have J3 : Inv X pins σ G u := Ic.call' (ch := fp) J2.os J2.base J2.hok J2.bare fun b m => by
        obtain ⟨_, x1, _, x3, x4, x5⟩ := gap b m
        exact ⟨x3, x1, x4, x5⟩
      have noC : G sc.heap.objs.size = none := atC ▸ (show G ce.locals = none from J2.free)
      obtain ⟨mp, ns, _⟩ := J2.loc
      obtain ⟨f0, f1, f2, f3, f4, f5⟩ := Ic.fpOk (H' := G) (Nat.le_refl _) noC
      exact ⟨mp, atC ▸ ns, fun hh same => ⟨.ref sb.heap.objs.size, G, J3.turned (t' := u.toks) (fun b o z e => (same.2 b z).trans e) f0 f1 f3 f4 f5, rfl, fin⟩⟩
    · refine thnF (T.item (X.blk sc Hc scope ce fp) rfl rfl rfl calm i [] t _ G (fun _ _ => False) J1 (inB J1 zI) onI go) fun r t1 ⟨u, er, more⟩ => ?_
      subst er
      refine thnF more fun _ t2 ⟨x, G2, J2, rel, yld, on3, z2⟩ => ?_
      refine thnF (doG.run _ t2 _ G2 x u _ (J2.pinned (inB J2 z2) (T.obj _ _ on3)) rel (each x G2 yld)) fun _ t3 ⟨τ, G3, J3, same, q3⟩ => ?_
      refine wpAny_tests_nil ?_
      have q3 : te τ G3 _ := q3
      show wpAny _ _ (eval elt ce) _ _ _
      refine thnF (doE.run _ t3 τ G3 _ J3 q3) fun z t4 ⟨v, G4, J4, rv, acc, at4, few, nx⟩ => ?_
      refine app_ok (X := X.blk sc Hc scope ce fp) J4 at4 few rv fun t5 J5 => ?_
      obtain ⟨m', lt, w'⟩ := back _ nx
      have held : ∀ b ∈ fp, ∀ o, t2.heap.get? b = some o → t5.heap.get? b = some o ∧ upd G4 sb.heap.objs.size (.lst (acc ++ [v])) b = none := fun b m o e => by
        have k := J5.pin (b, o) (List.mem_append_right _ (List.mem_append_right _ (mem_pinsAt m e)))
        exact ⟨k.1, k.2.1⟩
      have len : (wipe σ (own.map (·.2))).length = τ.length := by rw [← same, wipe_length]
      refine ⟨m', lt, i + 1, _, (J5.unpinned (pins := [])).weak len fun j y e => ?_, T.keep _ _ _ on3 fun b m o e => (held b m o e).1, fun b m => ?_, w'⟩
      · rw [← same] at e
        exact (wipe_some e).1
      · obtain ⟨o, e, _⟩ := T.obj _ _ on3 b m
        exact (held b m o e).2
  exact codeAny_compStart_list all (T.self X.A 0 _ _ _ on2 all)
end
end R
namespace R
open PySem PySem.Spec PyProof.Rows L2
def cloO (X : Cx) (params : Arguments) (body : Expr) (scope : Scope) (c f : Addr) : HO := .ext fun h => ∃ pm ct, h.get? f = some (PySem.W.kla_obj "<lambda>" (lamQ X) params body scope (cloFrom X.env.cells scope.names []) pm c ct)
def codO (X : Cx) (c : Addr) : HO := LamX.CodeO c (lamQ X)
theorem cloO_ok {P : Program} {w : World} {H : Hp} {h : Heap} {X : Cx} {params : Arguments} {body : Expr} {scope : Scope} {c f : Addr} {pm ct : Value} (e : h.get? f = some (PySem.W.kla_obj "<lambda>" (lamQ X) params body scope (cloFrom X.env.cells scope.names []) pm c ct)) : ObjOk P w H h f (cloO X params body scope c f) :=
  ⟨⟨pm, ct, e⟩, ⟨_, e⟩, fun _ _ ⟨p2, c2, e2⟩ st => ⟨p2, c2, st _ e2⟩⟩
theorem put_new {K : PySem.W.Frag} {W : Wd} {H : Hp} {fp xf : List Addr} {p : Addr} {o : HO} (S : Sat K W H fp xf) (n : H p = none) : ∃ W', Stp W H [] W' (upd H p o) ∧ Sat K W' (upd H p o) fp xf ∧ W'.G p = some o ∧ W.Le W' := by
  have fr := S.free n
  have F : Frz K W (upd H p o) [p] (W.put p o) := Frz.put ⟨fun _ _ => ⟨rfl, rfl⟩, fun _ m => (by cases m), fun _ m => (by cases m)⟩ upd_same fr.2 (by simp)
  have hnf : ∀ a ∈ [p], W.G a = none ∧ W.S a = none ∧ upd H p o a ≠ none := fun a m => by
    rw [List.mem_singleton.mp m]
    exact ⟨fr.1, fr.2, by rw [upd_same]; exact fun z => nomatch z⟩
  refine ⟨W.put p o, (Stp.new n).trans F.stp fun a m => .inr (by rw [List.mem_singleton.mp m]; exact n), F.sat (S.new n) hnf fun a m => ?_, upd_same, F.le fun a m => ⟨(hnf a m).1, (hnf a m).2.1⟩⟩
  rw [List.mem_singleton.mp m]
  exact ⟨fun q => (S.off p q).2.2 n, fun q => (S.xof p q).2.2 n⟩
def mLamO (o : Nat → Nat → HO) (p : Nat → HO) : DE := fun _ Q => Q (.fz (.obj o p))
section
variable {X : Cx} {pins : List (Addr × Obj)} {σ : L2.St} {H HZ : Hp} {s s1 : Shared}
theorem lam_kept {c P : Addr} {ps : Array Value} {params : Arguments} {body : Expr} {scope : Scope} {pos : Pos} {Q E : Value → Shared → Prop} (I : Inv X pins σ H s) (tb : LamX.TabB X.base X.mg c P) (ec : X.env.code = .ref c) (eP : H P = some (.tbl ps)) (tr : TriplesOk ps.toList)
    (am : ∀ (p : Pos) (v : Value), codeAmong p ps.toList = some v → ∃ c, v = .ref c ∧ H c = some (LamX.CodeO c (lamQ X))) (df : defaultsOf params X.env = ([], [])) (fr : ∀ y ∈ scope.names, y.2 = .free → ∃ c, X.env.cells.lookup y.1 = some c)
    (k : ∀ (f c1 : Addr) (H1 : Hp) (s' : Shared), Inv X pins σ (upd H1 f (cloO X params body scope c1 f)) s' → Made1 H H1 P ps c1 (lamQ X) → H1 c1 = some (LamX.CodeO c1 (lamQ X)) → H1 f = none → Q (.ref f) s') :
    wpAny (model X.prog X.w) X.A (eval (.Lambda params body scope pos) X.env) Q E s := by
  have b1 := tb.bm.keeps I.bk
  have g1 : s.heap.get? P = some (PySem.W.tabObj ps) := I.hok P _ eP
  apply PySem.W.kla_eval df
  match hc : codeAmong pos ps.toList with
  | some v =>
    obtain ⟨c1, rfl, hq⟩ := am pos v hc
    exact PySem.W.kla_makeFunctionHit (P := P) (closure_ok fr) I.ok.glob (I.mod.glob.keeps I.bk) ec (tb.code.keeps I.bk) g1 tr hc b1 fun ct h2 tk x z =>
      k _ c1 H _ (I.laid (t' := tk) (fun b o e => Heap.get?_push_of_some _ (x b o e)) z (cloO_ok (Heap.get?_push_size h2 rfl))) (.inl ⟨rfl, pos, hc⟩) hq (I.hok.fresh z)
  | none =>
    refine PySem.W.kla_makeFunction (P := P) (closure_ok fr) I.ok.glob (I.mod.glob.keeps I.bk) ec (tb.code.keeps I.bk) g1 tr hc tb.gP b1 fun c1 ct h2 tk x z1 z2 cr ht => ?_
    obtain ⟨_, oc, vs, t, ec1, r1, r2, r3⟩ := cr
    cases ec1
    have n1 : H c1 = none := I.hok.fresh z1
    have I1 := LamX.inv_table (c := c1) (q := lamQ X) (t' := tk) I eP (fun b o hb e => x b o hb e) ht z1 ⟨oc, vs, t, r1, r2, r3⟩
    refine k h2.objs.size c1 _ _ (I1.laid (t' := tk) (fun b o e => Heap.get?_push_of_some _ e) (Nat.le_refl _) (cloO_ok (Heap.get?_push_size h2 rfl))) (.inr ⟨pos, n1, rfl⟩) upd_same ?_
    have z3 : s.heap.objs.size ≤ h2.objs.size := Nat.le_of_lt (Nat.lt_of_le_of_lt z1 z2)
    rw [upd_ne (Nat.ne_of_gt z2), upd_ne (Nat.ne_of_gt (Nat.lt_of_lt_of_le (Heap.lt_size g1) z3))]
    exact I.hok.fresh z3
theorem dp_lamO {c P : Addr} {params : Arguments} {body : Expr} {scope : Scope} {pos : Pos} (TB : LamX.TabB X.base X.mg c P) (ec : X.env.code = .ref c) (hT : (lamTab X.K).lookup P = some (lamQ X)) (L : LamX.LamS X.env.scope scope) (df : defaultsOf params X.env = ([], [])) :
    PE X (.Lambda params body scope pos) (LP X.K (mLamO (cloO X params body scope) (codO X))) := by
  refine ⟨fun pins s σ H Q I ⟨W, env, fp, xf, Q0, En, S, hm, kk⟩ => ?_⟩
  obtain ⟨sP, cs, eP, tr, am⟩ := tab_of S hT
  refine lam_kept I TB ec eP tr am df (L.has I.ok) fun f c1 H1 s' I1 md e1 n1 => ?_
  obtain ⟨W1, t1, S1, g1⟩ := made_satG S sP eP md
  obtain ⟨W2, t2, S2, g2, l2⟩ := put_new (o := cloO X params body scope c1 f) S1 n1
  have gc : W2.G c1 = some (LamX.CodeO c1 (lamQ X)) := l2.g _ _ g1
  exact ⟨V.ref f, _, I1, rfl, kk _ hm _ W2 _ (t1.tr0 t2) S2 (.obj g2 gc)⟩
theorem pe_actY {CXg : CXT} {Eg : XK} {Ng : List Str} {qg : Str} {sg : Scope} {g f c1 : Addr} {cdg : Value} {params : Arguments} {body : Expr} {scope : Scope} {k i : Nat} {a : Str} {pn : List (Addr × Obj)} {xe : Value → Shared → Prop} {W : WX} {tb : XK → TE} {p1 p2 : Pos}
    (I : Inv X pins σ H s) (L : LamX.LamS X.env.scope scope)
    (b0 : ∀ (pm ct : Value), bindArgs (PySem.W.kla_fn "<lambda>" (lamQ X) params body scope (cloFrom X.env.cells scope.names []) pm (.ref c1) ct) ⟨[], []⟩ = pure [])
    (tk : Takes ((cxOf CXg X.prog X.w X.K X.mg X.base Ng qg sg g cdg X.A X.stack s H Eg).tr pn xe) W) (hr : Room (k + 1) (X.A.deeper (envOfC qg sg s.heap.objs.size g cdg)))
    (hbody : ∀ (A : Around) (outer : List PySem.Env) (s : Shared) (H : Hp) (E : XK), Room k (A.deeper (LamX.lamEnv X scope s.heap.objs.size f c1)) → PE (LamX.lamCx X A outer s H E scope f c1) body (tb E))
    (hN : Ng[i]? = some a) (hv : Vis sg a) (hd : (a == ("__debug__" : Str)) = false := by decide) (hcd : (a == ("__classdict__" : Str)) = false := by decide) :
    PE ((cxOf CXg X.prog X.w X.K X.mg X.base Ng qg sg g cdg X.A X.stack s H Eg).tr pn xe) (.Call (.Name a p1) [] [] p2)
      (fun σZ HZ Q => σZ[i]? = some (some (.ref f)) ∧ HZ f = some (cloO X params body scope c1 f) ∧ HZ c1 = some (LamX.CodeO c1 (lamQ X)) ∧ ∃ E : XK, (∀ cls d H', E cls d H' → W cls d σZ H') ∧ tb E σ HZ Q) := by
  refine ⟨fun pinsZ sZ σZ HZ Q IZ ⟨hs, hf, hc, E, hE, ht⟩ => wpAny_Call_Name_kw (thn ((pe_var (pos := p1) (i := i) hN hv hd hcd).run pinsZ sZ σZ HZ (fun v H1 => v = .ref f ∧ H1 = HZ) IZ ⟨.ref f, hs, rfl, rfl⟩) fun u s1 ⟨v, H1, I1, r1, e1, e2⟩ => ?_)⟩
  subst e1
  subst e2
  cases r1
  obtain ⟨⟨pm, ct, of1⟩, _, _⟩ := I1.hok f _ hf
  refine PySem.W.callWith_F0 ⟨_, _, _, _, of1⟩ ?_
  obtain ⟨⟨oc, vs, t, c2, c3, c4⟩, _, _⟩ := I1.hok c1 _ hc
  refine wpAny_call (codeAny_mono (R := CR (L2.CX X.prog X.w) (envOfC qg sg s.heap.objs.size g cdg :: X.stack) X.prog X.w H1 s1 Q E) (PySem.W.kla_callFunE hr.depth of1 rfl L.co L.gen rfl ⟨c1, oc, vs, t, rfl, c2, c3, c4⟩ ?_) fun r s' hq => ?_)
  · rw [show bindArgs (PySem.W.kla_fn "<lambda>" (lamQ X) params body scope (cloFrom X.env.cells scope.names []) pm (.ref c1) ct) ⟨([] : List Value) ++ [], []⟩ = pure [] from b0 pm ct]
    refine wpAny_pure (wpAny_newFunctionEnv (fun y m => (L.own y m).2) (fun y m => absurd m (by simp)) (fun h2 n2 x2 => ⟨I1.nolimit.fresh _ x2, PySem.W.kla_codeExpr (wpAny_mono ((hbody _ _ s1 H1 E (hr.deeper _)).run [] _ σ H1 Q
      (LamX.lam_start2 I L I1.env0 hr.hd I1.base n2 fun b o e => x2.extBut b o (Nat.ne_of_lt (Heap.lt_size e)) (Heap.get?_push_of_some _ e)) ht) (fun v s' ⟨w', H', J, rv, q⟩ => ?_) fun e s' z => z)⟩) L.kind)
    exact ⟨w', H', J.os, J.bare, J.base, J.hok, rv, q⟩
  · match r, hq with
    | .error e, hq => exact tk e s' (XE.of_call I1 (fun cls d H' z => hE cls d H' z) hq)
    | .ok (.ret u), hq => exact I1.after hq
    | .ok .next, hq => exact hq.elim
    | .ok .brk, hq => exact hq.elim
    | .ok .cont, hq => exact hq.elim
def mOutV (wd : Option Nat → D) (ks : List Nat) (j n : Nat) (os : Nat → Nat → Nat → HO) (cp : Nat → HO) (ms : Nat → DE) : DE := fun env Q => ∃ i, i < n ∧ env[j]? = some (some (.fz (.obj (os i) cp))) ∧ ms i (env.set j none) fun r => r.exq (fun k => k ∈ ks ∧ Q (.fz (wd (some k)))) (Q (.fz (wd none)))
theorem pe_outV {x y : Str} {ad : Nat → Addr} {wd : Option Nat → D} {ks : List Nat} {k jr j n : Nat} {par : Nat → Arguments} {bod : Nat → Expr} {sco : Nat → Scope} {ms : Nat → DE} {p p2 pos : Pos} {sB : Shared} {HB : Hp} {scB : Scope} {cl : List (Str × Addr)} {C : Addr} {fpB : List Addr} (T : OutC X.prog X.w X.K X.mg X.base ad x wd ks)
    (I0 : Inv X pins σ HB sB) (off : ∀ b ∈ fpB, FpOk X pins HB b) (hr : Room jr X.A) (hj : k + 2 ≤ jr) (L : ∀ i, i < n → LamX.LamS X.env.scope (sco i)) (b0 : ∀ i, i < n → ∀ (q : Str) (cl : List (Str × Addr)) (pm cv ctv : Value), bindArgs (PySem.W.kla_fn "<lambda>" q (par i) (bod i) (sco i) cl pm cv ctv) ⟨[], []⟩ = pure [])
    (hbody : ∀ i, i < n → ∀ (A : Around) (outer : List PySem.Env) (s : Shared) (H : Hp) (E : XK) (f c1 : Addr), Room k (A.deeper (LamX.lamEnv X (sco i) s.heap.objs.size f c1)) → PE (LamX.lamCx X A outer s H E (sco i) f c1) (bod i) (LPX X.K (exK ad E) (ms i)))
    (hg : Gl (X.blk sB HB scB (compEnvC scB cl C X.env) fpB) x) (hN : X.N[j]? = some y) (hv : Vis (compEnvC scB cl C X.env).scope y) (hdb : (x == ("__debug__" : Str)) = false := by decide) (hd : (y == ("__debug__" : Str)) = false := by decide) (hcd : (y == ("__classdict__" : Str)) = false := by decide) :
    PE (X.blk sB HB scB (compEnvC scB cl C X.env) fpB) (.Call (.Name x p) [.Name y p2] [] pos) (fun τ H Q => wipe τ [j] = wipe σ [j] ∧ LP X.K (mOutV wd ks j n (fun i => cloO X (par i) (bod i) (sco i)) (codO X) ms) τ H Q) := by
  refine ⟨fun pins1 s τ H Q I ⟨hw, W, env, fp, xf, Q0, En, S, ⟨i, hi, ei, hm⟩, kk⟩ => ?_⟩
  obtain ⟨g, CS, fd, a, nE, e, ret, pg, b1, suite, sg, N, ix, mS, jj, q1, q2, q3, q4, q5, q6, q7, q8, D⟩ := T.ex
  obtain ⟨oc, od, dV, kV, doc, pm0, an, cdv, ct, osl, efd, lk, hco, _, _⟩ := D.fn.ex
  obtain ⟨v, ev, _, o⟩ := En.get ei S
  have o := o _ rfl
  generalize hO : (fun i => cloO X (par i) (bod i) (sco i)) i = O1 at o
  cases o with
  | @obj f c1 _ _ gF gC =>
  subst hO
  refine wpAny_Call_Name_kw (ld_glob I hg D.gm (PySem.W.callWith_K (h₀ := X.base) I.ok.mod.kin D.fn.kp (thn ((show PA (X.blk sB HB scB (compEnvC scB cl C X.env) fpB) [.Name y p2] (tCons (tVar j) tNil) from pa_cons (pe_var (pos := p2) (i := j) hN hv hd hcd) pa_nil).run pos pins1 s τ H (fun vs H1 => vs = [V.ref f] ∧ H1 = H) I ⟨.ref f, ev, rfl, rfl⟩) fun us s1 ⟨vs, H1, I1, r1, evs, eH⟩ => ⟨I1.kIn, ?_⟩) (by rfl) (by rfl)) hdb)
  subst evs eH
  cases r1 with
  | cons ra rb =>
  cases rb
  cases ra
  have Jo : Inv X pins (wipe σ [j]) H1 s1 := (I0.call' (ch := fpB) I1.os I1.base I1.hok I1.bare fun b m => by
    obtain ⟨_, x1, _, x3, x4, x5⟩ := off b m
    exact ⟨x3, x1, x4, x5⟩).weak (wipe_length _ _) fun i v e => (wipe_some e).1
  obtain ⟨f2, fp', xf', E2, pm, zx, _⟩ := En.clear j none
  have e2 : τ.set j none = wipe σ [j] := hw
  rw [e2] at E2
  have nd := (pm.nodup_iff).mp S.nd
  have S1 : Sat X.K W H1 fp' xf' := ⟨S.sub, S.vol, (List.nodup_append.mp nd).2.1, fun a m => S.off a (pm.mem_iff.mpr (List.mem_append_right _ m)), fun a m => by
    obtain ⟨h1, h2⟩ := S.xof a (zx a m)
    exact ⟨fun z => h1 (pm.mem_iff.mpr (List.mem_append_right _ z)), h2⟩⟩
  have hF : H1 f = some (cloO X (par i) (bod i) (sco i) c1 f) := S.sub _ _ gF
  have hC : H1 c1 = some (LamX.CodeO c1 (lamQ X)) := S.sub _ _ gC
  have back : ∀ {W3 H3}, Stp W H1 [] W3 H3 → Sat X.K W3 H3 fp' xf' → Sat X.K W3 H3 fp xf := fun t3 S3 => S.back t3 (S3.sublist (List.nil_sublist _) fun _ m => m)
  have rc : codeAny (model X.prog X.w) X.A (.call (.ref g) ⟨[.ref f], []⟩) (CR CX0 X.stack X.prog X.w H1 s1 Q fun _ _ _ => False) s1 := by
    subst efd
    refine LamX.run_ofS (N := N) (ps := [a]) (us := [.ref f]) (vs := [.ref f]) lk hco D.sc (hr.mono (show (k + 1) + 1 ≤ jr from hj)).toRoom Jo.env0 (D.bd s1 [.ref f] I1.kIn rfl) (.cons rfl .nil) rfl fun _ => ?_
    have hr2 : Room (k + 1) (X.A.deeper (envOfC x sg s1.heap.objs.size g cdv)) := (hr.mono (show (k + 1) + 1 ≤ jr from hj)).deeper _
    refine ⟨_, (pss_cons (ps_try_as (X := (cxOf CX0 X.prog X.w X.K X.mg X.base N x sg g cdv X.A X.stack s1 H1 fun _ _ _ => False).nox) (c := .ref CS) (i := ix)
      (tb := fun W2 D' σ' H' => σ'[0]? = some (some (.ref f)) ∧ H' f = some (cloO X (par i) (bod i) (sco i) c1 f) ∧ H' c1 = some (LamX.CodeO c1 (lamQ X)) ∧ ∃ E : XK, (∀ cls d H2, E cls d H2 → W2 cls d σ' H2) ∧ LPX X.K (exK ad E) (ms i) (wipe σ [j]) H' fun _ H2 => D'.nx σ' H2)
      (ts := fun r cls d D' σ' H' => ∃ k ∈ ks, ∃ dd, cls = .ref (ad k) ∧ d = dOf k dd ∧ LS X.K exT [] (mS k r dd) D' σ' H') (Wout := fun _ _ _ _ => False)
      rfl rfl D.sc.nd D.hi D.ln ⟨D.ge, D.de, .inl D.me⟩ LamX.takes0 (fun W2 pn xe tk _ => ?_) (fun r oe cls d pn hz hf => ?_)) (pss_one (ps_ret pe_str))).nox, ?_⟩
    · have h := pe_actY (CXg := CX0) (Eg := fun _ _ _ => False) (p1 := q1) (p2 := q2) (i := 0) (tb := fun E => LPX X.K (exK ad E) (ms i)) Jo (L i hi) (fun pm ct => b0 i hi _ _ pm _ ct) tk hr2 (fun A outer s H E h => hbody i hi A outer s H E f c1 h) D.h0 D.va D.a1 D.a2
      exact pss_one (ps_imp (ps_expr h) fun D' σ' H' w => w)
    · exact ⟨fun pins2 s2 σ2 H2 D2 I2 ⟨k2, m2, dd, e1, e2, h2⟩ => by
        subst e1 e2
        exact (D.su k2 m2 cdv X.A X.stack s1 H1 r dd oe pn hz hf (hr2.mono (Nat.zero_le _))).run pins2 s2 σ2 H2 D2 I2 h2⟩
    · refine ⟨rfl, hF, hC, fun cls d H2 => ∃ k ∈ ks, ∃ dd, cls = .ref (ad k) ∧ d = dOf k dd ∧ (∀ p, fldOf k = some p → H2 dd = some (.xd [(p.1, .str p.2)])) ∧ ∃ W2, Stp W H1 [] W2 H2 ∧ Sat X.K W2 H2 fp' xf' ∧ Q0 (.fz (wd (some k))), ?_, W, env.set j none, fp', xf', _, E2, S1, hm, fun r hr v W2 H2 t2 S2 o => ?_, fun k hk W2 H2 t2 S2 => ?_⟩
      · rintro cls d H2 ⟨k, mk, dd, rfl, rfl, hx, W2, t2, S2, hq⟩
        refine ⟨true, D.exm k mk, fun _ r nr => ⟨k, mk, dd, rfl, rfl, ?_⟩, fun z => nomatch z⟩
        obtain ⟨xf1, E0, z0⟩ := start_env (K := X.K) (W := W2) (H := H2) (N := N) (n := 1) (vs := [.ref f]) (ss := [some (.fz (.adr f))]) (.fz (.adr f) .nil) rfl
        have S20 : Sat X.K W2 H2 [] xf1 := S2.lend.less0 fun a m => absurd (z0 a m) (by simp)
        obtain ⟨fp3, xf3, E3, S3, z3⟩ := E0.put (i := ix) (f := []) (fr := []) (v := .ref r) (r := excR k r dd) S20 (excR_ok hx S20)
        have e3 : fp3 = [] := List.eq_nil_iff_forall_not_mem.mpr fun a m => by rcases z3 a m with q | q <;> cases q
        subst e3
        refine ⟨W2, _, [], xf3, _, E3, S3, D.rd k mk f r dd, fun _ q => q.elim, fun _ q => q.elim, fun _ q => q.elim, ⟨fun z e hz v σ3 W3 H3 fp4 xf4 Pt o => ?_, fun _ _ _ _ _ _ _ _ _ => trivial⟩⟩
        subst hz
        exact kk _ hq v W3 H3 (t2.tr0 Pt.t) (back (t2.tr0 Pt.t) (S2.back Pt.t (Pt.S.sublist (List.nil_sublist _) fun _ m => m))) o
      · exact kk _ (exq_ok hr o) (.str ret) W2 H2 t2 (back t2 S2) (by rw [D.wn]; exact .str ret)
      · exact exK_mk (fun hf => ⟨k, hk.1, 0, rfl, (dOf_no hf).symm, (fun p e => by rw [hf] at e; cases e), W2, t2, S2, hk.2⟩) fun p dd hf hd => ⟨k, hk.1, dd, rfl, (dOf_fld hf).symm, (fun q e => by rw [hf] at e; cases e; exact hd), W2, t2, S2, hk.2⟩
  refine wpAny_call (codeAny_mono rc fun r s2 hq => ?_)
  match r, hq with
  | .error e, hq => exact (show False from hq).elim
  | .ok (.ret u), hq => exact I1.after hq
  | .ok .next, hq => exact (show False from hq).elim
  | .ok .brk, hq => exact (show False from hq).elim
  | .ok .cont, hq => exact (show False from hq).elim
theorem lc_up {K : PySem.W.Frag} {mi : DI} {g : DG} {te : TE} {ws : List Nat} {pr : Nat → Prop} {Q : VK} (h : tLc (LI K mi) (LG K pr g) (LT K mYes) te ws σ H Q) : tLc (LI K mi) (LG K pr g) tYes (fun τ H Q => wipe τ ws = wipe σ ws ∧ te τ H Q) ws σ H Q := by
  obtain ⟨W, env, fp, xf, Q0, En, S, hm, k⟩ := h
  refine ⟨W, env, fp, xf, Q0, En, S, hm, fun st xs q J W1 H1 t1 S1 it D nD => ?_⟩
  obtain ⟨Wm, w0, turn⟩ := k st xs q J W1 H1 t1 S1 it D nD
  refine ⟨Wm, w0, fun i m H' w => (turn i m H' w).imp id fun ⟨go, Nx, hNx, each⟩ => ⟨go, Nx, hNx, fun x H2 y => ?_⟩⟩
  obtain ⟨W2, e2, fp2, xf2, f2, fr2, r2, Q2, a1, a2, a3, a4, a5⟩ := each x H2 y
  refine ⟨W2, e2, fp2, xf2, f2, fr2, r2, Q2, a1, a2, a3, a4, fun e hq σ' fp' xf' b1 b2 b3 b4 => ?_⟩
  obtain ⟨ew, W3, e3, fp3, xf3, Q3, c1, c2, c3, c4⟩ := a5 e hq σ' fp' xf' b1 b2 b3 b4
  have c5 := c4 true c3 W3 _ .refl c2
  dsimp only at c5
  rw [if_pos rfl] at c5
  refine ⟨ew, ?_⟩
  unfold tYes
  dsimp only
  rw [if_pos rfl]
  exact ⟨ew, c5⟩
theorem dp_lcO {x y : Str} {ad : Nat → Addr} {wd : Option Nat → D} {ks : List Nat} {k jr j n : Nat} {par : Nat → Arguments} {bod : Nat → Expr} {sco : Nat → Scope} {ms : Nat → DE} {p p2 p3 pos pos2 : Pos} {iter : Expr} {scope : Scope} {mi : DI} (T : OutC X.prog X.w X.K X.mg X.base ad x wd ks)
    (hc : X.calm = true) (hN : X.N.Nodup) (hi : PI X (.Name y p3) iter (LI X.K mi)) (ok : BlkOk X.N X.env.scope scope [(y, j)])
    (hg : ∀ (s : Shared) (H : Hp) (C : Addr) (cl : List (Str × Addr)) (fp : List Addr), PG (X.blk s H scope (compEnvC scope cl C X.env) fp) (.Name y p3) (LG X.K (fun i => i ∉ [(y, j)].map (·.2)) (gN j))) (hr : Room jr X.A) (hj : k + 2 ≤ jr)
    (L : ∀ i, i < n → LamX.LamS X.env.scope (sco i)) (b0 : ∀ i, i < n → ∀ (q : Str) (cl : List (Str × Addr)) (pm cv ctv : Value), bindArgs (PySem.W.kla_fn "<lambda>" q (par i) (bod i) (sco i) cl pm cv ctv) ⟨[], []⟩ = pure [])
    (hbody : ∀ i, i < n → ∀ (A : Around) (outer : List PySem.Env) (s : Shared) (H : Hp) (E : XK) (f c1 : Addr), Room k (A.deeper (LamX.lamEnv X (sco i) s.heap.objs.size f c1)) → PE (LamX.lamCx X A outer s H E (sco i) f c1) (bod i) (LPX X.K (exK ad E) (ms i)))
    (hj2 : X.N[j]? = some y := by rfl) (hgl : ∀ (s : Shared) (H : Hp) (C : Addr) (cl : List (Str × Addr)) (fp : List Addr), Gl (X.blk s H scope (compEnvC scope cl C X.env) fp) x := by intros; rfl) (hv : ∀ (C : Addr) (cl : List (Str × Addr)), Vis (compEnvC scope cl C X.env).scope y := by intros; exact .inl rfl)
    (hdb : (x == ("__debug__" : Str)) = false := by decide) (hd : (y == ("__debug__" : Str)) = false := by decide) (hcd : (y == ("__classdict__" : Str)) = false := by decide) (hs : ∀ z, foldedSetIterable iter X.env z = pure z := by intro _; rfl) :
    PE X (.ListComp (.Call (.Name x p) [.Name y p2] [] pos2) [⟨.Name y p3, iter, [], 0⟩] scope pos) (LP X.K (mLc mi (gN j) mYes (mOutV wd ks j n (fun i => cloO X (par i) (bod i) (sco i)) (codO X) ms) [j])) :=
  ⟨fun pins s σ H Q I h => lc_pass hc hN I hi ok hg (fun sB HB C cl fp I0 off => pe_outV T I0 off hr hj L b0 hbody (hgl sB HB C cl fp) hj2 (hv C cl) hdb hd hcd) (lc_up (lc_all h)) hs⟩
def nthS (l : List Stmt) (i : Nat) : Stmt := l.getD i (.Pass ⟨0, 0, 0, 0⟩)
def asgE : Stmt → Expr
  | .Assign _ e _ => e
  | _ => .Constant .none 0 ⟨0, 0, 0, 0⟩
def expE : Stmt → Expr
  | .Expr e _ => e
  | _ => .Constant .none 0 ⟨0, 0, 0, 0⟩
def lst0 : Expr → Expr
  | .List (e :: _) .. => e
  | e => e
def arg0 : Expr → Expr
  | .Call _ (e :: _) .. => e
  | e => e
def lamP : Expr → Arguments
  | .Lambda p .. => p
  | _ => ⟨[], [], none, [], [], none, []⟩
def lamB : Expr → Expr
  | .Lambda _ b .. => b
  | e => e
def lamC : Expr → Scope
  | .Lambda _ _ s _ => s
  | _ => { kind := .function, names := [], isGenerator := false, isCoroutine := false }
def nthE (l : List Expr) (i : Nat) : Expr := l.getD i (.Constant .none 0 ⟨0, 0, 0, 0⟩)
def nthM (l : List DE) (i : Nat) : DE := l.getD i fun _ _ => False
def mLams (m : (Nat → Nat → Nat → HO) → (Nat → HO) → DS) : DS := fun env D => ∀ os cp, m os cp env D
theorem dss_lams {ls : List Expr} {ss : List Stmt} {ex : Nat → Hp → Prop} {pr : List Nat} {m : (Nat → Nat → Nat → HO) → (Nat → HO) → DS} (h : PSs X ss (LS X.K ex pr (m (fun i => cloO X (lamP (nthE ls i)) (lamB (nthE ls i)) (lamC (nthE ls i))) (codO X)))) : PSs X ss (LS X.K ex pr (mLams m)) :=
  pss_imp h fun D σ H ⟨W, env, fp, xf, K0, En, S, hm, r⟩ => ⟨W, env, fp, xf, K0, En, S, hm _ _, r⟩
end
end R
namespace R
open PySem PySem.Spec PyProof.Rows L2
section
variable {X : Cx} {a : Expr} {ma : DE} {pos : Pos}
end
end R
namespace R
open PySem PySem.Spec PyProof.Rows L2
mutual
inductive Dq (H : Hp) : V → PyData → Prop
  | non : Dq H .non .none
  | bl (b : Bool) : Dq H (.bl b) (.bool b)
  | int (i : Int) : Dq H (.int i) (.int i)
  | str (x : Str) : Dq H (.str x) (.str x)
  | lst {a : Addr} {xs : List V} {ds : List PyData} : H a = some (.lst xs) → DqAll H xs ds → Dq H (.ref a) (.list ds)
  | tup {a : Addr} {xs : List V} {ds : List PyData} : H a = some (.tup xs) → DqAll H xs ds → Dq H (.ref a) (.tuple ds)
  | dct {a : Addr} : H a = some (.dK []) → Dq H (.ref a) (.dict [])
inductive DqAll (H : Hp) : List V → List PyData → Prop
  | nil : DqAll H [] []
  | cons {v : V} {vs : List V} {d : PyData} {ds : List PyData} : Dq H v d → DqAll H vs ds → DqAll H (v :: vs) (d :: ds)
end
def D.pq : Nat → D → Option PyData
  | _, .non => some .none
  | _, .bl b => some (.bool b)
  | _, .int i => some (.int i)
  | _, .str x => some (.str x)
  | _, .dct [] [] => some (.dict [])
  | n + 1, .lst ds => (allOf (D.pq n) ds).map .list
  | n + 1, .tup ds => (allOf (D.pq n) ds).map .tuple
  | _, _ => none
theorem rep_dq {K : PySem.W.Frag} {W : Wd} {H : Hp} (sub : ∀ a o, W.G a = some o → H a = some o) : ∀ {n : Nat} {v : V} {d : D} {p : PyData}, Rep K W v d → d.pq n = some p → Dq H v p ∧ p.depth ≤ n + 1 := by
  have key : ∀ (f : D → Option PyData) (n : Nat), (∀ {v : V} {d : D} {p : PyData}, Rep K W v d → f d = some p → Dq H v p ∧ p.depth ≤ n) → ∀ {ds : List D} {vs : List V} {ps : List PyData}, RepAll K W vs ds → allOf f ds = some ps → DqAll H vs ps ∧ PyData.depthAll ps ≤ n := by
    intro f n h ds
    induction ds with
    | nil => intro vs ps r e; cases r; cases e; exact ⟨.nil, by rw [PyData.depthAll]; omega⟩
    | cons d ds ih =>
      intro vs ps r e
      rw [allOf] at e
      cases q : f d with
      | none => rw [q] at e; cases e
      | some p =>
        rw [q] at e
        cases q2 : allOf f ds with
        | none => rw [q2] at e; cases e
        | some qs =>
          rw [q2] at e
          cases e
          cases r with
          | cons a b =>
            obtain ⟨x1, x2⟩ := h a q
            obtain ⟨y1, y2⟩ := ih b q2
            exact ⟨.cons x1 y1, by rw [PyData.depthAll]; omega⟩
  have hdc : ∀ {n : Nat} {a : Addr} {kvs : List (L2.Key × V)} {ds : List D} {p : PyData}, W.G a = some (.dK kvs) → RepAll K W (kvs.map (·.2)) ds → (D.dct (kvs.map (·.1)) ds).pq n = some p → Dq H (.ref a) p ∧ p.depth ≤ n + 1 := by
    intro n a kvs ds p g r e
    cases kvs with
    | nil =>
      cases r
      have e : some (PyData.dict []) = some p := by cases n <;> exact e
      cases e
      exact ⟨.dct (sub _ _ g), by rw [PyData.depth, PyData.depthKv]; omega⟩
    | cons kv kvs => cases n <;> cases e
  intro n
  induction n with
  | zero =>
    intro v d p r e
    cases r with
    | non => cases e; exact ⟨.non, by rw [PyData.depth]; omega⟩
    | bl b => cases e; exact ⟨.bl b, by rw [PyData.depth]; omega⟩
    | int b => cases e; exact ⟨.int b, by rw [PyData.depth]; omega⟩
    | str x => cases e; exact ⟨.str x, by rw [PyData.depth]; omega⟩
    | lst _ _ => cases e
    | tup _ _ => cases e
    | rol _ _ => cases e
    | ins _ _ => cases e
    | vol _ => cases e
    | dct g r => exact hdc g r e
    | any _ => cases e
    | adr _ => cases e
    | cod _ => cases e
    | obj _ _ => cases e
  | succ n ih =>
    intro v d p r e
    cases r with
    | non => cases e; exact ⟨.non, by rw [PyData.depth]; omega⟩
    | bl b => cases e; exact ⟨.bl b, by rw [PyData.depth]; omega⟩
    | int b => cases e; exact ⟨.int b, by rw [PyData.depth]; omega⟩
    | str x => cases e; exact ⟨.str x, by rw [PyData.depth]; omega⟩
    | @lst a xs ds g r =>
      have e : (allOf (D.pq n) ds).map .list = some p := e
      cases q : allOf (D.pq n) ds with
      | none => rw [q] at e; cases e
      | some ps =>
        rw [q] at e; cases e
        obtain ⟨x1, x2⟩ := key _ _ ih r q
        exact ⟨.lst (sub _ _ g) x1, by rw [PyData.depth]; omega⟩
    | @tup a xs ds g r =>
      have e : (allOf (D.pq n) ds).map .tuple = some p := e
      cases q : allOf (D.pq n) ds with
      | none => rw [q] at e; cases e
      | some ps =>
        rw [q] at e; cases e
        obtain ⟨x1, x2⟩ := key _ _ ih r q
        exact ⟨.tup (sub _ _ g) x1, by rw [PyData.depth]; omega⟩
    | rol _ _ => cases e
    | ins _ _ => cases e
    | vol _ => cases e
    | dct g r => exact hdc g r e
    | any _ => cases e
    | adr _ => cases e
    | cod _ => cases e
    | obj _ _ => cases e
section
variable {X : Cx} {pins : List (Addr × Obj)} {σ : L2.St} {H : Hp} {s : Shared}
def RpOk (P : Program) (w : World) (h : Heap) (u : Value) (d : PyData) : Prop := ∃ as bs, Reads h u d as ∧ ReadAtMost h d.depth bs ∧ ReprK P w bs h d.depth u d.shown
def RpAll (P : Program) (w : World) (h : Heap) (us : List Value) (ds : List PyData) : Prop := ∃ as bs, ReadsAll h us ds as ∧ ReadAtMost h (PyData.depthAll ds) bs ∧ ReprAllK P w bs h (PyData.depthAll ds) us (PyData.shownAll ds)
theorem rp_dict (I : Inv X pins σ H s) {a : Addr} (g : H a = some (.dK [])) : ∃ o n, s.heap.get? a = some o ∧ o.cls = .type "dict" ∧ o.data = .dict #[] n ∧ (a == sysModules) = false := by
  obtain ⟨_, lo, vs, rel, o, es, ep, ho, hx, hd, _, hpr, _⟩ := dk_of I.hok g
  cases rel
  have he : es = #[] := by
    have : es.toList = [] := by
      generalize es.toList = l at hpr
      cases hpr
      rfl
    rw [← Array.toArray_toList (xs := es), this]
  subst he
  exact ⟨o, ep, ho, hx.1, hd, lo⟩
mutual
theorem Dq.rp (I : Inv X pins σ H s) : ∀ (d : PyData) (v : V) (u : Value), Dq H v d → RelV v u → d.showable = true → d.shown.length ≤ sizeLine → RpOk X.prog X.w s.heap u d
  | .none, _, _, h, r, _, _ => by
    cases h
    cases r
    exact ⟨_, [], Reads.none, (fun _ h => nomatch h), by simp only [PyData.shown]; exact .of_is ReprIs.none _ _ _⟩
  | .bool b, _, _, h, r, _, _ => by
    cases h
    cases r
    exact ⟨_, [], Reads.bool b, (fun _ h => nomatch h), by simp only [PyData.shown]; exact .of_is (ReprIs.bool b) _ _ _⟩
  | .int i, _, _, h, r, hs, _ => by
    cases h
    obtain ⟨t, rfl⟩ := r
    exact ⟨_, [], Reads.int i t, (fun _ h => nomatch h), by simp only [PyData.shown]; exact .of_is (ReprIs.int t (by simpa [PyData.showable] using hs)) _ _ _⟩
  | .str x, _, _, h, r, _, hz => by
    cases h
    obtain ⟨t, rfl⟩ := r
    exact ⟨_, [], Reads.str x t, (fun _ h => nomatch h), by simp only [PyData.shown]; exact .of_is (ReprIs.str x t (by simpa only [PyData.shown] using hz)) _ _ _⟩
  | .list ds, _, _, h, r, hs, hz => by
    cases h with
    | lst g ha =>
      cases r
      have hz' : (listText (PyData.shownAll ds)).length ≤ sizeLine := by simpa only [PyData.shown] using hz
      obtain ⟨its, rv, ⟨o, n, h1, h2, _, h3⟩, _⟩ := I.list (.of g)
      obtain ⟨as, bs, h4, hb, hk⟩ := Dq.rpAll I ds _ its ha rv (by simpa [PyData.showable] using hs) (fun t ht => Nat.le_trans (listText_mem_le ht) hz')
      have r := Reads.list h1 h2 h3 h4
      have hna := not_mem_of_deeper r (by simp only [PyData.depth]; omega) hb
      refine ⟨_, _, r, ReadAtMost.cons r (by simp only [PyData.depth]; omega) hb, ?_⟩
      simp only [PyData.depth, PyData.shown]
      cases its with
      | nil =>
        cases h4
        simp only [PyData.shownAll, listText_nil]
        exact ReprK.listEmpty h1 h2 h3
      | cons x l => exact ReprK.list h1 h2 h3 hna (by simpa using hk.length_eq) (fun i y e => hk.item i y (by simpa using e))
  | .tuple ds, _, _, h, r, hs, hz => by
    cases h with
    | tup g ha =>
      cases r
      have hz' : (tupleText (PyData.shownAll ds)).length ≤ sizeLine := by simpa only [PyData.shown] using hz
      obtain ⟨its, rv, ⟨o, h1, h2, n, h3⟩, _⟩ := I.tuple (.of g)
      obtain ⟨as, bs, h4, hb, hk⟩ := Dq.rpAll I ds _ its ha rv (by simpa [PyData.showable] using hs) (fun t ht => Nat.le_trans (tupleText_mem_le ht) hz')
      have r := Reads.tuple h1 h2 h3 h4
      have hna := not_mem_of_deeper r (by simp only [PyData.depth]; omega) hb
      refine ⟨_, _, r, ReadAtMost.cons r (by simp only [PyData.depth]; omega) hb, ?_⟩
      simp only [PyData.depth, PyData.shown]
      exact ReprK.tuple h1 h2 h3 hna hk
  | .dict kvs, _, _, h, r, _, _ => by
    cases h with
    | dct g =>
      cases r
      obtain ⟨o, n, h1, h2, h3, lo⟩ := rp_dict I g
      have r := Reads.dict (h := s.heap) (kvs := []) h1 h2 h3 .nil .nil
      refine ⟨_, _, r, ReadAtMost.cons r (Nat.zero_le _) (bs := []) (fun _ h => nomatch h), ?_⟩
      simp only [PyData.depth, PyData.shown, PyData.shownKv]
      exact ReprK.dict h1 h2 h3 lo (fun h => nomatch h) (ReprEntriesK.of_two [] [] [] .nil .nil)
theorem Dq.rpAll (I : Inv X pins σ H s) : ∀ (ds : List PyData) (vs : List V) (us : List Value), DqAll H vs ds → Vals vs us → PyData.showableAll ds = true → (∀ t ∈ PyData.shownAll ds, t.length ≤ sizeLine) → RpAll X.prog X.w s.heap us ds
  | [], _, _, h, r, _, _ => by
    cases h
    cases r
    exact ⟨_, [], ReadsAll.nil, (fun _ h => nomatch h), by simp only [PyData.shownAll]; exact .nil⟩
  | d :: ds, _, _, h, r, hs, hz => by
    cases h with
    | cons h1 h2 =>
      cases r with
      | cons r1 r2 =>
        have hs' : d.showable = true ∧ PyData.showableAll ds = true := by simpa [PyData.showableAll] using hs
        obtain ⟨as, b1, q1, hb1, k1⟩ := Dq.rp I d _ _ h1 r1 hs'.1 (hz _ (by simp only [PyData.shownAll]; exact List.mem_cons_self ..))
        obtain ⟨bs, b2, q2, hb2, k2⟩ := Dq.rpAll I ds _ _ h2 r2 hs'.2 (fun t ht => hz t (by simp only [PyData.shownAll]; exact List.mem_cons_of_mem _ ht))
        refine ⟨_, b1 ++ b2, ReadsAll.cons q1 q2, ?_, ?_⟩
        · intro b hm
          simp only [PyData.depthAll]
          rcases List.mem_append.mp hm with hm | hm
          · obtain ⟨d', as', r', hd'⟩ := hb1 b hm
            exact ⟨d', as', r', Nat.le_trans hd' (Nat.le_max_left _ _)⟩
          · obtain ⟨d', as', r', hd'⟩ := hb2 b hm
            exact ⟨d', as', r', Nat.le_trans hd' (Nat.le_max_right _ _)⟩
        · simp only [PyData.depthAll, PyData.shownAll]
          exact .cons ((k1.more fun b hb => List.mem_append_left _ hb).level_le (Nat.le_max_left _ _)) (k2.more_le (fun b hb => List.mem_append_right _ hb) (Nat.le_max_right _ _))
end
theorem repr_dq {A : Around} {E : Value → Shared → Prop} {Q : Value → Shared → Prop} (I : Inv X pins σ H s) {d : PyData} {v : V} {u : Value} (h : Dq H v d) (r : RelV v u) (hs : d.showable = true) (hz : d.shown.length ≤ sizeLine) (hg : A.guards = some []) (hu : A.units + (d.depth + 1) < cLine)
    (hQ : ∀ h' u tk, (∀ b o, s.heap.get? b = some o → h'.get? b = some o) → Q (.str d.shown u) { s with heap := h', toks := tk }) : wpAny (model X.prog X.w) A (call (.builtin "repr") [u]) Q E s := by
  cases h with
  | non => cases r; exact PySem.P.repr_of_none (hQ s.heap _ _ fun _ _ e => e)
  | bl b => cases r; exact PySem.P.repr_of_bool (hQ s.heap _ _ fun _ _ e => e)
  | int i => obtain ⟨t, rfl⟩ := r; exact PySem.P.repr_of_int (by simpa [PyData.showable] using hs) (hQ s.heap _ _ fun _ _ e => e)
  | str x => obtain ⟨t, rfl⟩ := r; exact PySem.P.repr_of_str (hQ s.heap _ _ fun _ _ e => e) hz
  | @lst a xs ds g ha =>
    cases r
    have hz' : (listText (PyData.shownAll ds)).length ≤ sizeLine := by simpa only [PyData.shown] using hz
    obtain ⟨its, rv, ⟨o, n, h1, h2, _, h3⟩, _⟩ := I.list (.of g)
    obtain ⟨as, bs, h4, hb, hk⟩ := Dq.rpAll I ds _ its ha rv (by simpa [PyData.showable] using hs) (fun t ht => Nat.le_trans (listText_mem_le ht) hz')
    have r := Reads.list h1 h2 h3 h4
    have hna := not_mem_of_deeper r (by simp only [PyData.depth]; omega) hb
    simp only [PyData.depth] at hu
    simp only [PyData.shown] at hQ
    refine call_repr_slot (by omega) ⟨o, h1, h2⟩ F.slot_list_repr.toG ?_
    cases its with
    | nil =>
      cases h4
      simp only [PyData.shownAll, listText_nil] at hQ
      exact call_list_repr_empty ⟨o, h1, h2⟩ h1 h3 ⟨_, _, rfl, hQ s.heap _ _ fun _ _ e => e⟩
    | cons x l => exact call_list_reprK h1 h2 h3 hna (by simpa using hk.length_eq) (fun i y e => hk.item i y (by simpa using e)) hg (fun b _ => Clear.nil b) (by show A.units + 1 + _ < cLine; omega) (fun _ _ e => e) (fun h' u tk hk => ⟨_, _, rfl, hQ h' u tk hk⟩) hz'
  | @tup a xs ds g ha =>
    cases r
    have hz' : (tupleText (PyData.shownAll ds)).length ≤ sizeLine := by simpa only [PyData.shown] using hz
    obtain ⟨its, rv, ⟨o, h1, h2, n, h3⟩, _⟩ := I.tuple (.of g)
    obtain ⟨as, bs, h4, hb, hk⟩ := Dq.rpAll I ds _ its ha rv (by simpa [PyData.showable] using hs) (fun t ht => Nat.le_trans (tupleText_mem_le ht) hz')
    have r := Reads.tuple h1 h2 h3 h4
    have hna := not_mem_of_deeper r (by simp only [PyData.depth]; omega) hb
    simp only [PyData.depth] at hu
    simp only [PyData.shown] at hQ
    refine call_repr_slot (by omega) ⟨o, h1, h2⟩ F.slot_tuple_repr ?_
    exact call_tuple_reprK h1 h2 h3 hna hk hg (fun b _ => Clear.nil b) (by show A.units + 1 + _ < cLine; omega) (fun _ _ e => e) (fun h' u tk hk => ⟨_, _, rfl, hQ h' u tk hk⟩) hz'
  | dct g =>
    cases r
    obtain ⟨o, n, h1, h2, h3, lo⟩ := rp_dict I g
    have r := Reads.dict (h := s.heap) (kvs := []) h1 h2 h3 .nil .nil
    refine PySem.repr_of_reads' r hs (fun _ m => ?_) hg hu (fun _ _ e => e) hQ hz
    have := List.mem_singleton.mp m
    rw [this] at lo
    simp at lo
end
section
variable {X : Cx} {a : Expr} {mr : DA}
def rReprQ : List V → Hp → VK → Prop := fun xs H Q => ∃ (v : V) (d : PyData), xs = [v] ∧ Dq H v d ∧ d.depth ≤ 9 ∧ d.showable = true ∧ d.shown.length ≤ sizeLine ∧ Q (.str d.shown) H
theorem cr_reprQ {k : Nat} (hr : Room k X.A) : CallR X (.builtin "repr") rReprQ := by
  intro pins s σ H xs us Q I r h
  obtain ⟨v, d, rfl, hd, hdp, hs, hz, q⟩ := h
  cases r with
  | cons r1 r2 =>
    cases r2
    exact repr_dq I hd r1 hs hz hr.gd (by have := hr.units; omega) (fun h' u tk hk => ⟨.str _, H, I.kept (t' := tk) hk, ⟨u, rfl⟩, q⟩)
end
end R
namespace R
open PySem PySem.Spec PyProof.Rows L2
section
variable {prog : Program} {w : World} {A : Around}
end
section
variable {X : Cx} {a b : Expr} {pos : Pos} {mr : DA}
end
end R
namespace R
open PySem PySem.Spec PyProof.Rows L2
section
variable {X : Cx} {a : Expr} {ma : DE} {pos : Pos} {ml mh : DO} {lo hi : Option Expr}
end
end R
namespace R
open PySem PySem.Spec PyProof.Rows L2
section
variable {X : Cx} {a : Expr} {ma : DE} {pos : Pos} {C D : Addr}
end
end R
namespace R
open PySem PySem.Spec PyProof.Rows L2
section
variable {X : Cx} {x : Str}
end
end R
namespace R
open PySem PySem.Spec PyProof.Rows L2
theorem shown_24 {d : PyData} (hl : d.leavesShort 24 = true) (hw : d.bulk ≤ 524288) : d.shown.length ≤ sizeLine := by
  have := PyData.shown_le_bulk 24 (by decide) d hl
  have e : sizeLine = 16777216 := rfl
  omega
def oReprU : List Rs → (Rs → Prop) → Prop
  | [.fz d], Q => ∃ p, d.pq 8 = some p ∧ p.showable = true ∧ p.leavesShort 24 = true ∧ p.bulk ≤ 524288 ∧ Q (.fz (.str p.shown))
  | _, _ => False
section
variable {X : Cx} {a : Expr} {mr : DA}
theorem dp_reprU {k : Nat} {p pos : Pos} (hr : Room k X.A) (hm : X.mg "repr" = none) (ha : PA X [a] (LA X.K mr)) (hg : Gl X "repr" := by rfl) (hs : starEach [a] X.env = (false, eval a X.env) :: starEach [] X.env := by rfl) : PE X (.Call (.Name "repr" p) [a] [] pos) (LP X.K (mB oReprU mr)) :=
  dp_callB (cr_reprQ hr) (fun H Q W fp xf Q0 rs vs W2 H2 g h O os F => by
    unfold oReprU at h
    split at h
    · obtain ⟨p, e, h1, h2, h3, q⟩ := h
      obtain ⟨v, rfl, o⟩ := os.one F
      obtain ⟨f, w⟩ := o.own
      cases w with
      | leaf rp =>
        obtain ⟨x1, y1⟩ := rep_dq O.S2.sub rp e
        exact ⟨v, p, rfl, x1, y1, h1, shown_24 h2 h3, O.fin q (.str _)⟩
    · exact h.elim) hm (by decide +kernel) ha hg (hs := hs)
end
end R
namespace R
open PySem PySem.Spec PyProof.Rows L2
section
variable {X : Cx} {a b c : Expr} {pos : Pos} {mr : DA}
end
end R
namespace Cl
open PySem PySem.Spec PyProof.Rows L2 R
abbrev N_common_divisor : List PySem.Str := ["first", "second"]
abbrev P_common_divisor : List PySem.Str := ["first", "second"]
theorem sc_common_divisor : FnScope N_common_divisor P_common_divisor (defScope s_common_divisor) := ⟨rfl, rfl, rfl, by decide +kernel, rfl, by decide +kernel, by decide +kernel⟩
abbrev N_common_multiple : List PySem.Str := ["numbers", "result", "number"]
abbrev P_common_multiple : List PySem.Str := ["numbers"]
theorem sc_common_multiple : FnScope N_common_multiple P_common_multiple (defScope s_common_multiple) := ⟨rfl, rfl, rfl, by decide +kernel, rfl, by decide +kernel, by decide +kernel⟩
abbrev N_InvalidCups_init : List PySem.Str := ["self", "part"]
abbrev P_InvalidCups_init : List PySem.Str := ["self", "part"]
theorem sc_InvalidCups_init : FnScope N_InvalidCups_init P_InvalidCups_init (defScope s_InvalidCups_init) := ⟨rfl, rfl, rfl, by decide +kernel, rfl, by decide +kernel, by decide +kernel⟩
abbrev N_is_integer : List PySem.Str := ["value", "minimum"]
abbrev P_is_integer : List PySem.Str := ["value", "minimum"]
theorem sc_is_integer : FnScope N_is_integer P_is_integer (defScope s_is_integer) := ⟨rfl, rfl, rfl, by decide +kernel, rfl, by decide +kernel, by decide +kernel⟩
abbrev N_are_sizes : List PySem.Str := ["value", "size"]
abbrev P_are_sizes : List PySem.Str := ["value"]
theorem sc_are_sizes : FnScope N_are_sizes P_are_sizes (defScope s_are_sizes) := ⟨rfl, rfl, rfl, by decide +kernel, rfl, by decide +kernel, by decide +kernel⟩
abbrev N_are_forward_indices : List PySem.Str := ["value", "sizes", "index", "size"]
abbrev P_are_forward_indices : List PySem.Str := ["value", "sizes"]
theorem sc_are_forward_indices : FnScope N_are_forward_indices P_are_forward_indices (defScope s_are_forward_indices) := ⟨rfl, rfl, rfl, by decide +kernel, rfl, by decide +kernel, by decide +kernel⟩
abbrev N_CupRow_init : List PySem.Str := ["self", "sizes", "forward", "indices", "size"]
abbrev P_CupRow_init : List PySem.Str := ["self", "sizes", "forward"]
theorem sc_CupRow_init : FnScope N_CupRow_init P_CupRow_init (defScope s_CupRow_init) := ⟨rfl, rfl, rfl, by decide +kernel, rfl, by decide +kernel, by decide +kernel⟩
abbrev N_CupRow_round_length : List PySem.Str := ["self"]
abbrev P_CupRow_round_length : List PySem.Str := ["self"]
theorem sc_CupRow_round_length : FnScope N_CupRow_round_length P_CupRow_round_length (defScope s_CupRow_round_length) := ⟨rfl, rfl, rfl, by decide +kernel, rfl, by decide +kernel, by decide +kernel⟩
abbrev N_CupRow_min_members : List PySem.Str := ["self"]
abbrev P_CupRow_min_members : List PySem.Str := ["self"]
theorem sc_CupRow_min_members : FnScope N_CupRow_min_members P_CupRow_min_members (defScope s_CupRow_min_members) := ⟨rfl, rfl, rfl, by decide +kernel, rfl, by decide +kernel, by decide +kernel⟩
abbrev N_require_cups : List PySem.Str := ["value"]
abbrev P_require_cups : List PySem.Str := ["value"]
theorem sc_require_cups : FnScope N_require_cups P_require_cups (defScope s_require_cups) := ⟨rfl, rfl, rfl, by decide +kernel, rfl, by decide +kernel, by decide +kernel⟩
abbrev N_cycles_of : List PySem.Str := ["order", "target", "seen", "cycles", "index", "cycle"]
abbrev P_cycles_of : List PySem.Str := ["order"]
theorem sc_cycles_of : FnScope N_cycles_of P_cycles_of (defScope s_cycles_of) := ⟨rfl, rfl, rfl, by decide +kernel, rfl, by decide +kernel, by decide +kernel⟩
abbrev N_Blocks_init : List PySem.Str := ["self", "cups"]
abbrev P_Blocks_init : List PySem.Str := ["self", "cups"]
theorem sc_Blocks_init : FnScope N_Blocks_init P_Blocks_init (defScope s_Blocks_init) := ⟨rfl, rfl, rfl, by decide +kernel, rfl, by decide +kernel, by decide +kernel⟩
abbrev N_Blocks_entering : List PySem.Str := ["self", "cup", "length", "inside", "rest", "index"]
abbrev P_Blocks_entering : List PySem.Str := ["self", "cup", "length"]
theorem sc_Blocks_entering : FnScope N_Blocks_entering P_Blocks_entering (defScope s_Blocks_entering) := ⟨rfl, rfl, rfl, by decide +kernel, rfl, by decide +kernel, by decide +kernel⟩
abbrev N_Blocks_filling : List PySem.Str := ["self", "cup", "length", "inside", "rest", "entry", "index", "others", "at"]
abbrev P_Blocks_filling : List PySem.Str := ["self", "cup", "length"]
theorem sc_Blocks_filling : FnScope N_Blocks_filling P_Blocks_filling (defScope s_Blocks_filling) := ⟨rfl, rfl, rfl, by decide +kernel, rfl, by decide +kernel, by decide +kernel⟩
abbrev N_Blocks_whole_round : List PySem.Str := ["self", "length", "inside", "rest"]
abbrev P_Blocks_whole_round : List PySem.Str := ["self", "length"]
theorem sc_Blocks_whole_round : FnScope N_Blocks_whole_round P_Blocks_whole_round (defScope s_Blocks_whole_round) := ⟨rfl, rfl, rfl, by decide +kernel, rfl, by decide +kernel, by decide +kernel⟩
abbrev N_require_count : List PySem.Str := ["value", "minimum"]
abbrev P_require_count : List PySem.Str := ["value", "minimum"]
theorem sc_require_count : FnScope N_require_count P_require_count (defScope s_require_count) := ⟨rfl, rfl, rfl, by decide +kernel, rfl, by decide +kernel, by decide +kernel⟩
abbrev N_round_order : List PySem.Str := ["cups", "count"]
abbrev P_round_order : List PySem.Str := ["cups", "count"]
theorem sc_round_order : FnScope N_round_order P_round_order (defScope s_round_order) := ⟨rfl, rfl, rfl, by decide +kernel, rfl, by decide +kernel, by decide +kernel⟩
abbrev N_round_cycles : List PySem.Str := ["cups", "count"]
abbrev P_round_cycles : List PySem.Str := ["cups", "count"]
theorem sc_round_cycles : FnScope N_round_cycles P_round_cycles (defScope s_round_cycles) := ⟨rfl, rfl, rfl, by decide +kernel, rfl, by decide +kernel, by decide +kernel⟩
abbrev N_period : List PySem.Str := ["cups", "count", "cycle"]
abbrev P_period : List PySem.Str := ["cups", "count"]
theorem sc_period : FnScope N_period P_period (defScope s_period) := ⟨rfl, rfl, rfl, by decide +kernel, rfl, by decide +kernel, by decide +kernel⟩
abbrev N_state_count : List PySem.Str := ["cups", "count", "result", "number"]
abbrev P_state_count : List PySem.Str := ["cups", "count"]
theorem sc_state_count : FnScope N_state_count P_state_count (defScope s_state_count) := ⟨rfl, rfl, rfl, by decide +kernel, rfl, by decide +kernel, by decide +kernel⟩
abbrev N_law_script_value : List PySem.Str := ["_law_script", "_law_k"]
abbrev P_law_script_value : List PySem.Str := ["_law_script", "_law_k"]
theorem sc_law_script_value : FnScope N_law_script_value P_law_script_value (defScope s_law_script_value) := ⟨rfl, rfl, rfl, by decide +kernel, rfl, by decide +kernel, by decide +kernel⟩
abbrev N_law_mix : List PySem.Str := ["_law_cell", "_law_k", "_law_low"]
abbrev P_law_mix : List PySem.Str := ["_law_cell", "_law_k"]
theorem sc_law_mix : FnScope N_law_mix P_law_mix (defScope s_law_mix) := ⟨rfl, rfl, rfl, by decide +kernel, rfl, by decide +kernel, by decide +kernel⟩
abbrev N_law_draw_source : List PySem.Str := ["_law_script", "_law_k", "_law_cell"]
abbrev P_law_draw_source : List PySem.Str := ["_law_script", "_law_k"]
theorem sc_law_draw_source : FnScope N_law_draw_source P_law_draw_source (defScope s_law_draw_source) := ⟨rfl, rfl, rfl, by decide +kernel, rfl, by decide +kernel, by decide +kernel⟩
abbrev N_law_draw : List PySem.Str := ["_law_source", "_law_count", "_law_result"]
abbrev P_law_draw : List PySem.Str := ["_law_source", "_law_count"]
theorem sc_law_draw : FnScope N_law_draw P_law_draw (defScope s_law_draw) := ⟨rfl, rfl, rfl, by decide +kernel, rfl, by decide +kernel, by decide +kernel⟩
abbrev N_law_draw_cups : List PySem.Str := ["_law_source", "_law_max_cups", "_law_top", "_law_budget", "_law_sizes", "_law_remaining", "_law_k", "_law_size", "_law_choice"]
abbrev P_law_draw_cups : List PySem.Str := ["_law_source", "_law_max_cups", "_law_top", "_law_budget"]
theorem sc_law_draw_cups : FnScope N_law_draw_cups P_law_draw_cups (defScope s_law_draw_cups) := ⟨rfl, rfl, rfl, by decide +kernel, rfl, by decide +kernel, by decide +kernel⟩
abbrev N_law_outcome : List PySem.Str := ["_law_call", "e", "_law_kinds"]
abbrev P_law_outcome : List PySem.Str := ["_law_call"]
theorem sc_law_outcome : FnScope N_law_outcome P_law_outcome (defScope s_law_outcome) := ⟨rfl, rfl, rfl, by decide +kernel, rfl, by decide +kernel, by decide +kernel⟩
abbrev N_law_invalid_sizes : List PySem.Str := ["_law_source", "_law_sizes", "_law_at", "_law_items", "_law_invalid"]
abbrev P_law_invalid_sizes : List PySem.Str := ["_law_source", "_law_sizes"]
theorem sc_law_invalid_sizes : FnScope N_law_invalid_sizes P_law_invalid_sizes (defScope s_law_invalid_sizes) := ⟨rfl, rfl, rfl, by decide +kernel, rfl, by decide +kernel, by decide +kernel⟩
abbrev N_law_invalid_indices : List PySem.Str := ["_law_source", "_law_sizes", "_law_indices", "_law_items", "_law_at", "_law_invalid"]
abbrev P_law_invalid_indices : List PySem.Str := ["_law_source", "_law_sizes", "_law_indices"]
theorem sc_law_invalid_indices : FnScope N_law_invalid_indices P_law_invalid_indices (defScope s_law_invalid_indices) := ⟨rfl, rfl, rfl, by decide +kernel, rfl, by decide +kernel, by decide +kernel⟩
abbrev N_law_outcomes : List PySem.Str := ["_law_invalid", "_law_calls", "_law_call"]
abbrev P_law_outcomes : List PySem.Str := ["_law_invalid"]
theorem sc_law_outcomes : FnScope N_law_outcomes P_law_outcomes (defScope s_law_outcomes) := ⟨rfl, rfl, rfl, by decide +kernel, rfl, by decide +kernel, by decide +kernel⟩
abbrev N_law : List PySem.Str := ["_law_script", "_law_k", "_law_source", "_law_sizes", "_law_indices", "_law_turn", "_law_bad", "_law_worse", "_law_original", "_law_outcomes_here", "_law_invalid"]
abbrev P_law : List PySem.Str := ["_law_script"]
theorem sc_law : FnScope N_law P_law (defScope s_law) := ⟨rfl, rfl, rfl, by decide +kernel, rfl, by decide +kernel, by decide +kernel⟩
abbrev N_G_are_forward_indices : List PySem.Str := ["value", "sizes", "index", "size"]
abbrev P_G_are_forward_indices : List PySem.Str := ["value", "sizes"]
theorem sc_G_are_forward_indices : FnScope N_G_are_forward_indices P_G_are_forward_indices (defScope s_G_are_forward_indices) := ⟨rfl, rfl, rfl, by decide +kernel, rfl, by decide +kernel, by decide +kernel⟩
abbrev N_G_are_sizes : List PySem.Str := ["value", "size"]
abbrev P_G_are_sizes : List PySem.Str := ["value"]
theorem sc_G_are_sizes : FnScope N_G_are_sizes P_G_are_sizes (defScope s_G_are_sizes) := ⟨rfl, rfl, rfl, by decide +kernel, rfl, by decide +kernel, by decide +kernel⟩
abbrev N_G_is_integer : List PySem.Str := ["value", "minimum"]
abbrev P_G_is_integer : List PySem.Str := ["value", "minimum"]
theorem sc_G_is_integer : FnScope N_G_is_integer P_G_is_integer (defScope s_G_is_integer) := ⟨rfl, rfl, rfl, by decide +kernel, rfl, by decide +kernel, by decide +kernel⟩
abbrev s_X_CupRow_init : Stmt := inClass (topS 20) 0
abbrev N_X_CupRow_init : List PySem.Str := ["self", "sizes", "forward", "indices", "size"]
abbrev P_X_CupRow_init : List PySem.Str := ["self", "sizes", "forward"]
theorem sc_X_CupRow_init : FnScope N_X_CupRow_init P_X_CupRow_init (defScope s_X_CupRow_init) := ⟨rfl, rfl, rfl, by decide +kernel, rfl, by decide +kernel, by decide +kernel⟩
abbrev N_X_Simulation_init : List PySem.Str := ["self", "cups", "state", "events", "queue", "contents", "by_step", "step", "group", "event"]
abbrev P_X_Simulation_init : List PySem.Str := ["self", "cups", "state", "events"]
theorem sc_X_Simulation_init : FnScope N_X_Simulation_init P_X_Simulation_init (defScope s_X_Simulation_init) := ⟨rfl, rfl, rfl, by decide +kernel, rfl, by decide +kernel, by decide +kernel⟩
abbrev N_X_block_order : List PySem.Str := ["cups", "cup", "queue_length", "index", "others"]
abbrev P_X_block_order : List PySem.Str := ["cups", "cup", "queue_length"]
theorem sc_X_block_order : FnScope N_X_block_order P_X_block_order (defScope s_X_block_order) := ⟨rfl, rfl, rfl, by decide +kernel, rfl, by decide +kernel, by decide +kernel⟩
abbrev N_X_counter_value : List PySem.Str := ["cups", "state", "queue", "contents"]
abbrev P_X_counter_value : List PySem.Str := ["cups", "state"]
theorem sc_X_counter_value : FnScope N_X_counter_value P_X_counter_value (defScope s_X_counter_value) := ⟨rfl, rfl, rfl, by decide +kernel, rfl, by decide +kernel, by decide +kernel⟩
abbrev N_X_first_difference : List PySem.Str := ["first", "second", "queue", "valid", "rows", "steps", "size", "index", "other_size", "other_index", "sizes", "indices"]
abbrev P_X_first_difference : List PySem.Str := ["first", "second", "queue"]
theorem sc_X_first_difference : FnScope N_X_first_difference P_X_first_difference (defScope s_X_first_difference) := ⟨rfl, rfl, rfl, by decide +kernel, rfl, by decide +kernel, by decide +kernel⟩
abbrev N_X_next_state : List PySem.Str := ["cups", "state", "queue", "contents"]
abbrev P_X_next_state : List PySem.Str := ["cups", "state"]
theorem sc_X_next_state : FnScope N_X_next_state P_X_next_state (defScope s_X_next_state) := ⟨rfl, rfl, rfl, by decide +kernel, rfl, by decide +kernel, by decide +kernel⟩
abbrev N_X_orbit_count : List PySem.Str := ["cups", "count"]
abbrev P_X_orbit_count : List PySem.Str := ["cups", "count"]
theorem sc_X_orbit_count : FnScope N_X_orbit_count P_X_orbit_count (defScope s_X_orbit_count) := ⟨rfl, rfl, rfl, by decide +kernel, rfl, by decide +kernel, by decide +kernel⟩
abbrev N_X_period : List PySem.Str := ["cups", "count", "cycle"]
abbrev P_X_period : List PySem.Str := ["cups", "count"]
theorem sc_X_period : FnScope N_X_period P_X_period (defScope s_X_period) := ⟨rfl, rfl, rfl, by decide +kernel, rfl, by decide +kernel, by decide +kernel⟩
abbrev N_X_require_cups : List PySem.Str := ["value"]
abbrev P_X_require_cups : List PySem.Str := ["value"]
theorem sc_X_require_cups : FnScope N_X_require_cups P_X_require_cups (defScope s_X_require_cups) := ⟨rfl, rfl, rfl, by decide +kernel, rfl, by decide +kernel, by decide +kernel⟩
abbrev N_X_round_cycles : List PySem.Str := ["cups", "count"]
abbrev P_X_round_cycles : List PySem.Str := ["cups", "count"]
theorem sc_X_round_cycles : FnScope N_X_round_cycles P_X_round_cycles (defScope s_X_round_cycles) := ⟨rfl, rfl, rfl, by decide +kernel, rfl, by decide +kernel, by decide +kernel⟩
abbrev N_X_round_order : List PySem.Str := ["cups", "count"]
abbrev P_X_round_order : List PySem.Str := ["cups", "count"]
theorem sc_X_round_order : FnScope N_X_round_order P_X_round_order (defScope s_X_round_order) := ⟨rfl, rfl, rfl, by decide +kernel, rfl, by decide +kernel, by decide +kernel⟩
abbrev N_X_simplify : List PySem.Str := ["cups", "sizes", "indices"]
abbrev P_X_simplify : List PySem.Str := ["cups"]
theorem sc_X_simplify : FnScope N_X_simplify P_X_simplify (defScope s_X_simplify) := ⟨rfl, rfl, rfl, by decide +kernel, rfl, by decide +kernel, by decide +kernel⟩
abbrev N_X_state_before : List PySem.Str := ["cups", "state", "steps", "queue", "contents", "length"]
abbrev P_X_state_before : List PySem.Str := ["cups", "state", "steps"]
theorem sc_X_state_before : FnScope N_X_state_before P_X_state_before (defScope s_X_state_before) := ⟨rfl, rfl, rfl, by decide +kernel, rfl, by decide +kernel, by decide +kernel⟩
abbrev N_X_state_count : List PySem.Str := ["cups", "count", "result", "number"]
abbrev P_X_state_count : List PySem.Str := ["cups", "count"]
theorem sc_X_state_count : FnScope N_X_state_count P_X_state_count (defScope s_X_state_count) := ⟨rfl, rfl, rfl, by decide +kernel, rfl, by decide +kernel, by decide +kernel⟩
structure Cs where
  CupLadderError : Nat
  InvalidCups : Nat
  InvalidState : Nat
  InvalidStep : Nat
  InvalidEvents : Nat
  InvalidMember : Nat
  InvalidCup : Nat
  Incomparable : Nat
  CupRow : Nat
  Blocks : Nat
  Simulation : Nat
def ks_law_outcome : List Nat := [7, 8, 9]
def wd_law_outcome : Option Nat → R.D
  | none => .str "ok"
  | some 7 => .str "cups"
  | some 8 => .str "sizes"
  | some 9 => .str "forward"
  | _ => .str ""
def adC (cs : Cs) : Nat → Nat := fun k => [cs.InvalidCups, cs.InvalidState, cs.InvalidStep, cs.InvalidEvents, cs.InvalidMember, cs.InvalidCup, cs.Incomparable, cs.InvalidCups, cs.InvalidCups, cs.InvalidCups, cs.Incomparable, cs.Incomparable].getD k 0
structure Tt (K : PySem.W.Frag) (mg : PySem.Str → Option Value) (cs : Cs) : Prop where
  b_ValueError : mg "ValueError" = none
  b_all : mg "all" = none
  b_bool : mg "bool" = none
  b_int : mg "int" = none
  b_isinstance : mg "isinstance" = none
  b_len : mg "len" = none
  b_list : mg "list" = none
  b_max : mg "max" = none
  b_min : mg "min" = none
  b_range : mg "range" = none
  b_repr : mg "repr" = none
  b_sum : mg "sum" = none
  b_tuple : mg "tuple" = none
  b_zip : mg "zip" = none
  c_MAX_CUPS : ∃ t, mg "MAX_CUPS" = some (.int 30 t)
  c_MAX_EXTRA : ∃ t, mg "MAX_EXTRA" = some (.int 30 t)
  c_MAX_MEMBERS : ∃ t, mg "MAX_MEMBERS" = some (.int 40 t)
  c_MAX_SIZE : ∃ t, mg "MAX_SIZE" = some (.int 9 t)
  g_CupRow : mg "CupRow" = some (.ref cs.CupRow)
  g_Incomparable : mg "Incomparable" = some (.ref cs.Incomparable)
  g_InvalidCup : mg "InvalidCup" = some (.ref cs.InvalidCup)
  g_InvalidCups : mg "InvalidCups" = some (.ref cs.InvalidCups)
  g_InvalidEvents : mg "InvalidEvents" = some (.ref cs.InvalidEvents)
  g_InvalidMember : mg "InvalidMember" = some (.ref cs.InvalidMember)
  g_InvalidState : mg "InvalidState" = some (.ref cs.InvalidState)
  g_InvalidStep : mg "InvalidStep" = some (.ref cs.InvalidStep)
  is_CupRow : IsC K cs.CupRow
  k_Blocks : Cls K cs.Blocks
  k_CupRow : Cls K cs.CupRow
  n_Blocks_cups : NoAttr K cs.Blocks "cups"
  n_Blocks_orders : NoAttr K cs.Blocks "orders"
  n_Blocks_visits : NoAttr K cs.Blocks "visits"
  n_CupRow_forward_tuple : NoAttr K cs.CupRow "forward_tuple"
  n_CupRow_size_tuple : NoAttr K cs.CupRow "size_tuple"
  n_CupRow_weights : NoAttr K cs.CupRow "weights"
def scrD (ns : List Int) : R.D := .rol (ns.map .int)
structure Row (sz fw : List Nat) : Prop where
  l0 : 0 < sz.length
  l1 : sz.length ≤ 30
  s1 : ∀ s ∈ sz, 1 ≤ s ∧ s ≤ 9
  sm : sz.sum ≤ sz.length + 30
  fl : fw.length + 1 = sz.length
  fi : ∀ i, i < fw.length → pk fw i < pk sz i
theorem Row.cups {sz fw : List Nat} (h : Row sz fw) {c : Nat} (hc : c ≤ fw.length) : Cups sz fw c :=
  ⟨by have := h.fl; omega, fun i hi => (h.s1 _ (pk_mem (by have := h.fl; omega))).1, fun i hi => h.fi i (by omega)⟩
def wts (sz : List Nat) : List Nat := (List.range (sz.length + 1)).map fun c => prodL (sz.take c)
def cupN : List PySem.Str := ["size_tuple", "forward_tuple", "weights"]
def cupT (cs : Cs) (sz fw : List Nat) : OT := .ins cs.CupRow cupN [.leaf (nT sz), .leaf (nT fw), .lst ((wts sz).map fun n => .leaf (nI n))]
def cupD (cs : Cs) (sz fw : List Nat) : R.D := .ins cs.CupRow cupN [nT sz, nT fw, nL (wts sz)]
abbrev fz (d : R.D) : Option Rs := some (.fz d)
def F_is_integer (_ : Cs) : Spec1 := fun ss Q => ∃ i m : Int, ss = [fz (.int i), fz (.int m)] ∧ Q (.fz (.bl (decide (m ≤ i))))
def F_are_sizes (_ : Cs) : Spec1 := fun ss Q => ∃ sz : List Nat, ss = [fz (nL sz)] ∧ 0 < sz.length ∧ sz.length ≤ 30 ∧ (∀ s ∈ sz, 1 ≤ s ∧ s ≤ 9) ∧ sz.sum ≤ sz.length + 30 ∧ Q (.fz (.bl true))
def F_are_forward_indices (_ : Cs) : Spec1 := fun ss Q => ∃ sz fw, Row sz fw ∧ ss = [fz (nL fw), fz (nL sz)] ∧ Q (.fz (.bl true))
def F_CupRow_init (cs : Cs) : R.Spec := fun ss Q => ∃ sz fw x, Row sz fw ∧ ss = [some (.nw (.ins cs.CupRow [] [])), fz (nL sz), fz x] ∧ (x = nL fw ∨ (x = .non ∧ fw = List.replicate (sz.length - 1) 0)) ∧ Q (.fz .non) [some (.nw (cupT cs sz fw)), none, none]
def F_require_cups (cs : Cs) : Spec1 := fun ss Q => ∃ sz fw, ss = [fz (cupD cs sz fw)] ∧ Q (.fz .non)
def F_law_draw (_ : Cs) : Spec1 := fun ss Q => ∃ ps b, ss = [fz (.vol 0 ps), fz (.int b)] ∧ 0 < b ∧ b < 2 ^ 200 ∧ ∀ x : Int, 0 ≤ x → x < b → Q (.fz (.int x))
def blkN : List PySem.Str := ["cups", "orders", "visits"]
def blkT (cs : Cs) (sz fw : List Nat) : OT := .ins cs.Blocks blkN [.leaf (cupD cs sz fw), .d0, .d0]
def blkD (cs : Cs) (sz fw : List Nat) : R.D := .ins cs.Blocks blkN [cupD cs sz fw, .vol 1 [nT sz, nT fw], .vol 2 [nT sz, nT fw]]
theorem blk_fz (cs : Cs) (sz fw : List Nat) : Fz (blkT cs sz fw) (blkD cs sz fw) := .ins (.cons (.leaf _) (.cons (.d0 0 _) (.cons (.d0 1 _) .nil)))
def F_require_count (_ : Cs) : Spec1 := fun ss Q => ∃ v m : Int, ss = [fz (.int v), fz (.int m)] ∧ m ≤ v ∧ v ≤ 40 ∧ Q (.fz .non)
def F_Blocks_init (cs : Cs) : R.Spec := fun ss Q => ∃ sz fw, ss = [some (.nw (.ins cs.Blocks [] [])), fz (cupD cs sz fw)] ∧ Q (.fz .non) [some (.nw (blkT cs sz fw)), none]
def F_Blocks_entering (cs : Cs) (b : Nat) : Spec1 := fun ss Q => ∃ sz fw c n, Row sz fw ∧ ss = [fz (blkD cs sz fw), fz (nI c), fz (nI n)] ∧ c ≤ b ∧ c ≤ fw.length ∧ least sz c ≤ n ∧ n < 64 ∧ Q (.fz (entD sz fw c n))
def F_Blocks_filling (cs : Cs) (b : Nat) : Spec1 := fun ss Q => ∃ sz fw c n, Row sz fw ∧ ss = [fz (blkD cs sz fw), fz (nI c), fz (nI n)] ∧ c + 1 ≤ b ∧ c ≤ fw.length ∧ least sz (c + 1) ≤ n ∧ n < 64 ∧
  Q (.nw (.tup [.lst ((fil sz fw c n).1.map fun n => .leaf (nI n)), .leaf (nL (fil sz fw c n).2)]))
def F_CupRow_min_members (cs : Cs) : Spec1 := fun ss Q => ∃ sz fw, Row sz fw ∧ ss = [fz (cupD cs sz fw)] ∧ Q (.fz (nI (least sz (fw.length + 1))))
def F_CupRow_round_length (cs : Cs) : Spec1 := fun ss Q => ∃ sz fw, ss = [fz (cupD cs sz fw)] ∧ Q (.fz (nI (prodL sz)))
theorem Row.leastN {sz fw : List Nat} (h : Row sz fw) : ((sz.sum : Nat) : Int) - (sz.length : Nat) + 1 = (least sz (fw.length + 1) : Nat) ∧ 1 ≤ least sz (fw.length + 1) ∧ least sz (fw.length + 1) ≤ 31 := by
  have e := sum_pred (l := sz) fun s hs => (h.s1 s hs).1
  have e2 : least sz (fw.length + 1) = (sz.map (· - 1)).sum + 1 := by
    unfold least
    rw [List.take_of_length_le (by have := h.fl; omega)]
  have := h.sm
  omega
theorem nc_min : List.contains cupN "min_members" = false := by decide
theorem nc_len : List.contains cupN "round_length" = false := by decide
theorem wts_last (sz : List Nat) : at' ((wts sz).map nI) (-1) = some (nI (prodL sz)) := by
  unfold wts
  rw [List.range_succ, List.map_append, List.map_append, List.map_singleton, List.map_singleton, List.take_length]
  exact at_last
theorem b1 {Z : List Rs → (Rs → Prop) → Prop} {a : DE} {env : R.Env} {Q : Rs → Prop} (h : a env fun x => Z [x.ffz] Q) : mB Z (mCons a mNil) env Q := h
structure Rw (sz fw : List Nat) : Prop where
  l1 : sz.length ≤ 30
  fl : fw.length + 1 = sz.length
  fi : ∀ i, i < fw.length → pk fw i < pk sz i
theorem w_add_bn {a b : List R.D} {Q : Rs → Prop} (hl : a.length + b.length ≤ sizeL) (h : Q (.nw (.lst ((a ++ b).map .leaf)))) : oAdd (Rs.br (.lst (a.map .leaf))) (Rs.nw (.lst (b.map .leaf))).ffz Q := by
  rw [ffz_lst]
  exact .inl ⟨a, b, leaves_map a, rfl, hl, h⟩
theorem mAndV_tt {a b : DE} {env : R.Env} {Q : Rs → Prop} (h1 : ∀ P : Rs → Prop, P (.fz (.bl true)) → a env P) (h2 : b env Q) : mAndV a b env Q := h1 _ (by show (if true = true then _ else _); rw [if_pos rfl]; exact h2)
theorem mT_tt {a : DE} {env : R.Env} {P : Bool → Prop} {b : Bool} (h : ∀ Q : Rs → Prop, Q (.fz (.bl b)) → a env Q) (q : P b) : mT a env P := h _ q
theorem w_add_ff {a b : List R.D} {Q : Rs → Prop} (hl : a.length + b.length ≤ sizeL) (h : Q (.nw (.lst ((a ++ b).map .leaf)))) : oAdd (.fz (.lst a)) (.fz (.lst b)) Q := .inl ⟨_, _, rfl, rfl, hl, h⟩
theorem cutA {α : Type} (xs : List α) (c : Nat) : cut' xs none (some (c : Int)) = xs.take c := by
  by_cases h : c ≤ xs.length
  · exact cut_take h
  · simp only [cut', sIx', List.drop_zero, Nat.sub_zero]
    rw [if_neg (by omega), Int.toNat_natCast, Nat.min_eq_right (by omega), List.take_length, List.take_of_length_le (by omega)]
theorem cutB {α : Type} (xs : List α) (c : Nat) : cut' xs (some (c : Int)) none = xs.drop c := by
  by_cases h : c ≤ xs.length
  · exact cut_from h
  · simp only [cut', sIx']
    rw [if_neg (by omega), Int.toNat_natCast, Nat.min_eq_right (by omega), List.drop_length, List.take_nil, List.drop_eq_nil_of_le (by omega)]

def F_Blocks_whole_round (cs : Cs) : Spec1 := fun ss Q => ∃ sz fw n, Row sz fw ∧ ss = [fz (blkD cs sz fw), fz (nI n)] ∧ least sz (fw.length + 1) ≤ n ∧ n < 64 ∧ Q (.nw (.lst ((rnd sz fw n).map fun n => .leaf (nI n))))
def F_round_order (cs : Cs) : Spec1 := fun ss Q => ∃ sz fw n, Row sz fw ∧ ss = [fz (cupD cs sz fw), fz (nI n)] ∧ least sz (fw.length + 1) ≤ n ∧ n ≤ 40 ∧ Q (.nw (.lst ((rnd sz fw n).map fun n => .leaf (nI n))))
def cyL (sz fw : List Nat) (n : Nat) : List (List Nat) := cycs (tgt (rnd sz fw n)) n n
theorem Row.rnd {sz fw : List Nat} (h : Row sz fw) {n : Nat} (hl : least sz (fw.length + 1) ≤ n) : (R.rnd sz fw n).Perm (List.range n) := rnd_perm (h.cups (Nat.le_refl _)) (by have := h.fl; omega) (h.s1 _ (pk_mem (by have := h.fl; omega))).1 hl
theorem Row.cyOk {sz fw : List Nat} (h : Row sz fw) {n : Nat} (hl : least sz (fw.length + 1) ≤ n) : CyOk n (cyL sz fw n) := cycs_cyOk (Tg.of_perm (h.rnd hl))
theorem nc_whole : List.contains blkN "whole_round" = false := by decide
def F_cycles_of (_ : Cs) : Spec1 := fun ss Q => ∃ (ord : List Nat) (n : Nat), ord.Perm (List.range n) ∧ n ≤ 64 ∧ ss = [fz (nL ord)] ∧ Q (.fz (.lst ((cycs (tgt ord) n n).map nL)))
def F_round_cycles (cs : Cs) : Spec1 := fun ss Q => ∃ sz fw n, Row sz fw ∧ ss = [fz (cupD cs sz fw), fz (nI n)] ∧ least sz (fw.length + 1) ≤ n ∧ n ≤ 40 ∧ Q (.fz (.lst ((cyL sz fw n).map nL)))

def nS (g : Nat → PySem.Str) (n : Nat) : R.D := .str (g n)
def sL (g : Nat → PySem.Str) (l : List Nat) : R.D := .lst (l.map (nS g))
def sC (g : Nat → PySem.Str) (cs : List (List Nat)) : R.D := .lst (cs.map (sL g))
def ownS (g : Nat → PySem.Str) (cs : List (List Nat)) : List OT := cs.map fun c => .lst (c.map fun n => .leaf (nS g n))
abbrev stD (g : Nat → PySem.Str) (q : List Nat) (cs : List (List Nat)) : R.D := .tup [sL g q, sC g cs]
abbrev stT (g : Nat → PySem.Str) (q : List Nat) (cs : List (List Nat)) : OT := .tup [.lst (q.map fun n => .leaf (nS g n)), .lst (ownS g cs)]
structure NameOk (z : PySem.Str) : Prop where
  l1 : 1 ≤ z.cps.toList.length
  l8 : z.cps.toList.length ≤ 8
  lt : ∀ c ∈ z.cps.toList, 97 ≤ c ∧ c ≤ 122
structure Nms (g : Nat → PySem.Str) (l : List Nat) : Prop where
  nd : (l.map g).Nodup
  ok : ∀ n ∈ l, NameOk (g n)
theorem Nms.perm {g : Nat → PySem.Str} {l m : List Nat} (h : Nms g l) (p : m.Perm l) : Nms g m := ⟨(p.map g).nodup_iff.mpr h.nd, fun n m => h.ok n (p.mem_iff.mp m)⟩
structure StOk (sz fw : List Nat) (g : Nat → PySem.Str) (q : List Nat) (cs : List (List Nat)) : Prop where
  val : Val sz cs
  nms : Nms g (memb q cs)
  lo : least sz (fw.length + 1) ≤ q.length + totM cs
  hi : q.length + totM cs ≤ 40
theorem ownS_fz (g : Nat → PySem.Str) (cs : List (List Nat)) : Fz (.lst (ownS g cs)) (sC g cs) := by
  unfold ownS sC
  refine .lst ?_
  induction cs with
  | nil => exact .nil
  | cons c cs ih => exact .cons (by
      have e : (c.map fun n => OT.leaf (nS g n)) = (c.map (nS g)).map .leaf := by rw [List.map_map] <;> rfl
      show Fz (.lst (c.map fun n => .leaf (nS g n))) _
      rw [e]
      exact fz_lst _) ih
theorem leafs_nS (g : Nat → PySem.Str) (c : List Nat) : (c.map fun n => OT.leaf (nS g n)) = (c.map (nS g)).map .leaf := by rw [List.map_map] <;> rfl
theorem leaves_nS (g : Nat → PySem.Str) (l : List Nat) : leaves (l.map fun n => OT.leaf (nS g n)) = some (l.map (nS g)) := by
  have := leaves_map (l.map (nS g))
  rw [List.map_map] at this
  exact this
theorem ownS_len (g : Nat → PySem.Str) (cs : List (List Nat)) : (ownS g cs).length = cs.length := by unfold ownS; rw [List.length_map]
def pc (cs : List (List Nat)) (k : Nat) : List Nat := cs.getD k []
def IsS (g : Nat → PySem.Str) (l : List Nat) (r : Rs) : Prop := r = .fz (sL g l) ∨ r = .ex (.lst (l.map fun n => .leaf (nS g n)))
def IsC (g : Nat → PySem.Str) (cs : List (List Nat)) (r : Rs) : Prop := r = .fz (sC g cs) ∨ r = .ex (.lst (ownS g cs))
def IsSt (g : Nat → PySem.Str) (q : List Nat) (cs : List (List Nat)) (r : Rs) : Prop := r = .fz (stD g q cs) ∨ r = .ex (stT g q cs)
theorem IsS.fz (g : Nat → PySem.Str) (l : List Nat) : IsS g l (.fz (sL g l)) := .inl rfl
theorem IsC.fz (g : Nat → PySem.Str) (cs : List (List Nat)) : IsC g cs (.fz (sC g cs)) := .inl rfl
theorem IsSt.fz (g : Nat → PySem.Str) (q : List Nat) (cs : List (List Nat)) : IsSt g q cs (.fz (stD g q cs)) := .inl rfl
theorem IsS.rd {g : Nat → PySem.Str} {l : List Nat} {r : Rs} (h : IsS g l r) : r.rd = r ∧ r.ffz = r ∧ r.arg = r ∧ r.slot ∧ r.els true = some (l.map (nS g)) := by
  rcases h with rfl | rfl
  · exact ⟨rfl, rfl, rfl, trivial, rfl⟩
  · exact ⟨rfl, rfl, rfl, trivial, leaves_nS g l⟩
theorem IsC.rd {g : Nat → PySem.Str} {l : List (List Nat)} {r : Rs} (h : IsC g l r) : r.rd = r ∧ r.ffz = r := by
  rcases h with rfl | rfl
  · exact ⟨rfl, rfl⟩
  · exact ⟨rfl, rfl⟩
theorem IsSt.lend {g : Nat → PySem.Str} {q : List Nat} {cs : List (List Nat)} {r : Rs} (h : IsSt g q cs r) : r.rd.lend = r := by
  rcases h with rfl | rfl
  · rfl
  · rfl
theorem IsS.len {g : Nat → PySem.Str} {l : List Nat} {r : Rs} {Q : Rs → Prop} (h : IsS g l r) (q : Q (.fz (.int (l.length : Nat)))) : oLen [r] Q := by
  rcases h with rfl | rfl
  · exact ⟨_, rfl, by rw [List.length_map, List.length_map]; exact q⟩
  · exact ⟨_, rfl, by rw [List.length_map]; exact q⟩
theorem IsC.len {g : Nat → PySem.Str} {l : List (List Nat)} {r : Rs} {Q : Rs → Prop} (h : IsC g l r) (q : Q (.fz (.int (l.length : Nat)))) : oLen [r.rd.ffz] Q := by
  rcases h with rfl | rfl
  · exact ⟨_, rfl, by rw [List.length_map, List.length_map]; exact q⟩
  · exact ⟨_, rfl, by rw [ownS_len]; exact q⟩
theorem IsSt.len {g : Nat → PySem.Str} {q : List Nat} {cs : List (List Nat)} {r : Rs} {Q : Rs → Prop} (h : IsSt g q cs r) (k : Q (.fz (.int ((2 : Nat) : Int)))) : oLen [r.rd.ffz] Q := by
  rcases h with rfl | rfl
  · exact ⟨_, rfl, k⟩
  · exact ⟨_, rfl, k⟩
theorem IsSt.parts {g : Nat → PySem.Str} {q : List Nat} {cs : List (List Nat)} {r : Rs} (h : IsSt g q cs r) : ∃ rq rc, IsS g q rq ∧ IsC g cs rc ∧ (∀ Q : Rs → Prop, Q rq → oIx r.rd.ffz (Rs.fz (.int 0)).ffz Q) ∧ (∀ Q : Rs → Prop, Q rc → oIx r.rd.ffz (Rs.fz (.int 1)).ffz Q) ∧
    ∀ {env : R.Env} {i j : Nat} (Q : R.Env → Prop), Q ((env.set i (some rq)).set j (some rc)) → gT [gN i, gN j] env r.rd Q := by
  rcases h with rfl | rfl
  · exact ⟨_, _, .inl rfl, .inl rfl, fun Q q => ⟨_, rfl, q⟩, fun Q q => ⟨_, rfl, q⟩, fun Q q => ⟨_, rfl, rfl, trivial, trivial, q⟩⟩
  · exact ⟨_, _, .inr rfl, .inr rfl, fun Q q => ⟨_, _, rfl, rfl, q⟩, fun Q q => ⟨_, _, rfl, rfl, q⟩, fun Q q => ⟨_, rfl, rfl, trivial, trivial, q⟩⟩
theorem Row.ne {sz fw : List Nat} (h : Row sz fw) : sz ≠ [] := fun z => by have := h.l0; rw [z] at this; simp at this
theorem StOk.cons {sz fw : List Nat} {g : Nat → PySem.Str} {q : List Nat} {cs : List (List Nat)} (hR : Row sz fw) (h : StOk sz fw g q cs) : ∃ x q', q = x :: q' := by
  have a := val_tot h.val
  have b := hR.leastN
  have c := h.lo
  cases q with
  | nil => rw [List.length_nil] at c; omega
  | cons x q => exact ⟨x, q, rfl⟩
theorem StOk.step {sz fw : List Nat} {g : Nat → PySem.Str} {x : Nat} {q : List Nat} {cs : List (List Nat)} (hR : Row sz fw) (h : StOk sz fw g (x :: q) cs) : StOk sz fw g (csc sz fw cs x q).2 (csc sz fw cs x q).1 := by
  have a := csc_tot (m := x) (q := q) hR.ne hR.fl hR.fi h.val
  have b := csc_perm (m := x) (q := q) hR.ne hR.fl hR.fi h.val
  have c := h.lo
  have d := h.hi
  rw [List.length_cons] at c d
  exact ⟨(csc_ctr (m := x) (q := q) hR.ne h.val).1, h.nms.perm b, by omega, by omega⟩
theorem StOk.next {sz fw : List Nat} {g : Nat → PySem.Str} {x : Nat} {q : List Nat} {cs : List (List Nat)} (hR : Row sz fw) (h : StOk sz fw g (x :: q) cs) : ctr sz (csc sz fw cs x q).1 = (ctr sz cs + 1) % prodL sz := by
  have a := (csc_ctr (fw := fw) (m := x) (q := q) hR.ne h.val).2
  have b := ctr_lt h.val
  rw [prR_eq, a]
  split
  · rename_i z
    rw [Nat.mod_eq_of_lt z]
  · rw [show ctr sz cs + 1 = prR sz by omega, Nat.mod_self]
theorem Fz.st (g : Nat → PySem.Str) (q : List Nat) (cs : List (List Nat)) : Fz (stT g q cs) (stD g q cs) := by
  unfold stT
  rw [leafs_nS]
  exact .tup (.cons (fz_lst _) (.cons (ownS_fz g cs) .nil))
theorem strOk_of (s : String) : PyData.strOk (s : PySem.Str) = true := by
  show (PySem.Str.ofString s).cps.all (· < 0x110000) = true
  rw [PySem.Str.ofString_eq_toList, ← Array.all_toList]
  refine List.all_eq_true.mpr fun c m => decide_eq_true ?_
  have m : c ∈ s.toList.map Char.toNat := by simpa using m
  obtain ⟨d, _, rfl⟩ := List.mem_map.mp m
  have := d.valid
  unfold UInt32.isValidChar Nat.isValidChar at this
  show d.val.toNat < 0x110000
  omega
theorem ffz_nw {t : OT} {d : R.D} (h : t.fzd = some d) : (Rs.nw t).ffz = .fz d := by
  show (match t.fzd with | some d => Rs.fz d | none => _) = _
  rw [h]
def F_law_script_value (_ : Cs) : Spec1 := fun ss Q => ∃ ns k, ss = [fz (scrD ns), fz (nI k)] ∧ ∀ x : Int, Q (.fz (.int x))
def F_law_mix (_ : Cs) : Spec1 := fun ss Q => ∃ a b : Int, ss = [fz (.int a), fz (.int b)] ∧ ∀ x : Int, Q (.fz (.int x))
def F_law_draw_source (_ : Cs) : Spec1 := fun ss Q => ∃ ns k, ss = [fz (scrD ns), fz (nI k)] ∧ Q (.fz (.vol 0 []))
def F_law_draw_cups (_ : Cs) : Spec1 := fun ss Q => ∃ ps mx top bud, ss = [fz (.vol 0 ps), fz (nI mx), fz (nI top), fz (nI bud)] ∧ 1 ≤ mx ∧ mx ≤ 30 ∧ 1 ≤ top ∧ top ≤ 9 ∧ bud ≤ 30 ∧
  ∀ sz fw, Row sz fw → sz.length ≤ mx → sz.sum ≤ sz.length + bud → Q (.nw (.tup [.leaf (nL sz), .lst (fw.map fun n => .leaf (nI n))]))
def tyd (d : R.D) : Prop := ∃ t, (OT.leaf d).ty = some t
def isIntD (m : Int) : R.D → Bool
  | .int i => decide (m ≤ i)
  | _ => false
def shortD : R.D → Prop
  | .str z => z.cps.toList.length ≤ 1000
  | _ => True
def F_G_is_integer (_ : Cs) : Spec1 := fun ss Q => ∃ d m, tyd d ∧ ss = [fz d, fz (.int m)] ∧ Q (.fz (.bl (isIntD m d)))
theorem all_lcB {it : DI} {gg : DG} {e : DE} {ws : List Nat} {env : R.Env} {Q : Rs → Prop} (xs : List Rs) (b : Nat → Bool) (hit : ∀ Q' : Bool → List Rs → Prop, Q' true xs → it env Q') (hs : xs.length ≤ sizeL)
    (step : ∀ (k : Nat) (r : Rs), xs[k]? = some r → ∀ P : Rs → Prop, P (.fz (.bl (b k))) → gg (R.Env.wipe (R.Env.lent env) ws) r.arg fun e1 => e1.length = env.length ∧ e e1 P) (h : Q (.fz (.bl (((List.range xs.length).map b).all id)))) : mB oAll (mCons (mLc it gg mYes e ws) mNil) env Q := by
  show mLc it gg mYes e ws env fun x => oAll [x.ffz] Q
  refine lc_any xs true (fun k => .leaf (.bl (b k))) hit hs (fun k r hr => step k r hr _ ⟨_, rfl, item_snoc⟩) ?_
  have e : (List.range xs.length).map (fun k => OT.leaf (.bl (b k))) = (((List.range xs.length).map b).map R.D.bl).map OT.leaf := by rw [List.map_map, List.map_map] <;> rfl
  rw [e]
  show oAll [(Rs.nw (.lst ((((List.range xs.length).map b).map R.D.bl).map OT.leaf))).ffz] Q
  rw [ffz_lst]
  exact ⟨_, _, rfl, bls_of _, h⟩
theorem mNot_b {t : DT} {env : R.Env} {P : Bool → Prop} {b : Bool} (h : ∀ P : Bool → Prop, P b → t env P) (q : P (!b)) : mNot t env P := h _ q
theorem mCh_b {f gg : Int → Int → Bool} {a b c : DE} {env : R.Env} {Q : Rs → Prop} {i j k : Int} (ha : ∀ P : Rs → Prop, P (.fz (.int i)) → a env P) (hb : ∀ P : Rs → Prop, P (.fz (.int j)) → b env P) (hc : ∀ P : Rs → Prop, P (.fz (.int k)) → c env P) (q : Q (.fz (.bl (f i j && gg j k)))) : mCh f gg a b c env Q :=
  ha _ (hb _ ⟨i, j, rfl, rfl, by
    cases e : f i j with
    | true =>
      rw [e] at q
      rw [if_pos rfl]
      exact hc _ ⟨k, rfl, q⟩
    | false =>
      rw [e] at q
      rw [if_neg Bool.false_ne_true]
      exact q⟩)
theorem app_e {E : List OT → R.Env} {i : Nat} (h1 : ∀ w, (E w)[i]? = some (some (.nw (.lst w)))) (h2 : ∀ w w', (E w).set i (some (.nw (.lst w'))) = E w') {w : List OT} {m : DE} {d : R.D} {Z : DK} (hw : w.length < sizeL)
    (hm : ∀ P : Rs → Prop, P (.fz d) → m (E w) P) (h : Z.nx (E (w ++ [.leaf d]))) : mAppend (plN i) m (E w) Z := by
  refine ⟨⟨_, h1 w⟩, w, ?_, hw, hm _ ⟨.leaf d, rfl, ?_⟩⟩
  · unfold tree
    rw [h1 w] <;> rfl
  · show Z.nx (put (E w) i [] (.lst (w ++ [.leaf d])))
    have e : put (E w) i [] (.lst (w ++ [.leaf d])) = (E w).set i (some (.nw (.lst (w ++ [.leaf d])))) := by
      unfold put
      rw [h1 w] <;> rfl
    rw [e, h2]
    exact h
theorem w_repX (x : R.D) (k : Int) {Q : Rs → Prop} (h0 : 0 ≤ k) (h1 : k < 1000000) (h : Q (.nw (.lst ((List.replicate k.toNat x).map .leaf)))) : oMul (Rs.nw (.lst [.leaf x])).ffz (.fz (.int k)) Q := by
  have e := ffz_lst [x]
  rw [show (Rs.nw (.lst [OT.leaf x])) = Rs.nw (.lst ([x].map OT.leaf)) from rfl, e]
  refine ⟨[x], rfl, by omega, by omega, by rw [List.length_singleton]; unfold sizeL; omega, ?_⟩
  have e2 : (List.replicate k.toNat [x]).flatten = List.replicate k.toNat x := by
    generalize k.toNat = n
    induction n with
    | zero => rfl
    | succ n ih => rw [List.replicate_succ, List.replicate_succ, List.flatten_cons, ih] <;> rfl
  rw [e2]
  exact h
def okD : Nat → R.D → Prop
  | 0, d => tyd d ∧ shortD d
  | n + 1, d => (tyd d ∧ shortD d) ∧ match d with
    | .lst ds => ds.length ≤ 5000 ∧ ∀ x ∈ ds, okD n x
    | .tup ds => ds.length ≤ 5000 ∧ ∀ x ∈ ds, okD n x
    | _ => True
theorem okD.t {n : Nat} {d : R.D} (h : okD n d) : tyd d ∧ shortD d := by
  cases n with
  | zero => exact h
  | succ n => exact h.1
theorem all_idx {f : R.D → Bool} (ds : List R.D) : ((List.range ds.length).map fun k => f (ds.getD k .non)).all id = ds.all f := by
  induction ds with
  | nil => rfl
  | cons d ds ih =>
    rw [List.length_cons, List.range_succ_eq_map, List.map_cons, List.map_map, List.all_cons, List.all_cons, ← ih]
    rfl
theorem val_tot {sz fw : List Nat} {cts : List (List Nat)} (hR : Row sz fw) (h : Val sz cts) : totM cts ≤ 30 := by
  have key : ∀ {sz : List Nat} {cts : List (List Nat)}, Val sz cts → totM cts + sz.length ≤ sz.sum := by
    intro sz cts h
    induction h with
    | nil => exact Nat.le_refl _
    | cons a _ ih =>
      rename_i s ss c cs _
      have : totM (c :: cs) = c.length + totM cs := rfl
      rw [this, List.sum_cons, List.length_cons]
      omega
  have a := key h
  have b := hR.sm
  omega

def Rp (n b : Nat) (d : R.D) : Prop := ∃ p, d.pq n = some p ∧ p.showable = true ∧ p.leavesShort 24 = true ∧ p.bulk ≤ b
def okA (d : R.D) : Prop := ∀ n, okD n d
def Kd (k b : Nat) (d : R.D) : Prop := okA d ∧ ∀ n, k ≤ n → Rp n b d
theorem Kd.le {k b k' b' : Nat} {d : R.D} (h : Kd k b d) (hk : k ≤ k') (hb : b ≤ b') : Kd k' b' d := ⟨h.1, fun n hn => by
  obtain ⟨p, a, c, e, f⟩ := h.2 n (Nat.le_trans hk hn)
  exact ⟨p, a, c, e, Nat.le_trans f hb⟩⟩
theorem rp_all {n b : Nat} : ∀ {ds : List R.D}, (∀ x ∈ ds, Rp n b x) → ∃ ps, allOf (R.D.pq n) ds = some ps ∧ PyData.showableAll ps = true ∧ PyData.leavesShortAll 24 ps = true ∧ PyData.bulkAll ps ≤ (b + 1) * ds.length
  | [], _ => ⟨[], rfl, by rw [PyData.showableAll], by rw [PyData.leavesShortAll], by rw [PyData.bulkAll]; exact Nat.zero_le _⟩
  | d :: ds, h => by
    obtain ⟨p, a1, a2, a3, a4⟩ := h d List.mem_cons_self
    obtain ⟨ps, b1, b2, b3, b4⟩ := rp_all (ds := ds) fun x m => h x (List.mem_cons_of_mem _ m)
    refine ⟨p :: ps, by rw [allOf, a1, b1] <;> rfl, by rw [PyData.showableAll, a2, b2] <;> rfl, by rw [PyData.leavesShortAll, a3, b3] <;> rfl, ?_⟩
    rw [PyData.bulkAll, List.length_cons, Nat.mul_add, Nat.mul_one]
    omega
theorem okA_lst {ds : List R.D} (h : ∀ x ∈ ds, okA x) (hl : ds.length ≤ 5000) : okA (.lst ds) := fun n => by
  cases n with
  | zero => exact ⟨⟨_, rfl⟩, trivial⟩
  | succ n => exact ⟨⟨⟨_, rfl⟩, trivial⟩, hl, fun x m => h x m n⟩
theorem okA_tup {ds : List R.D} (h : ∀ x ∈ ds, okA x) (hl : ds.length ≤ 5000) : okA (.tup ds) := fun n => by
  cases n with
  | zero => exact ⟨⟨_, rfl⟩, trivial⟩
  | succ n => exact ⟨⟨⟨_, rfl⟩, trivial⟩, hl, fun x m => h x m n⟩
theorem kd_lst {k b m : Nat} {ds : List R.D} (h : ∀ x ∈ ds, Kd k b x) (hl : ds.length ≤ 5000) (hm : (b + 1) * ds.length ≤ m) : Kd (k + 1) m (.lst ds) := ⟨okA_lst (fun x mx => (h x mx).1) hl, fun n hn => by
  match n, hn with
  | n + 1, hn =>
    obtain ⟨ps, b1, b2, b3, b4⟩ := rp_all (n := n) (b := b) fun x mx => (h x mx).2 n (by omega)
    exact ⟨.list ps, by show (allOf (R.D.pq n) ds).map PyData.list = _; rw [b1] <;> rfl, by rw [PyData.showable]; exact b2, by rw [PyData.leavesShort]; exact b3, by rw [PyData.bulk]; exact Nat.le_trans b4 hm⟩⟩
theorem kd_tup {k b m : Nat} {ds : List R.D} (h : ∀ x ∈ ds, Kd k b x) (hl : ds.length ≤ 5000) (hm : (b + 1) * ds.length ≤ m) : Kd (k + 1) m (.tup ds) := ⟨okA_tup (fun x mx => (h x mx).1) hl, fun n hn => by
  match n, hn with
  | n + 1, hn =>
    obtain ⟨ps, b1, b2, b3, b4⟩ := rp_all (n := n) (b := b) fun x mx => (h x mx).2 n (by omega)
    exact ⟨.tuple ps, by show (allOf (R.D.pq n) ds).map PyData.tuple = _; rw [b1] <;> rfl, by rw [PyData.showable]; exact b2, by rw [PyData.leavesShort]; exact b3, by rw [PyData.bulk]; exact Nat.le_trans b4 hm⟩⟩
theorem kd_non : Kd 0 0 .non := ⟨fun n => by cases n <;> first | exact ⟨⟨_, rfl⟩, trivial⟩ | exact ⟨⟨⟨_, rfl⟩, trivial⟩, trivial⟩, fun n _ => ⟨.none, by cases n <;> rfl, by rw [PyData.showable], by rw [PyData.leavesShort], by rw [PyData.bulk]; exact Nat.le_refl _⟩⟩
theorem kd_bl (b : Bool) : Kd 0 0 (.bl b) := ⟨fun n => by cases n <;> first | exact ⟨⟨_, rfl⟩, trivial⟩ | exact ⟨⟨⟨_, rfl⟩, trivial⟩, trivial⟩, fun n _ => ⟨.bool b, by cases n <;> rfl, by rw [PyData.showable], by rw [PyData.leavesShort], by rw [PyData.bulk]; exact Nat.le_refl _⟩⟩
theorem kd_dct : Kd 0 0 (.dct [] []) := ⟨fun n => by cases n <;> first | exact ⟨⟨_, rfl⟩, trivial⟩ | exact ⟨⟨⟨_, rfl⟩, trivial⟩, trivial⟩, fun n _ => ⟨.dict [], by cases n <;> rfl, by rw [PyData.showable, PyData.showableKv], by rw [PyData.leavesShort, PyData.leavesShortKv], by rw [PyData.bulk, PyData.bulkKv]; exact Nat.le_refl _⟩⟩
theorem kd_str {z : PySem.Str} {b : Nat} (hl : z.cps.toList.length ≤ b) (hb : b ≤ 1000) (hc : ∀ c ∈ z.cps.toList, c < 4294967296) : Kd 0 b (.str z) := ⟨fun n => by
  have a : tyd (.str z) ∧ shortD (.str z) := ⟨⟨_, rfl⟩, by show z.cps.toList.length ≤ 1000; omega⟩
  cases n with
  | zero => exact a
  | succ n => exact ⟨a, trivial⟩, fun n _ => ⟨.str z, by cases n <;> rfl, by rw [PyData.showable], by
    rw [PyData.leavesShort, List.all_eq_true]
    exact fun c m => decide_eq_true (by have := hc c m; show c < 16 ^ 8; omega), by
    rw [PyData.bulk]
    have : z.cps.size = z.cps.toList.length := by simp
    omega⟩⟩
theorem kd_lit {z : PySem.Str} (h : (decide (z.cps.toList.length ≤ 9) && z.cps.toList.all fun c => decide (c < 4294967296)) = true) : Kd 0 9 (.str z) := by
  rw [Bool.and_eq_true, List.all_eq_true] at h
  exact kd_str (of_decide_eq_true h.1) (by omega) fun c m => of_decide_eq_true (h.2 c m)

theorem e_add {x y : DE} {env : R.Env} {a b : List R.D} {P : Rs → Prop} (hl : a.length + b.length ≤ sizeL) (hx : ∀ P : Rs → Prop, P (.nw (.lst (a.map .leaf))) → x env P) (hy : ∀ P : Rs → Prop, P (.nw (.lst (b.map .leaf))) → y env P) (h : P (.nw (.lst ((a ++ b).map .leaf)))) : mOp oAdd x y env P := hx _ (hy _ (by
  show oAdd (Rs.nw (.lst (a.map .leaf))).ffz (Rs.nw (.lst (b.map .leaf))).ffz P
  rw [ffz_lst, ffz_lst]
  exact w_add_ff hl h))
theorem e_addF {x y : DE} {env : R.Env} {a b : List R.D} {P : Rs → Prop} (hl : a.length + b.length ≤ sizeL) (hx : ∀ P : Rs → Prop, P (.fz (.lst a)) → x env P) (hy : ∀ P : Rs → Prop, P (.nw (.lst (b.map .leaf))) → y env P) (h : P (.nw (.lst ((a ++ b).map .leaf)))) : mOp oAdd x y env P := hx _ (hy _ (by
  show oAdd (Rs.fz (.lst a)) (Rs.nw (.lst (b.map .leaf))).ffz P
  rw [ffz_lst]
  exact w_add_ff hl h))
theorem e_mul {x : DE} {env : R.Env} {d : R.D} {r : Rs} {k : Int} {P : Rs → Prop} (h0 : 0 ≤ k) (h1 : k < 1000000) (er : r.ffz = .fz (.lst [d])) (hx : ∀ P : Rs → Prop, P r → x env P) (h : P (.nw (.lst ((List.replicate k.toNat d).map .leaf)))) : mOp oMul x (mC (.int k)) env P := hx _ (by
  show oMul r.ffz (.fz (.int k)) P
  rw [er, ← ffz_lst]
  exact w_repX d k h0 h1 h)
theorem one_lst {E : R.Env} {x : DE} {d : R.D} {P : Rs → Prop} (hx : ∀ P : Rs → Prop, P (.fz d) → x E P) (h : P (.nw (.lst ([d].map .leaf)))) : mLst (mCons x mNil) E P := hx _ ⟨[.leaf d], rfl, by show 1 ≤ sizeL; unfold sizeL; omega, h⟩
def Tellable (w : R.D) : Prop := ∃ p, w.pd 7 = some p
theorem tl_str (z : String) : Tellable (.str (z : PySem.Str)) := ⟨.str z, by
  show (if PyData.strOk (z : PySem.Str) = true then _ else _) = _
  rw [if_pos (strOk_of z)]⟩
theorem tl_all : ∀ {ws : List R.D}, (∀ w ∈ ws, Tellable w) → ∃ ps, allOf (D.pd 7) ws = some ps ∧ allOfT (OT.pd 7) (ws.map .leaf) = some ps
  | [], _ => ⟨[], rfl, rfl⟩
  | w :: ws, h => by
    obtain ⟨p, hp⟩ := h w List.mem_cons_self
    obtain ⟨ps, h1, h2⟩ := tl_all fun x m => h x (List.mem_cons_of_mem _ m)
    exact ⟨p :: ps, by rw [allOf, hp, h1] <;> rfl, by rw [List.map_cons, allOfT, show (OT.leaf w).pd 7 = some p from hp, h2] <;> rfl⟩
theorem br_same {ws : List R.D} {y : Rs} {neg : Bool} {Q : Rs → Prop} (h : ∀ w ∈ ws, Tellable w) (hy : y = .br (.lst (ws.map .leaf)) ∨ y = .fz (.lst ws)) (q : Q (.fz (.bl (true != neg)))) : oEq neg (.br (.lst (ws.map .leaf))) y Q := by
  obtain ⟨ps, h1, h2⟩ := tl_all h
  have e1 : (R.D.lst ws).pd 8 = some (.list ps) := by
    show (allOf (D.pd 7) ws).map PyData.list = _
    rw [h1] <;> rfl
  have e2 : (OT.lst (ws.map .leaf)).pd 8 = some (.list ps) := by
    show (allOfT (OT.pd 7) (ws.map .leaf)).map PyData.list = _
    rw [h2] <;> rfl
  rcases hy with rfl | rfl
  · exact oEq_same e1 e2 e2 q
  · exact oEq_same e1 e2 e1 q
theorem fz_same {ws : List R.D} {neg : Bool} {Q : Rs → Prop} (h : ∀ w ∈ ws, Tellable w) (q : Q (.fz (.bl (true != neg)))) : oEq neg (.fz (.lst ws)) (.fz (.lst ws)) Q := by
  obtain ⟨ps, h1, h2⟩ := tl_all h
  have e1 : (R.D.lst ws).pd 8 = some (.list ps) := by
    show (allOf (D.pd 7) ws).map PyData.list = _
    rw [h1] <;> rfl
  exact oEq_same e1 e1 e1 q

-- uses cups blocks base rounds memcount cycfz states draws strs gen st ku lp
-- drop F_law_draw_state F_law_counter F_law_empty_cups
def F_law (_ : Cs) : Spec1 := fun ss Q => ∃ ns : List Int, ss = [fz (scrD ns)] ∧ ns.length ≤ 63 ∧ Q (.fz (.bl true))
def F_common_divisor (_ : Cs) : Spec1 := fun ss Q => ∃ a b : Nat, ss = [fz (nI a), fz (nI b)] ∧ Q (.fz (nI (Nat.gcd a b)))
def F_common_multiple (_ : Cs) : Spec1 := fun ss Q => ∃ ks : List Nat, ss = [fz (nL ks)] ∧ (∀ k ∈ ks, 1 ≤ k ∧ k ≤ 64) ∧ Q (.fz (nI (lcmL ks)))
def perN (sz fw : List Nat) (n : Nat) : Nat := lcmL ((cyL sz fw n).map List.length) * prodL sz
def F_period (cs : Cs) : Spec1 := fun ss Q => ∃ sz fw n, Row sz fw ∧ ss = [fz (cupD cs sz fw), fz (nI n)] ∧ least sz (fw.length + 1) ≤ n ∧ n ≤ 40 ∧ Q (.fz (nI (perN sz fw n)))
def F_state_count (cs : Cs) : Spec1 := fun ss Q => ∃ sz fw n, Row sz fw ∧ ss = [fz (cupD cs sz fw), fz (nI n)] ∧ least sz (fw.length + 1) ≤ n ∧ n ≤ 40 ∧ Q (.fz (nI (prodL sz * facN n)))
def F_X_require_cups (cs : Cs) : Spec1 := fun ss Q => ∃ d b, ((b = true ∧ ∃ sz fw, d = cupD cs sz fw) ∨ (b = false ∧ tyd d)) ∧ ss = [fz d] ∧ Q (.fz (if b then .non else .exn 7))
def F_X_simplify (_ : Cs) : Spec1 := fun ss Q => ∃ d, ss = [fz d] ∧ tyd d ∧ Q (.fz (.exn 7))
def F_X_next_state (_ : Cs) : Spec1 := fun ss Q => ∃ d e, ss = [fz d, fz e] ∧ tyd d ∧ Q (.fz (.exn 7))
def F_X_counter_value (_ : Cs) : Spec1 := fun ss Q => ∃ d e, ss = [fz d, fz e] ∧ tyd d ∧ Q (.fz (.exn 7))
def F_X_state_before (_ : Cs) : Spec1 := fun ss Q => ∃ d e f, ss = [fz d, fz e, fz f] ∧ tyd d ∧ Q (.fz (.exn 7))
def F_X_block_order (_ : Cs) : Spec1 := fun ss Q => ∃ d e f, ss = [fz d, fz e, fz f] ∧ tyd d ∧ Q (.fz (.exn 7))
def F_X_round_order (_ : Cs) : Spec1 := fun ss Q => ∃ d e, ss = [fz d, fz e] ∧ tyd d ∧ Q (.fz (.exn 7))
def F_X_round_cycles (_ : Cs) : Spec1 := fun ss Q => ∃ d e, ss = [fz d, fz e] ∧ tyd d ∧ Q (.fz (.exn 7))
def F_X_period (_ : Cs) : Spec1 := fun ss Q => ∃ d e, ss = [fz d, fz e] ∧ tyd d ∧ Q (.fz (.exn 7))
def F_X_state_count (_ : Cs) : Spec1 := fun ss Q => ∃ d e, ss = [fz d, fz e] ∧ tyd d ∧ Q (.fz (.exn 7))
def F_X_orbit_count (_ : Cs) : Spec1 := fun ss Q => ∃ d e, ss = [fz d, fz e] ∧ tyd d ∧ Q (.fz (.exn 7))
def F_X_first_difference (cs : Cs) : Spec1 := fun ss Q => ∃ d e f, ss = [fz d, fz e, fz f] ∧ (tyd d ∨ ((∃ sz fw, d = cupD cs sz fw) ∧ tyd e)) ∧ Q (.fz (.exn 7))
def F_X_Simulation_init (_ : Cs) : R.Spec := fun ss Q => ∃ d e f r0, ss = [some r0, fz d, fz e, fz f] ∧ tyd d ∧ Q (.fz (.exn 7)) [some r0, none, none, none]
def leD (m : Int) : R.D → Bool
  | .int i => decide (i ≤ m)
  | _ => false
def ltD (m : Int) : R.D → Bool
  | .int i => decide (i < m)
  | _ => false
def toI : R.D → Int
  | .int i => i
  | _ => 0
def gd (x : R.D) : Bool := isIntD 1 x && leD 9 x
def gf (m : Nat) (x : R.D) : Bool := isIntD 0 x && ltD m x
def sizesD : R.D → Bool
  | .lst ds => (decide (1 ≤ ds.length) && decide (ds.length ≤ 30)) && (ds.all gd && decide ((ds.map toI).sum ≤ (ds.length : Nat) + 30))
  | _ => false
def fwD (sz : List Nat) : R.D → Bool
  | .lst ds => decide (ds.length + 1 = sz.length) && ((List.range ds.length).map fun k => gf (pk sz k) (ds.getD k .non)).all id
  | _ => false
def F_G_are_sizes (_ : Cs) : Spec1 := fun ss Q => ∃ d, okD 1 d ∧ ss = [fz d] ∧ Q (.fz (.bl (sizesD d)))
def F_G_are_forward_indices (_ : Cs) : Spec1 := fun ss Q => ∃ sz fw d, Row sz fw ∧ okD 1 d ∧ ss = [fz d, fz (nL sz)] ∧ Q (.fz (.bl (fwD sz d)))
def F_E_CupRow_init (_ : Cs) : R.Spec := fun ss Q => ∃ d e r0, ss = [some r0, fz d, fz e] ∧ ((okD 1 d ∧ sizesD d = false ∧ Q (.fz (.exn 8)) [some r0, none, none]) ∨ (∃ sz fw, Row sz fw ∧ d = nL sz ∧ okD 1 e ∧ e ≠ .non ∧ fwD sz e = false ∧ Q (.fz (.exn 9)) [some r0, none, none]))
def BadSz (d : R.D) : Prop := sizesD d = false ∧ Kd 2 5000 d
def BadFw (sz : List Nat) (e : R.D) : Prop := fwD sz e = false ∧ e ≠ .non ∧ Kd 2 5000 e
def F_law_invalid_sizes (_ : Cs) : Spec1 := fun ss Q => ∃ ps sz fw, Row sz fw ∧ ss = [fz (.vol 0 ps), fz (nL sz)] ∧ ∀ d, BadSz d → Q (.fz d)
def F_law_invalid_indices (_ : Cs) : Spec1 := fun ss Q => ∃ ps sz fw, Row sz fw ∧ ss = [fz (.vol 0 ps), fz (nL sz), fz (nL fw)] ∧ ∀ d, BadFw sz d → Q (.fz d)
def wCs : List R.D := List.replicate 13 (.str "cups")
def F_law_outcomes (_ : Cs) : Spec1 := fun ss Q => ∃ d, tyd d ∧ ss = [fz d] ∧ Q (.nw (.lst (wCs.map .leaf)))
theorem sizes_row {sz fw : List Nat} (hR : Row sz fw) : sizesD (nL sz) = true := by
  have l0 := hR.l0
  have l1 := hR.l1
  have sm := hR.sm
  show ((decide (1 ≤ (sz.map nI).length) && decide ((sz.map nI).length ≤ 30)) && ((sz.map nI).all gd && decide ((((sz.map nI).map toI).sum : Int) ≤ ((sz.map nI).length : Nat) + 30))) = true
  have e : ((sz.map nI).map toI).sum = ((sz.sum : Nat) : Int) := by
    rw [List.map_map, ← sum_cast] <;> rfl
  rw [e, List.length_map, decide_eq_true (by omega), decide_eq_true (by omega), decide_eq_true (by omega), Bool.and_true, Bool.and_true, Bool.true_and, List.all_map, List.all_eq_true]
  intro s m
  have := hR.s1 s m
  show (decide ((1 : Int) ≤ (s : Int)) && decide ((s : Int) ≤ 9)) = true
  rw [decide_eq_true (by omega), decide_eq_true (by omega)] <;> rfl
theorem all_good : ∀ {ds : List R.D}, ds.all gd = true → ∃ ns : List Int, ds = ns.map R.D.int ∧ ds.map toI = ns
  | [], _ => ⟨[], rfl, rfl⟩
  | x :: ds, h => by
    rw [List.all_cons, Bool.and_eq_true] at h
    obtain ⟨ns, e1, e2⟩ := all_good h.2
    cases x with
    | int i => exact ⟨i :: ns, by rw [e1] <;> rfl, by rw [List.map_cons, e2] <;> rfl⟩
    | _ => cases h.1
theorem ints_int : ∀ ns : List Int, allOf D.int? (ns.map R.D.int) = some ns
  | [] => rfl
  | i :: ns => by rw [List.map_cons, allOf, ints_int ns] <;> rfl
theorem okl {ds : List R.D} (hl : ds.length ≤ 5000) (h : ∀ x ∈ ds, tyd x ∧ shortD x) : okD 1 (.lst ds) := ⟨⟨⟨_, rfl⟩, trivial⟩, hl, h⟩
theorem mIf_ff {t : DT} {a b : DE} {env : R.Env} {Q : Rs → Prop} (h : ∀ P : Bool → Prop, P false → t env P) (q : b env Q) : mIf t a b env Q := h _ (by show (if false = true then _ else _); rw [if_neg Bool.false_ne_true]; exact q)
theorem oEq_nilJ {neg : Bool} {l : List Nat} {Q : Rs → Prop} (h : Q (.fz (.bl (l.isEmpty != neg)))) : oEq neg (.fz (nL l)) (.fz (.lst [])) Q := by
  refine ⟨.list (l.map fun (k : Nat) => PyData.int (k : Int)), .list [], ?_, rfl, ?_⟩
  · show (allOf (D.pd 7) (l.map nI)).map PyData.list = _
    rw [pd_ints] <;> rfl
  · have e : PyData.eqv (.list (l.map fun (k : Nat) => PyData.int (k : Int))) (.list []) = l.isEmpty := by
      cases l with
      | nil => rw [List.map_nil, PyData.eqv, PyData.eqvAll] <;> rfl
      | cons a l =>
        rw [List.map_cons, PyData.eqv, PyData.eqvAll]
        · rfl
        all_goals simp
    rw [e]
    exact h
theorem eq0_of {x k : Int} {P : Bool → Prop} (h : P (decide (x = k))) : oEq false (.fz (.int x)) (.fz (.int k)) fun | .fz (.bl b) => P b | _ => False := by
  refine ⟨.int x, .int k, rfl, rfl, ?_⟩
  rw [PyData.eqv, Bool.bne_false]
  exact h
def intB (i : Int) : Bool := PyData.showable (.int i) && PyData.leavesShort 24 (.int i)
theorem kd_int {i : Int} (h : intB i = true) : Kd 0 0 (.int i) := by
  unfold intB at h
  rw [Bool.and_eq_true] at h
  exact ⟨fun n => by cases n <;> first | exact ⟨⟨_, rfl⟩, trivial⟩ | exact ⟨⟨⟨_, rfl⟩, trivial⟩, trivial⟩, fun n _ => ⟨.int i, by cases n <;> rfl, h.1, h.2, by rw [PyData.bulk]; exact Nat.le_refl _⟩⟩
theorem kd_small {n : Nat} (h : n ≤ 40) : Kd 0 0 (nI n) := kd_int (List.all_eq_true.mp (show ((List.range 41).all fun n => intB ((n : Nat) : Int)) = true by decide +kernel) n (List.mem_range.mpr (by omega)))
theorem kd_nL {l : List Nat} (h : ∀ n ∈ l, n ≤ 40) (hl : l.length ≤ 40) : Kd 1 40 (nL l) := kd_lst (k := 0) (b := 0) (fun x m => by
  obtain ⟨n, hn, rfl⟩ := List.mem_map.mp m
  exact kd_small (h n hn)) (by rw [List.length_map]; omega) (by rw [List.length_map]; omega)
theorem kd_nT {l : List Nat} (h : ∀ n ∈ l, n ≤ 40) (hl : l.length ≤ 40) : Kd 1 40 (.tup (l.map nI)) := kd_tup (k := 0) (b := 0) (fun x m => by
  obtain ⟨n, hn, rfl⟩ := List.mem_map.mp m
  exact kd_small (h n hn)) (by rw [List.length_map]; omega) (by rw [List.length_map]; omega)
theorem kd_mid {a b : List Nat} {x : R.D} (ha : ∀ n ∈ a, n ≤ 40) (hb : ∀ n ∈ b, n ≤ 40) (hl : a.length + b.length ≤ 40) (hx : Kd 1 40 x) : Kd 2 5000 (.lst (a.map nI ++ [x] ++ b.map nI)) := kd_lst (k := 1) (b := 40) (fun y m => by
  rcases List.mem_append.mp m with m | m
  · rcases List.mem_append.mp m with m | m
    · obtain ⟨n, hn, rfl⟩ := List.mem_map.mp m
      exact (kd_small (ha n hn)).le (by omega) (by omega)
    · rw [List.mem_singleton.mp m]; exact hx
  · obtain ⟨n, hn, rfl⟩ := List.mem_map.mp m
    exact (kd_small (hb n hn)).le (by omega) (by omega)) (by rw [List.length_append, List.length_append, List.length_map, List.length_map]; show _ + 1 + _ ≤ 5000; omega) (by rw [List.length_append, List.length_append, List.length_map, List.length_map]; show 41 * (_ + 1 + _) ≤ 5000; omega)
theorem row_le {sz fw : List Nat} (hR : Row sz fw) : (∀ n ∈ sz, n ≤ 40) ∧ (∀ n ∈ fw, n ≤ 40) ∧ sz.length ≤ 30 ∧ fw.length ≤ 30 := by
  have hfl := hR.fl
  have h30 := hR.l1
  refine ⟨fun n m => by have := (hR.s1 n m).2; omega, fun n m => ?_, h30, by omega⟩
  obtain ⟨i, hi, rfl⟩ := List.getElem_of_mem m
  have := hR.fi i hi
  have hs : i < sz.length := by omega
  have h9 := (hR.s1 _ (List.getElem_mem hs)).2
  rw [pk_lt hi, pk_lt hs] at this
  omega
theorem kd_one {x : R.D} (h : Kd 0 0 x) : Kd 1 40 (.lst [x]) := kd_lst (k := 0) (b := 0) (fun y m => by rw [List.mem_singleton.mp m]; exact h) (by show 1 ≤ 5000; omega) (by show 1 * 1 ≤ 40; omega)
theorem kd_oneT {x : R.D} (h : Kd 0 0 x) : Kd 1 40 (.tup [x]) := kd_tup (k := 0) (b := 0) (fun y m => by rw [List.mem_singleton.mp m]; exact h) (by show 1 ≤ 5000; omega) (by show 1 * 1 ≤ 40; omega)
theorem kd_rep {n : Nat} {i : Int} (h : intB i = true) (hn : n ≤ 40) : Kd 1 40 (.lst (List.replicate n (.int i))) := kd_lst (k := 0) (b := 0) (fun y m => by rw [(List.mem_replicate.mp m).2]; exact kd_int h) (by rw [List.length_replicate]; omega) (by rw [List.length_replicate]; omega)
theorem kd_ints {l : List Int} (h : ∀ i ∈ l, intB i = true) (hl : l.length ≤ 40) : Kd 1 40 (.lst (l.map R.D.int)) := kd_lst (k := 0) (b := 0) (fun y m => by
  obtain ⟨i, hi, rfl⟩ := List.mem_map.mp m
  exact kd_int (h i hi)) (by rw [List.length_map]; omega) (by rw [List.length_map]; omega)
def szL (sz : List Nat) : List R.D := [.non, .tup [], .tup (sz.map nI), .dct [] [], .str "12", .int 2, .bl true, .lst [], .lst (List.replicate 31 (.int 1)), .lst (List.replicate 31 (.int 2)), .lst [.int 9, .int 9, .int 9, .int 8], .lst (List.replicate 11 (.int 4)), .lst (List.replicate 4 (.int 9) ++ [.int 1])]
theorem szL_ok {sz fw : List Nat} (hR : Row sz fw) : ∀ d ∈ szL sz, BadSz d := fun d m => by
  obtain ⟨a1, a2, a3, a4⟩ := row_le hR
  unfold szL at m
  simp only [List.mem_cons, List.not_mem_nil, or_false] at m
  rcases m with rfl | rfl | rfl | rfl | rfl | rfl | rfl | rfl | rfl | rfl | rfl | rfl | rfl
  · exact ⟨rfl, kd_non.le (by omega) (by omega)⟩
  · exact ⟨rfl, (kd_nT (l := []) (fun _ m => nomatch m) (Nat.zero_le _)).le (by omega) (by omega)⟩
  · exact ⟨rfl, (kd_nT a1 (by omega)).le (by omega) (by omega)⟩
  · exact ⟨rfl, kd_dct.le (by omega) (by omega)⟩
  · exact ⟨rfl, (kd_lit (by decide +kernel)).le (by omega) (by omega)⟩
  · exact ⟨rfl, (kd_int (by decide +kernel)).le (by omega) (by omega)⟩
  · exact ⟨rfl, (kd_bl true).le (by omega) (by omega)⟩
  · exact ⟨rfl, (kd_nL (l := []) (fun _ m => nomatch m) (Nat.zero_le _)).le (by omega) (by omega)⟩
  · exact ⟨by decide +kernel, (kd_rep (by decide +kernel) (by omega)).le (by omega) (by omega)⟩
  · exact ⟨by decide +kernel, (kd_rep (by decide +kernel) (by omega)).le (by omega) (by omega)⟩
  · exact ⟨by decide +kernel, (kd_ints (l := [9, 9, 9, 8]) (by decide +kernel) (by show 4 ≤ 40; omega)).le (by omega) (by omega)⟩
  · exact ⟨by decide +kernel, (kd_rep (by decide +kernel) (by omega)).le (by omega) (by omega)⟩
  · exact ⟨by decide +kernel, (kd_ints (l := [9, 9, 9, 9, 1]) (by decide +kernel) (by show 5 ≤ 40; omega)).le (by omega) (by omega)⟩
def szX : List R.D := [.int 0, .int (-1), .int 10, .non, .bl true, .str "2", .lst [.int 2], .tup [.int 2], .int (10 ^ 20), .bl false, .int (-(10 ^ 20))]
theorem szX_ok : ∀ x ∈ szX, gd x = false ∧ Kd 1 40 x := fun x m => by
  unfold szX at m
  simp only [List.mem_cons, List.not_mem_nil, or_false] at m
  rcases m with rfl | rfl | rfl | rfl | rfl | rfl | rfl | rfl | rfl | rfl | rfl
  · exact ⟨by decide +kernel, (kd_int (by decide +kernel)).le (by omega) (by omega)⟩
  · exact ⟨by decide +kernel, (kd_int (by decide +kernel)).le (by omega) (by omega)⟩
  · exact ⟨by decide +kernel, (kd_int (by decide +kernel)).le (by omega) (by omega)⟩
  · exact ⟨rfl, kd_non.le (by omega) (by omega)⟩
  · exact ⟨rfl, (kd_bl true).le (by omega) (by omega)⟩
  · exact ⟨rfl, (kd_lit (by decide +kernel)).le (by omega) (by omega)⟩
  · exact ⟨rfl, kd_one (kd_int (by decide +kernel))⟩
  · exact ⟨rfl, kd_oneT (kd_int (by decide +kernel))⟩
  · exact ⟨by decide +kernel, (kd_int (by decide +kernel)).le (by omega) (by omega)⟩
  · exact ⟨rfl, (kd_bl false).le (by omega) (by omega)⟩
  · exact ⟨by decide +kernel, (kd_int (by decide +kernel)).le (by omega) (by omega)⟩
theorem sizes_mid {a b : List R.D} {x : R.D} (h : gd x = false) : sizesD (.lst (a ++ [x] ++ b)) = false := by
  show (_ && ((a ++ [x] ++ b).all gd && _)) = false
  rw [List.all_append, List.all_append, List.all_cons, h, Bool.false_and, Bool.and_false, Bool.false_and, Bool.false_and, Bool.and_false]
def fwL (fw : List Nat) : List R.D := [.tup [], .tup (fw.map nI), .dct [] [], .str "0", .int 0, .bl true, .lst (fw.map nI ++ [.int 0]), .lst [nL fw]]
theorem fw_len {sz fw : List Nat} (hR : Row sz fw) {ds : List R.D} (h : ds.length ≠ fw.length) : fwD sz (.lst ds) = false := by
  have hfl := hR.fl
  show (decide (ds.length + 1 = sz.length) && _) = false
  rw [decide_eq_false (by omega), Bool.false_and]
theorem fw_at {sz : List Nat} {ds : List R.D} {k : Nat} (hk : k < ds.length) (h : gf (pk sz k) (ds.getD k .non) = false) : fwD sz (.lst ds) = false := by
  show (_ && ((List.range ds.length).map fun k => gf (pk sz k) (ds.getD k .non)).all id) = false
  have : ((List.range ds.length).map fun k => gf (pk sz k) (ds.getD k .non)).all id = false := by
    rw [List.all_eq_false]
    exact ⟨_, List.mem_map_of_mem (List.mem_range.mpr hk), by rw [h]; exact Bool.false_ne_true⟩
  rw [this, Bool.and_false]
theorem fwL_ok {sz fw : List Nat} (hR : Row sz fw) : ∀ d ∈ fwL fw, BadFw sz d := fun d m => by
  obtain ⟨a1, a2, a3, a4⟩ := row_le hR
  unfold fwL at m
  simp only [List.mem_cons, List.not_mem_nil, or_false] at m
  rcases m with rfl | rfl | rfl | rfl | rfl | rfl | rfl | rfl
  · exact ⟨rfl, (fun w => by cases w), (kd_nT (l := []) (fun _ m => nomatch m) (Nat.zero_le _)).le (by omega) (by omega)⟩
  · exact ⟨rfl, (fun w => by cases w), (kd_nT a2 (by omega)).le (by omega) (by omega)⟩
  · exact ⟨rfl, (fun w => by cases w), kd_dct.le (by omega) (by omega)⟩
  · exact ⟨rfl, (fun w => by cases w), (kd_lit (by decide +kernel)).le (by omega) (by omega)⟩
  · exact ⟨rfl, (fun w => by cases w), (kd_int (by decide +kernel)).le (by omega) (by omega)⟩
  · exact ⟨rfl, (fun w => by cases w), (kd_bl true).le (by omega) (by omega)⟩
  · refine ⟨fw_len hR (by rw [List.length_append, List.length_map]; show _ + 1 ≠ _; omega), (fun w => by cases w), ?_⟩
    have := kd_mid (b := []) (x := .int 0) a2 (fun _ m => nomatch m) (by show _ + 0 ≤ 40; omega) ((kd_int (by decide +kernel)).le (by omega) (by omega))
    rwa [List.map_nil, List.append_nil] at this
  · refine ⟨?_, (fun w => by cases w), kd_lst (k := 1) (b := 40) (fun y m => by rw [List.mem_singleton.mp m]; exact kd_nL a2 (by omega)) (by show 1 ≤ 5000; omega) (by show 41 * 1 ≤ 5000; omega)⟩
    by_cases z : fw.length = 1
    · exact fw_at (k := 0) (Nat.zero_lt_one) rfl
    · exact fw_len hR (fun w => z w.symm)
def fwX (s : Nat) : List R.D := [nI s, .int (-1), .non, .bl true, .str "0", .lst [.int 0], .tup [.int 0], .int (10 ^ 20), .bl false, nI (s + 1)]
theorem fwX_ok {s : Nat} (h9 : s ≤ 9) : ∀ x ∈ fwX s, gf s x = false ∧ Kd 1 40 x := fun x m => by
  unfold fwX at m
  simp only [List.mem_cons, List.not_mem_nil, or_false] at m
  rcases m with rfl | rfl | rfl | rfl | rfl | rfl | rfl | rfl | rfl | rfl
  · exact ⟨by show (_ && decide ((s : Int) < (s : Int))) = false; rw [decide_eq_false (by omega), Bool.and_false], (kd_small (by omega)).le (by omega) (by omega)⟩
  · exact ⟨rfl, (kd_int (by decide +kernel)).le (by omega) (by omega)⟩
  · exact ⟨rfl, kd_non.le (by omega) (by omega)⟩
  · exact ⟨rfl, (kd_bl true).le (by omega) (by omega)⟩
  · exact ⟨rfl, (kd_lit (by decide +kernel)).le (by omega) (by omega)⟩
  · exact ⟨rfl, kd_one (kd_int (by decide +kernel))⟩
  · exact ⟨rfl, kd_oneT (kd_int (by decide +kernel))⟩
  · refine ⟨?_, (kd_int (by decide +kernel)).le (by omega) (by omega)⟩
    show (_ && decide (((10 : Int) ^ 20) < (s : Int))) = false
    have : (10 : Int) ^ 20 = 100000000000000000000 := by decide
    rw [decide_eq_false (by omega), Bool.and_false]
  · exact ⟨rfl, (kd_bl false).le (by omega) (by omega)⟩
  · exact ⟨by show (_ && decide (((s + 1 : Nat) : Int) < (s : Int))) = false; rw [decide_eq_false (by omega), Bool.and_false], (kd_small (by omega)).le (by omega) (by omega)⟩
theorem getD_mid {a b : List R.D} {x : R.D} {n : Nat} (h : a.length = n) : (a ++ [x] ++ b).getD n .non = x := by
  rw [List.getD_eq_getElem?_getD, List.append_assoc, List.getElem?_append_right (by omega), h, Nat.sub_self] <;> rfl
theorem row2 : Row [2] [] := ⟨by decide, by decide, by decide, by decide, rfl, fun i h => absurd h (Nat.not_lt_zero i)⟩
theorem mk8K {cs : Cs} {E : R.Env} {P : Rs → Prop} {i j : Nat} {d e : R.D} (ei : E[i]? = some (fz d)) (ej : E[j]? = some (fz e)) (hb : BadSz d) (h : P (.fz (wd_law_outcome (some 8)))) : mOut wd_law_outcome ks_law_outcome (mMakeKX 3 cs.CupRow (orI (F_E_CupRow_init cs) (F_CupRow_init cs)) 1 1 (mCons (mVar i) mNil) (mCons (mVar j) mNil)) E P := ⟨_, ei, _, ej, rfl, rfl, rfl, .inl ⟨d, e, _, rfl, .inl ⟨hb.2.1 1, hb.1, by decide, h⟩⟩⟩
theorem mk8 {cs : Cs} {E : R.Env} {P : Rs → Prop} {i : Nat} {d : R.D} (ei : E[i]? = some (fz d)) (hb : BadSz d) (h : P (.fz (wd_law_outcome (some 8)))) : mOut wd_law_outcome ks_law_outcome (mMakeX 3 cs.CupRow (orI (F_E_CupRow_init cs) (F_CupRow_init cs)) (mCons (mVar i) mNil) [.non]) E P := ⟨_, ei, rfl, .inl ⟨d, .non, _, rfl, .inl ⟨hb.2.1 1, hb.1, by decide, h⟩⟩⟩
theorem mk9 {cs : Cs} {E : R.Env} {P : Rs → Prop} {i j : Nat} {sz fw : List Nat} {e : R.D} (ei : E[i]? = some (fz (nL sz))) (ej : E[j]? = some (fz e)) (hR : Row sz fw) (hb : BadFw sz e) (h : P (.fz (wd_law_outcome (some 9)))) : mOut wd_law_outcome ks_law_outcome (mMakeKX 3 cs.CupRow (orI (F_E_CupRow_init cs) (F_CupRow_init cs)) 1 1 (mCons (mVar i) mNil) (mCons (mVar j) mNil)) E P := ⟨_, ei, _, ej, rfl, rfl, rfl, .inl ⟨nL sz, e, _, rfl, .inr ⟨sz, fw, hR, rfl, hb.2.2.1 1, hb.2.1, hb.1, by decide, h⟩⟩⟩
theorem mkOkK {cs : Cs} {E : R.Env} {P : Rs → Prop} {a b : DE} {ra rb : Rs} {sz fw : List Nat} (ea : ra.lend = .fz (nL sz)) (eb : rb.lend = .fz (nL fw)) (ha : ∀ P : Rs → Prop, P ra → a E P) (hb : ∀ P : Rs → Prop, P rb → b E P) (hR : Row sz fw) (h : P (.fz (wd_law_outcome none))) : mOut wd_law_outcome ks_law_outcome (mMakeKX 3 cs.CupRow (orI (F_E_CupRow_init cs) (F_CupRow_init cs)) 1 1 (mCons a mNil) (mCons b mNil)) E P := ha _ (hb _ ⟨rfl, rfl, rfl, .inr (by
  show F_CupRow_init cs [_, some ra.lend, some rb.lend] _
  rw [ea, eb]
  exact ⟨sz, fw, nL fw, hR, rfl, .inl rfl, rfl, _, rfl, h⟩)⟩)
theorem mkOk {cs : Cs} {E : R.Env} {P : Rs → Prop} {a : DE} {ra : Rs} {sz : List Nat} (ea : ra.lend = .fz (nL sz)) (ha : ∀ P : Rs → Prop, P ra → a E P) (hR : Row sz (List.replicate (sz.length - 1) 0)) (h : P (.fz (wd_law_outcome none))) : mOut wd_law_outcome ks_law_outcome (mMakeX 3 cs.CupRow (orI (F_E_CupRow_init cs) (F_CupRow_init cs)) (mCons a mNil) [.non]) E P := ha _ ⟨rfl, .inr (by
  show F_CupRow_init cs [_, some ra.lend, fz .non] _
  rw [ea]
  exact ⟨sz, _, .non, hR, rfl, .inr ⟨rfl, rfl⟩, rfl, _, rfl, h⟩)⟩
theorem row3 : Row (List.replicate 15 3) (List.replicate 14 0) := ⟨by decide, by decide, by decide, by decide, rfl, by decide⟩
theorem row30 : Row (List.replicate 30 2) (List.replicate 29 1) := ⟨by decide, by decide, by decide, by decide, rfl, by decide⟩
theorem pick8 {sz fw : List Nat} : (Rs.nw (.lst [.leaf .non, .leaf (nL sz), .tup [.leaf (nL sz), .leaf (nL fw)], .leaf (.str "cups"), .leaf (.int 5), .leaf (.bl true), .leaf (.dct [] []), .lst []])).ffz = .fz (.lst [.non, nL sz, .tup [nL sz, nL fw], .str "cups", .int 5, .bl true, .dct [] [], .lst []]) := ffz_nw (by simp only [OT.fzd, fzdAll] <;> rfl)

theorem as0 {x y z : OT} : assoc "size_tuple" cupN [x, y, z] = some x := by
  show (if ("size_tuple" : PySem.Str) = "size_tuple" then _ else _) = _
  rw [if_pos rfl]
theorem as1 {x y z : OT} : assoc "forward_tuple" cupN [x, y, z] = some y := by
  show (if ("size_tuple" : PySem.Str) = "forward_tuple" then _ else if ("forward_tuple" : PySem.Str) = "forward_tuple" then _ else _) = _
  rw [if_neg (by decide), if_pos rfl]
theorem as2 {x y z : OT} : assoc "weights" cupN [x, y, z] = some z := by
  show (if ("size_tuple" : PySem.Str) = "weights" then _ else if ("forward_tuple" : PySem.Str) = "weights" then _ else if ("weights" : PySem.Str) = "weights" then _ else _) = _
  rw [if_neg (by decide), if_neg (by decide), if_pos rfl]
theorem pk1 {f g : PySem.Str} {x t : OT} (h : f ≠ g) : R.putK g t [f] [x] = ([f, g], [x, t]) := by
  show (if f = g then _ else _) = _
  rw [if_neg h] <;> rfl
theorem pk2 {f g k : PySem.Str} {x y t : OT} (h : f ≠ k) (h2 : g ≠ k) : R.putK k t [f, g] [x, y] = ([f, g, k], [x, y, t]) := by
  show (if f = k then _ else (f :: (R.putK k t [g] [y]).1, x :: (R.putK k t [g] [y]).2)) = _
  rw [if_neg h, pk1 h2] <;> rfl
theorem pkc1 {x t : OT} : R.putK "forward_tuple" t (["size_tuple"] : List PySem.Str) [x] = ((["size_tuple", "forward_tuple"] : List PySem.Str), [x, t]) := pk1 (by decide)
theorem pkc2 {x y t : OT} : R.putK "weights" t (["size_tuple", "forward_tuple"] : List PySem.Str) [x, y] = ((["size_tuple", "forward_tuple", "weights"] : List PySem.Str), [x, y, t]) := pk2 (by decide) (by decide)
theorem ix_w : R.idx "weights" cupN = some 2 := by
  show (if ("size_tuple" : PySem.Str) = "weights" then _ else Option.map _ (if ("forward_tuple" : PySem.Str) = "weights" then _ else Option.map _ (if ("weights" : PySem.Str) = "weights" then _ else _))) = _
  rw [if_neg (by decide), if_neg (by decide), if_pos rfl] <;> rfl
theorem cup_lend (cs : Cs) (sz fw : List Nat) : (Rs.nw (cupT cs sz fw)).lend = .fz (cupD cs sz fw) := by
  unfold Rs.lend Rs.ffz
  have e : (cupT cs sz fw).fzd = some (cupD cs sz fw) := by
    unfold cupT
    rw [OT.fzd, fzdAll, fzdAll, fzdAll, fzdAll, OT.fzd, OT.fzd, leafs_nI, fzd_lst] <;> rfl
  show (match (match (cupT cs sz fw).fzd with | some d => Rs.fz d | none => _) with | .fz d => Rs.fz d | .nw t => .ex t | .br t => .ex t | .ex t => .ex t) = _
  rw [e]


theorem ab0 {x y z : OT} : assoc "cups" blkN [x, y, z] = some x := by
  show (if ("cups" : PySem.Str) = "cups" then _ else _) = _
  rw [if_pos rfl]
theorem fo {x y z : R.D} : fldD "orders" blkN [x, y, z] = some y := by
  show (if ("cups" : PySem.Str) = "orders" then _ else if ("orders" : PySem.Str) = "orders" then _ else _) = _
  rw [if_neg (by decide), if_pos rfl]
theorem pkb1 {x t : OT} : R.putK "orders" t (["cups"] : List PySem.Str) [x] = ((["cups", "orders"] : List PySem.Str), [x, t]) := pk1 (by decide)
theorem pkb2 {x y t : OT} : R.putK "visits" t (["cups", "orders"] : List PySem.Str) [x, y] = ((["cups", "orders", "visits"] : List PySem.Str), [x, y, t]) := pk2 (by decide) (by decide)
theorem nc_fill : List.contains blkN "filling" = false := by decide
theorem nc_ent : List.contains blkN "entering" = false := by decide

def F_X_CupRow_init (cs : Cs) : R.Spec := orI (F_E_CupRow_init cs) (F_CupRow_init cs)
def m_common_divisor (cs : Cs) : DS := (mSeq (mWhile (mT (mOp (oEq true) (mVar 1) (mC (.int 0)))) (mPar 0 1 (mFz (mVar 1)) (mFz (mOp oMod (mVar 0) (mVar 1))))) (mRet (mVar 0)))
def m_common_multiple (cs : Cs) : DS := (mSeq (mAsgG (gN 1) (mFz (mC (.int 1)))) (mSeq (mFor (mItL (mVar 0)) (gN 2) (mAsgG (gN 1) (mFz (mOp oMul (mOp oDiv (mVar 1) (mCall 2 (F_common_divisor cs) (mCons (mVar 1) (mCons (mVar 2) mNil)) [])) (mVar 2))))) (mRet (mVar 1))))

def m_is_integer (cs : Cs) : DS := (mRet (mAndV (mUn (oIs "int") (mVar 0)) (mAndV (mNotV (mUn (oIs "bool") (mVar 0))) (mOp oGe (mVar 0) (mVar 1)))))
def m_are_sizes (cs : Cs) : DS := (mSeq (mIfS (mOr (mNot (mT (mUn (oIs "list") (mVar 0)))) (mNot (mT (mCh bLe bLe (mC (.int 1)) (mB oLen (mCons (mVar 0) mNil)) (mC (.int 30)))))) (mRet (mC (.bl false))) mNext) (mSeq (mIfS (mNot (mT (mB oAll (mCons (mLc (mItL (mVar 0)) (gN 1) mYes (mAndV (mCall 2 (F_is_integer cs) (mCons (mVar 1) (mCons (mC (.int 1)) mNil)) []) (mOp oLe (mVar 1) (mC (.int 9)))) [1]) mNil)))) (mRet (mC (.bl false))) mNext) (mRet (mOp oLe (mOp oSub (mB oSum (mCons (mVar 0) mNil)) (mB oLen (mCons (mVar 0) mNil))) (mC (.int 30))))))
def m_are_forward_indices (cs : Cs) : DS := (mSeq (mIfS (mOr (mNot (mT (mUn (oIs "list") (mVar 0)))) (mT (mOp (oEq true) (mB oLen (mCons (mVar 0) mNil)) (mOp oSub (mB oLen (mCons (mVar 1) mNil)) (mC (.int 1)))))) (mRet (mC (.bl false))) mNext) (mRet (mB oAll (mCons (mLc (mItZ (mVar 0) (mVar 1)) (gT [(gN 2), (gN 3)]) mYes (mAndV (mCall 2 (F_is_integer cs) (mCons (mVar 2) mNil) [(.int 0)]) (mOp oLt (mVar 2) (mVar 3))) [2, 3]) mNil))))
def m_CupRow_init (cs : Cs) : DS := (mSeq (mIfS (mNot (mT (mCall 1 (F_are_sizes cs) (mCons (mVar 1) mNil) []))) mNever mNext) (mSeq (mAsgG (gN 3) (mFz (mIf (mT (mUn (oIsN false) (mVar 2))) (mOp oMul (mLst (mCons (mC (.int 0)) mNil)) (mOp oSub (mB oLen (mCons (mVar 1) mNil)) (mC (.int 1)))) (mVar 2)))) (mSeq (mIfS (mNot (mT (mCall 2 (F_are_forward_indices cs) (mCons (mVar 3) (mCons (mVar 1) mNil)) []))) mNever mNext) (mSeq (mSetP cs.CupRow "size_tuple" (plN 0) (mB oTuple (mCons (mVar 1) mNil))) (mSeq (mSetP cs.CupRow "forward_tuple" (plN 0) (mB oTuple (mCons (mVar 3) mNil))) (mSeq (mSetP cs.CupRow "weights" (plN 0) (mLst (mCons (mC (.int 1)) mNil))) (mFor (mItL (mVar 1)) (gN 4) (mAppend (plF cs.CupRow "weights" (plN 0)) (mOp oMul (mOp oIx (mFld cs.CupRow "weights" (mVar 0)) (mUn oNeg (mC (.int 1)))) (mVar 4))))))))))
def m_CupRow_round_length (cs : Cs) : DS := (mRet (mOp oIx (mFld cs.CupRow "weights" (mVar 0)) (mUn oNeg (mC (.int 1)))))
def m_CupRow_min_members (cs : Cs) : DS := (mRet (mOp oAdd (mOp oSub (mB oSum (mCons (mFld cs.CupRow "size_tuple" (mVar 0)) mNil)) (mB oLen (mCons (mFld cs.CupRow "size_tuple" (mVar 0)) mNil))) (mC (.int 1))))
def m_require_cups (cs : Cs) : DS := (mIfS (mNot (mT (mUn (oIsC cs.CupRow) (mVar 0)))) mNever mNext)
def m_cycles_of (cs : Cs) : DS := (mSeq (mAsgG (gN 1) (mFz (mLc (mItR1 (mB oLen (mCons (mVar 0) mNil))) (gN 4) mYes (mIdx (mVar 0) (mVar 4)) [4]))) (mSeq (mAsgG (gN 2) (mFz (mLst mNil))) (mSeq (mAsgG (gN 3) (mLst mNil)) (mSeq (mFor (mItR1 (mB oLen (mCons (mVar 0) mNil))) (gN 4) (mIfS (mT (mOp (oIn true) (mVar 4) (mVar 2))) (mSeq (mAsgG (gN 5) (mLst (mCons (mVar 4) mNil))) (mSeq (mWhile (mT (mOp (oEq true) (mOp oIx (mVar 1) (mOp oIx (mVar 5) (mUn oNeg (mC (.int 1))))) (mVar 4))) (mAppend (plN 5) (mOp oIx (mVar 1) (mOp oIx (mVar 5) (mUn oNeg (mC (.int 1))))))) (mSeq (mFzS 5 (mAsgG (gN 2) (mFz (mOp oAdd (mVar 2) (mVar 5))))) (mAppend (plN 3) (mVar 5))))) mNext)) (mFzS 3 (mRet (mVar 3)))))))
def m_Blocks_init (cs : Cs) : DS := (mSeq (mSetP cs.Blocks "cups" (plN 0) (mVar 1)) (mSeq (mSetP cs.Blocks "orders" (plN 0) mD0) (mSetP cs.Blocks "visits" (plN 0) mD0)))
def m_Blocks_entering (cs : Cs) (b : Nat) : DS := (mSeq (mIfS (mT (mOp (oEq false) (mVar 1) (mC (.int 0)))) (mRet (mFz (mTup (mCons (mC (.int 0)) (mCons (mRngL true (mC (.int 1)) (mVar 2)) mNil))))) mNext) (mMemo 0 cs.Blocks "orders" [1, 2] (mSeq (mAsgG (gT [(gN 3), (gN 4)]) (mMeth 3 cs.Blocks "filling" (F_Blocks_filling cs b) (mVar 0) (mCons (mOp oSub (mVar 1) (mC (.int 1))) (mCons (mVar 2) mNil)) [])) (mSeq (mPopI 5 (plN 3) (mOp oIx (mFld cs.CupRow "forward_tuple" (mFld cs.Blocks "cups" (mVar 0))) (mOp oSub (mVar 1) (mC (.int 1))))) mNext)) (mTup (mCons (mVar 5) (mCons (mB oTuple (mCons (mOp oAdd (mVar 4) (mVar 3)) mNil)) mNil)))))
def m_Blocks_filling (cs : Cs) (b : Nat) : DS := (mSeq (mAsgG (gN 3) (mLst mNil)) (mSeq (mAsgG (gN 4) (mFz (mRngL false (mC (.int 0)) (mVar 2)))) (mSeq (mFor (mItR1 (mOp oIx (mFld cs.CupRow "size_tuple" (mFld cs.Blocks "cups" (mVar 0))) (mVar 1))) (gN 5) (mSeq (mAsgG (gT [(gN 6), (gN 7)]) (mFz (mMeth 3 cs.Blocks "entering" (F_Blocks_entering cs (b - 1)) (mVar 0) (mCons (mVar 1) (mCons (mB oLen (mCons (mVar 4) mNil)) mNil)) []))) (mSeq (mAppend (plN 3) (mOp oIx (mVar 4) (mVar 6))) (mAsgG (gN 4) (mFz (mLc (mItL (mVar 7)) (gN 8) mYes (mOp oIx (mVar 4) (mVar 8)) [8])))))) (mRetP [3, 4]))))
def m_Blocks_whole_round (cs : Cs) : DS := (mSeq (mAsgG (gT [(gN 2), (gN 3)]) (mFz (mMeth 3 cs.Blocks "filling" (F_Blocks_filling cs 30) (mVar 0) (mCons (mOp oSub (mB oLen (mCons (mFld cs.CupRow "size_tuple" (mFld cs.Blocks "cups" (mVar 0))) mNil)) (mC (.int 1))) (mCons (mVar 1) mNil)) []))) (mRet (mOp oAdd (mVar 3) (mVar 2))))
def m_require_count (cs : Cs) : DS := (mIfS (mOr (mNot (mT (mCall 2 (F_is_integer cs) (mCons (mVar 0) (mCons (mVar 1) mNil)) []))) (mT (mOp oGt (mVar 0) (mC (.int 40))))) mNever mNext)
def m_round_order (cs : Cs) : DS := (mSeq (mDrop (mCall 1 (F_require_cups cs) (mCons (mVar 0) mNil) [])) (mSeq (mDrop (mCall 2 (F_require_count cs) (mCons (mVar 1) (mCons (mMeth 1 cs.CupRow "min_members" (F_CupRow_min_members cs) (mVar 0) mNil []) mNil)) [])) (mRet (mMeth 2 cs.Blocks "whole_round" (F_Blocks_whole_round cs) (mFz (mMake 2 cs.Blocks (F_Blocks_init cs) (mCons (mVar 0) mNil) [])) (mCons (mVar 1) mNil) []))))
def m_round_cycles (cs : Cs) : DS := (mRet (mCall 1 (F_cycles_of cs) (mCons (mCall 2 (F_round_order cs) (mCons (mVar 0) (mCons (mVar 1) mNil)) []) mNil) []))
def m_period (cs : Cs) : DS := (mRet (mOp oMul (mCall 1 (F_common_multiple cs) (mCons (mLc (mItL (mCall 2 (F_round_cycles cs) (mCons (mVar 0) (mCons (mVar 1) mNil)) [])) (gN 2) mYes (mB oLen (mCons (mVar 2) mNil)) [2]) mNil) []) (mMeth 1 cs.CupRow "round_length" (F_CupRow_round_length cs) (mVar 0) mNil [])))
def m_state_count (cs : Cs) : DS := (mSeq (mDrop (mCall 1 (F_require_cups cs) (mCons (mVar 0) mNil) [])) (mSeq (mDrop (mCall 2 (F_require_count cs) (mCons (mVar 1) (mCons (mMeth 1 cs.CupRow "min_members" (F_CupRow_min_members cs) (mVar 0) mNil []) mNil)) [])) (mSeq (mAsgG (gN 2) (mFz (mMeth 1 cs.CupRow "round_length" (F_CupRow_round_length cs) (mVar 0) mNil []))) (mSeq (mFor (mItR2 (mC (.int 2)) (mOp oAdd (mVar 1) (mC (.int 1)))) (gN 3) (mAug 2 oMulI (mVar 3))) (mRet (mVar 2))))))
def m_law_script_value (cs : Cs) : DS := (mSeq (mIfS (mT (mOp oLt (mVar 1) (mB oLen (mCons (mVar 0) mNil)))) (mRet (mOp oIx (mVar 0) (mVar 1))) mNext) (mRet (mC (.int 0))))
def m_law_mix (cs : Cs) : DS := (mSeq (mAsgG (gN 2) (mFz (mOp oAdd (mOp oMod (mB oInt1 (mCons (mVar 0) mNil)) (mC (.int 2147483629))) (mOp oMul (mOp oDiv (mVar 0) (mC (.int 2147483629))) (mC (.int 30011)))))) (mSeq (mAsgG (gN 2) (mFz (mOp oMod (mB oInt1 (mCons (mOp oMul (mOp oAdd (mOp oAdd (mVar 2) (mOp oMul (mC (.int 69621)) (mVar 1))) (mC (.int 1))) (mC (.int 48271))) mNil)) (mC (.int 2147483629))))) (mSeq (mAsgG (gN 2) (mFz (mOp oMod (mB oInt1 (mCons (mOp oMul (mVar 2) (mOp oAdd (mOp oAdd (mOp oDiv (mVar 2) (mC (.int 907))) (mC (.int 16831))) (mVar 1))) mNil)) (mC (.int 2147483587))))) (mRet (mOp oMod (mB oInt1 (mCons (mOp oMul (mVar 2) (mOp oAdd (mOp oDiv (mVar 2) (mC (.int 1201))) (mC (.int 30011)))) mNil)) (mC (.int 2147483563)))))))
def m_law_draw_source (cs : Cs) : DS := (mSeq (mIfS (mT (mOp oLt (mVar 1) (mB oLen (mCons (mVar 0) mNil)))) (mRet (mSrc (mLst (mCons (mOp oIx (mVar 0) (mVar 1)) (mCons (mOp oIx (mVar 0) (mVar 1)) (mCons (mC (.int 0)) mNil)))))) mNext) (mSeq (mAsgG (gN 2) (mFz (mCall 2 (F_law_mix cs) (mCons (mCall 2 (F_law_script_value cs) (mCons (mVar 0) (mCons (mC (.int 0)) mNil)) []) (mCons (mOp oAdd (mC (.int 1000)) (mVar 1)) mNil)) []))) (mRet (mSrc (mLst (mCons (mVar 2) (mCons (mVar 2) (mCons (mC (.int 0)) mNil))))))))
def m_law_draw (cs : Cs) : DS := (mSeq (mIfS (mT (mOp oGe (mOp oIx (mVar 0) (mC (.int 0))) (mOp oPow (mC (.int 10)) (mC (.int 18))))) (mSeq (mAsgG (gN 2) (mFz (mOp oMod (mB oInt1 (mCons (mOp oIx (mVar 0) (mC (.int 0))) mNil)) (mVar 1)))) (mSeq (mSetVol (mVar 0) (mC (.int 0)) (mOp oDiv (mOp oIx (mVar 0) (mC (.int 0))) (mVar 1))) (mRet (mVar 2)))) mNext) (mSeq (mSetVol (mVar 0) (mC (.int 2)) (mOp oAdd (mOp oIx (mVar 0) (mC (.int 2))) (mC (.int 1)))) (mRet (mOp oMod (mB oInt1 (mCons (mCall 2 (F_law_mix cs) (mCons (mOp oIx (mVar 0) (mC (.int 1))) (mCons (mOp oIx (mVar 0) (mC (.int 2))) mNil)) []) mNil)) (mVar 1)))))
def m_law_draw_cups (cs : Cs) : DS := (mSeq (mAsgG (gN 4) (mLst mNil)) (mSeq (mAsgG (gN 5) (mFz (mVar 3))) (mSeq (mFor (mItR1 (mOp oAdd (mC (.int 1)) (mCall 2 (F_law_draw cs) (mCons (mVar 0) (mCons (mVar 1) mNil)) []))) (gN 6) (mSeq (mAsgG (gN 7) (mFz (mOp oAdd (mC (.int 1)) (mB oMin2 (mCons (mVar 5) (mCons (mCall 2 (F_law_draw cs) (mCons (mVar 0) (mCons (mOp oIx (mLst (mCons (mC (.int 2)) (mCons (mC (.int 3)) (mCons (mVar 2) mNil)))) (mCall 2 (F_law_draw cs) (mCons (mVar 0) (mCons (mC (.int 3)) mNil)) [])) mNil)) []) mNil)))))) (mSeq (mAppend (plN 4) (mVar 7)) (mAsgG (gN 5) (mFz (mOp oSub (mVar 5) (mOp oSub (mVar 7) (mC (.int 1))))))))) (mSeq (mAsgG (gN 8) (mFz (mCall 2 (F_law_draw cs) (mCons (mVar 0) (mCons (mC (.int 3)) mNil)) []))) (mFzS 4 (mRet (mTup (mCons (mVar 4) (mCons (mLc (mItL (mSl (mVar 4) mNoP (mPart (mUn oNeg (mC (.int 1)))))) (gN 7) mYes (mOp oIx (mLst (mCons (mC (.int 0)) (mCons (mOp oSub (mVar 7) (mC (.int 1))) (mCons (mCall 2 (F_law_draw cs) (mCons (mVar 0) (mCons (mVar 7) mNil)) []) mNil)))) (mVar 8)) [7]) mNil)))))))))
def ms_law_outcome (cs : Cs) (k : Nat) (r dd : Nat) : DS := (mSeq (mAsgG (gN 2) (mLst (mCons (mIsE 1 r (dOf k dd) (clsK k == 0)) (mCons (mIsE 1 r (dOf k dd) (clsK k == 1)) (mCons (mIsE 1 r (dOf k dd) (clsK k == 2)) mNil))))) (mSeq (mAsgG (gN 2) (mOp oAdd (mVar 2) (mLst (mCons (mIsE 1 r (dOf k dd) (clsK k == 3)) (mCons (mIsE 1 r (dOf k dd) (clsK k == 4)) (mCons (mIsE 1 r (dOf k dd) (clsK k == 5)) mNil)))))) (mSeq (mAppend (plN 2) (mIsE 1 r (dOf k dd) (clsK k == 6))) (mSeq (mIfS (mOr (mT (mOp (oEq true) (mCnt (mVar 2) (mC (.bl true))) (mC (.int 1)))) (mNot (mT (mIsE 1 r (dOf k dd) true)))) (mRet (mC (.str "several"))) mNext) (mSeq (mIfS (mT (mOp oIx (mVar 2) (mC (.int 0)))) (mRet (mXfK 1 k r dd "part")) mNext) (mRet (mOp oIx (mLst (mCons (mC (.str "")) (mCons (mC (.str "state")) (mCons (mC (.str "step")) (mCons (mC (.str "events")) (mCons (mC (.str "member")) (mCons (mC (.str "cup")) (mCons (mC (.str "incomparable")) mNil)))))))) (mIdxB (mVar 2) (mC (.bl true))))))))))
def m_law_invalid_sizes (cs : Cs) : DS := (mSeq (mAsgG (gN 2) (mFz (mCall 2 (F_law_draw cs) (mCons (mVar 0) (mCons (mB oLen (mCons (mVar 1) mNil)) mNil)) []))) (mSeq (mAsgG (gN 3) (mFz (mLst (mCons (mC .non) (mCons (mTup mNil) (mCons (mB oTuple (mCons (mVar 1) mNil)) (mCons mDE (mCons (mC (.str "12")) (mCons (mC (.int 2)) (mCons (mC (.bl true)) (mCons (mLst mNil) (mCons (mOp oMul (mLst (mCons (mC (.int 1)) mNil)) (mC (.int 31))) (mCons (mOp oMul (mLst (mCons (mC (.int 2)) mNil)) (mC (.int 31))) (mCons (mLst (mCons (mC (.int 9)) (mCons (mC (.int 9)) (mCons (mC (.int 9)) (mCons (mC (.int 8)) mNil))))) (mCons (mOp oMul (mLst (mCons (mC (.int 4)) mNil)) (mC (.int 11))) (mCons (mOp oAdd (mOp oMul (mLst (mCons (mC (.int 9)) mNil)) (mC (.int 4))) (mLst (mCons (mC (.int 1)) mNil))) mNil)))))))))))))))) (mSeq (mAsgG (gN 4) (mFz (mLst (mCons (mC (.int 0)) (mCons (mUn oNeg (mC (.int 1))) (mCons (mC (.int 10)) (mCons (mC .non) (mCons (mC (.bl true)) (mCons (mC (.str "2")) (mCons (mLst (mCons (mC (.int 2)) mNil)) (mCons (mTup (mCons (mC (.int 2)) mNil)) (mCons (mOp oPow (mC (.int 10)) (mC (.int 20))) (mCons (mC (.bl false)) (mCons (mUn oNeg (mOp oPow (mC (.int 10)) (mC (.int 20)))) mNil)))))))))))))) (mSeq (mIfS (mT (mOp (oEq false) (mCall 2 (F_law_draw cs) (mCons (mVar 0) (mCons (mC (.int 2)) mNil)) []) (mC (.int 0)))) (mRet (mFz (mOp oIx (mVar 3) (mCall 2 (F_law_draw cs) (mCons (mVar 0) (mCons (mB oLen (mCons (mVar 3) mNil)) mNil)) [])))) mNext) (mRet (mFz (mOp oAdd (mOp oAdd (mSl (mVar 1) mNoP (mPart (mVar 2))) (mLst (mCons (mOp oIx (mVar 4) (mCall 2 (F_law_draw cs) (mCons (mVar 0) (mCons (mB oLen (mCons (mVar 4) mNil)) mNil)) [])) mNil))) (mSl (mVar 1) (mPart (mOp oAdd (mVar 2) (mC (.int 1)))) mNoP))))))))
def m_law_invalid_indices (cs : Cs) : DS := (mSeq (mAsgG (gN 3) (mFz (mLst (mCons (mTup mNil) (mCons (mB oTuple (mCons (mVar 2) mNil)) (mCons mDE (mCons (mC (.str "0")) (mCons (mC (.int 0)) (mCons (mC (.bl true)) (mCons (mOp oAdd (mVar 2) (mLst (mCons (mC (.int 0)) mNil))) (mCons (mLst (mCons (mVar 2) mNil)) mNil))))))))))) (mSeq (mIfS (mT (mOp (oEq false) (mVar 2) (mLst mNil))) (mRet (mFz (mOp oIx (mVar 3) (mCall 2 (F_law_draw cs) (mCons (mVar 0) (mCons (mB oLen (mCons (mVar 3) mNil)) mNil)) [])))) mNext) (mSeq (mAsgG (gN 4) (mFz (mCall 2 (F_law_draw cs) (mCons (mVar 0) (mCons (mB oLen (mCons (mVar 2) mNil)) mNil)) []))) (mSeq (mAsgG (gN 5) (mFz (mLst (mCons (mOp oIx (mVar 1) (mVar 4)) (mCons (mUn oNeg (mC (.int 1))) (mCons (mC .non) (mCons (mC (.bl true)) (mCons (mC (.str "0")) (mCons (mLst (mCons (mC (.int 0)) mNil)) (mCons (mTup (mCons (mC (.int 0)) mNil)) (mCons (mOp oPow (mC (.int 10)) (mC (.int 20))) (mCons (mC (.bl false)) (mCons (mOp oAdd (mOp oIx (mVar 1) (mVar 4)) (mC (.int 1))) mNil))))))))))))) (mSeq (mIfS (mT (mOp (oEq false) (mCall 2 (F_law_draw cs) (mCons (mVar 0) (mCons (mC (.int 3)) mNil)) []) (mC (.int 0)))) (mRet (mFz (mOp oIx (mOp oAdd (mVar 3) (mLst (mCons (mSl (mVar 2) (mPart (mC (.int 1))) mNoP) (mCons (mLst mNil) mNil)))) (mCall 2 (F_law_draw cs) (mCons (mVar 0) (mCons (mOp oAdd (mB oLen (mCons (mVar 3) mNil)) (mC (.int 2))) mNil)) [])))) mNext) (mRet (mFz (mOp oAdd (mOp oAdd (mSl (mVar 2) mNoP (mPart (mVar 4))) (mLst (mCons (mOp oIx (mVar 5) (mCall 2 (F_law_draw cs) (mCons (mVar 0) (mCons (mB oLen (mCons (mVar 5) mNil)) mNil)) [])) mNil))) (mSl (mVar 2) (mPart (mOp oAdd (mVar 4) (mC (.int 1)))) mNoP)))))))))
def m_law_outcomes (cs : Cs) : DS := (mLams fun os cp => (mSeq (mAsgG (gN 1) (mLst (mCons (mLamO (os 0) cp) mNil))) (mSeq (mAppend (plN 1) (mLamO (os 1) cp)) (mSeq (mAppend (plN 1) (mLamO (os 2) cp)) (mSeq (mAppend (plN 1) (mLamO (os 3) cp)) (mSeq (mAppend (plN 1) (mLamO (os 4) cp)) (mSeq (mAppend (plN 1) (mLamO (os 5) cp)) (mSeq (mAppend (plN 1) (mLamO (os 6) cp)) (mSeq (mAppend (plN 1) (mLamO (os 7) cp)) (mSeq (mAppend (plN 1) (mLamO (os 8) cp)) (mSeq (mAppend (plN 1) (mLamO (os 9) cp)) (mSeq (mAppend (plN 1) (mLamO (os 10) cp)) (mSeq (mAppend (plN 1) (mLamO (os 11) cp)) (mSeq (mAppend (plN 1) (mLamO (os 12) cp)) (mRet (mLc (mItL (mVar 1)) (gN 2) mYes (mOutV wd_law_outcome ks_law_outcome 2 13 os cp (nthM [(mCall 2 (F_X_next_state cs) (mCons (mVar 0) (mCons (mC .non) mNil)) []), (mCall 2 (F_X_counter_value cs) (mCons (mVar 0) (mCons (mC .non) mNil)) []), (mCall 3 (F_X_state_before cs) (mCons (mVar 0) (mCons (mC .non) (mCons (mC .non) mNil))) []), (mMakeKX 4 cs.Simulation (F_X_Simulation_init cs) 2 1 (mCons (mVar 0) (mCons (mC .non) mNil)) (mCons (mC (.int 5)) mNil)), (mCall 3 (F_X_block_order cs) (mCons (mVar 0) (mCons (mC .non) (mCons (mC .non) mNil))) []), (mCall 2 (F_X_round_order cs) (mCons (mVar 0) (mCons (mC .non) mNil)) []), (mCall 2 (F_X_round_cycles cs) (mCons (mVar 0) (mCons (mC .non) mNil)) []), (mCall 2 (F_X_period cs) (mCons (mVar 0) (mCons (mC .non) mNil)) []), (mCall 2 (F_X_state_count cs) (mCons (mVar 0) (mCons (mC .non) mNil)) []), (mCall 2 (F_X_orbit_count cs) (mCons (mVar 0) (mCons (mC .non) mNil)) []), (mCall 1 (F_X_simplify cs) (mCons (mVar 0) mNil) []), (mCall 3 (F_X_first_difference cs) (mCons (mVar 0) (mCons (mC .non) (mCons (mC .non) mNil))) []), (mCall 3 (F_X_first_difference cs) (mCons (mMake 3 cs.CupRow (F_CupRow_init cs) (mCons (mLst (mCons (mC (.int 2)) mNil)) mNil) [.non]) (mCons (mVar 0) (mCons (mC .non) mNil))) [])])) [2]))))))))))))))))
def m_law (cs : Cs) : DS := (mSeq (mFor (mItR1 (mB oMax2 (mCons (mC (.int 1)) (mCons (mB oMin2 (mCons (mC (.int 8)) (mCons (mB oLen (mCons (mVar 0) mNil)) mNil))) mNil)))) (gN 1) (mSeq (mAsgG (gN 2) (mFz (mCall 2 (F_law_draw_source cs) (mCons (mVar 0) (mCons (mVar 1) mNil)) []))) (mSeq (mAsgG (gT [(gN 3), (gN 4)]) (mFz (mCall 4 (F_law_draw_cups cs) (mCons (mVar 2) (mCons (mC (.int 8)) (mCons (mC (.int 9)) (mCons (mC (.int 30)) mNil)))) []))) (mSeq (mFor (mItR1 (mC (.int 4))) (gN 5) (mSeq (mAsgG (gT [(gN 6), (gN 7)]) (mFz (mTup (mCons (mCall 2 (F_law_invalid_sizes cs) (mCons (mVar 2) (mCons (mVar 3) mNil)) []) (mCons (mCall 3 (F_law_invalid_indices cs) (mCons (mVar 2) (mCons (mVar 3) (mCons (mVar 4) mNil))) []) mNil))))) (mSeq (mAsgG (gN 8) (mFz (mB oReprU (mCons (mTup (mCons (mVar 6) (mCons (mVar 7) (mCons (mVar 3) mNil)))) mNil)))) (mSeq (mAsgG (gN 9) (mLst (mCons (mOut wd_law_outcome ks_law_outcome (mMakeKX 3 cs.CupRow (F_X_CupRow_init cs) 1 1 (mCons (mVar 6) mNil) (mCons (mVar 7) mNil))) mNil))) (mSeq (mAppend (plN 9) (mOut wd_law_outcome ks_law_outcome (mMakeX 3 cs.CupRow (F_X_CupRow_init cs) (mCons (mVar 6) mNil) [.non]))) (mSeq (mAppend (plN 9) (mOut wd_law_outcome ks_law_outcome (mMakeKX 3 cs.CupRow (F_X_CupRow_init cs) 1 1 (mCons (mVar 3) mNil) (mCons (mVar 7) mNil)))) (mIfS (mOr (mT (mOp (oEq true) (mVar 9) (mLst (mCons (mC (.str "sizes")) (mCons (mC (.str "sizes")) (mCons (mC (.str "forward")) mNil)))))) (mT (mOp (oEqX true) (mB oReprU (mCons (mTup (mCons (mVar 6) (mCons (mVar 7) (mCons (mVar 3) mNil)))) mNil)) (mVar 8)))) (mRet (mC (.bl false))) mNext))))))) (mSeq (mAsgG (gN 9) (mLst (mCons (mOut wd_law_outcome ks_law_outcome (mMakeKX 3 cs.CupRow (F_X_CupRow_init cs) 1 1 (mCons (mVar 3) mNil) (mCons (mVar 4) mNil))) mNil))) (mSeq (mAppend (plN 9) (mOut wd_law_outcome ks_law_outcome (mMakeX 3 cs.CupRow (F_X_CupRow_init cs) (mCons (mOp oMul (mLst (mCons (mC (.int 3)) mNil)) (mC (.int 15))) mNil) [.non]))) (mSeq (mAppend (plN 9) (mOut wd_law_outcome ks_law_outcome (mMakeKX 3 cs.CupRow (F_X_CupRow_init cs) 1 1 (mCons (mOp oMul (mLst (mCons (mC (.int 2)) mNil)) (mC (.int 30))) mNil) (mCons (mOp oMul (mLst (mCons (mC (.int 1)) mNil)) (mC (.int 29))) mNil)))) (mSeq (mIfS (mT (mOp (oEq true) (mVar 9) (mOp oMul (mLst (mCons (mC (.str "ok")) mNil)) (mC (.int 3))))) (mRet (mC (.bl false))) mNext) (mSeq (mAsgG (gN 10) (mFz (mOp oIx (mLst (mCons (mC .non) (mCons (mVar 3) (mCons (mTup (mCons (mVar 3) (mCons (mVar 4) mNil))) (mCons (mC (.str "cups")) (mCons (mC (.int 5)) (mCons (mC (.bl true)) (mCons mDE (mCons (mLst mNil) mNil))))))))) (mCall 2 (F_law_draw cs) (mCons (mVar 2) (mCons (mC (.int 8)) mNil)) [])))) (mIfS (mT (mOp (oEq true) (mCall 1 (F_law_outcomes cs) (mCons (mVar 10) mNil) []) (mOp oMul (mLst (mCons (mC (.str "cups")) mNil)) (mC (.int 13))))) (mRet (mC (.bl false))) mNext)))))))))) (mRet (mC (.bl true))))
def m_G_are_forward_indices (cs : Cs) : DS := (mSeq (mIfS (mOr (mNot (mT (mUn (oIs "list") (mVar 0)))) (mT (mOp (oEq true) (mB oLen (mCons (mVar 0) mNil)) (mOp oSub (mB oLen (mCons (mVar 1) mNil)) (mC (.int 1)))))) (mRet (mC (.bl false))) mNext) (mRet (mB oAll (mCons (mLc (mItZ (mVar 0) (mVar 1)) (gT [(gN 2), (gN 3)]) mYes (mAndV (mCall 2 (F_G_is_integer cs) (mCons (mVar 2) mNil) [(.int 0)]) (mOp oLt (mVar 2) (mVar 3))) [2, 3]) mNil))))
def m_G_are_sizes (cs : Cs) : DS := (mSeq (mIfS (mOr (mNot (mT (mUn (oIs "list") (mVar 0)))) (mNot (mT (mCh bLe bLe (mC (.int 1)) (mB oLen (mCons (mVar 0) mNil)) (mC (.int 30)))))) (mRet (mC (.bl false))) mNext) (mSeq (mIfS (mNot (mT (mB oAll (mCons (mLc (mItL (mVar 0)) (gN 1) mYes (mAndV (mCall 2 (F_G_is_integer cs) (mCons (mVar 1) (mCons (mC (.int 1)) mNil)) []) (mOp oLe (mVar 1) (mC (.int 9)))) [1]) mNil)))) (mRet (mC (.bl false))) mNext) (mRet (mOp oLe (mOp oSub (mB oSum (mCons (mVar 0) mNil)) (mB oLen (mCons (mVar 0) mNil))) (mC (.int 30))))))
def m_G_is_integer (cs : Cs) : DS := (mRet (mAndV (mUn (oIs "int") (mVar 0)) (mAndV (mNotV (mUn (oIs "bool") (mVar 0))) (mOp oGe (mVar 0) (mVar 1)))))
def m_X_CupRow_init (cs : Cs) : DS := (mSeq (mIfS (mNot (mT (mCall 1 (F_G_are_sizes cs) (mCons (mVar 1) mNil) []))) (mRaise 8) mNext) (mSeq (mAsgG (gN 3) (mFz (mIf (mT (mUn (oIsN false) (mVar 2))) (mOp oMul (mLst (mCons (mC (.int 0)) mNil)) (mOp oSub (mB oLen (mCons (mVar 1) mNil)) (mC (.int 1)))) (mVar 2)))) (mSeq (mIfS (mNot (mT (mCall 2 (F_G_are_forward_indices cs) (mCons (mVar 3) (mCons (mVar 1) mNil)) []))) (mRaise 9) mNext) (mSeq mNever (mSeq mNever (mSeq mNever mNever))))))
def m_X_Simulation_init (cs : Cs) : DS := (mSeq (mDropE (mCall 1 (F_X_require_cups cs) (mCons (mVar 1) mNil) [])) (mSeq mNever (mSeq mNever (mSeq mNever (mSeq mNever (mSeq mNever (mSeq mNever (mSeq mNever (mSeq mNever (mKill 2 mNever))))))))))
def m_X_block_order (cs : Cs) : DS := (mSeq (mDropE (mCall 1 (F_X_require_cups cs) (mCons (mVar 0) mNil) [])) (mSeq mNever (mSeq mNever (mSeq mNever mNever))))
def m_X_counter_value (cs : Cs) : DS := (mSeq (mDropE (mCall 1 (F_X_require_cups cs) (mCons (mVar 0) mNil) [])) (mSeq mNever mNever))
def m_X_first_difference (cs : Cs) : DS := (mSeq (mDropE (mCall 1 (F_X_require_cups cs) (mCons (mVar 0) mNil) [])) (mSeq (mDropE (mCall 1 (F_X_require_cups cs) (mCons (mVar 1) mNil) [])) (mSeq mNever (mSeq mNever (mSeq mNever (mSeq mNever (mSeq mNever mNever)))))))
def m_X_next_state (cs : Cs) : DS := (mSeq (mDropE (mCall 1 (F_X_require_cups cs) (mCons (mVar 0) mNil) [])) (mSeq mNever (mSeq mNever mNever)))
def m_X_orbit_count (cs : Cs) : DS := (mOrS (mRet (mOp oDiv (mCall 2 (F_state_count cs) (mCons (mVar 0) (mCons (mVar 1) mNil)) []) (mCall 2 (F_period cs) (mCons (mVar 0) (mCons (mVar 1) mNil)) []))) (mErrS (mCall 2 (F_X_state_count cs) (mCons (mVar 0) (mCons (mVar 1) mNil)) [])))
def m_X_period (cs : Cs) : DS := (mOrS (mRet (mOp oMul (mCall 1 (F_common_multiple cs) (mCons (mLc (mItL (mCall 2 (F_round_cycles cs) (mCons (mVar 0) (mCons (mVar 1) mNil)) [])) (gN 2) mYes (mB oLen (mCons (mVar 2) mNil)) [2]) mNil) []) (mMeth 1 cs.CupRow "round_length" (F_CupRow_round_length cs) (mVar 0) mNil []))) (mErrS (mCall 2 (F_X_round_cycles cs) (mCons (mVar 0) (mCons (mVar 1) mNil)) [])))
def m_X_require_cups (cs : Cs) : DS := (mIfS (mNot (mT (mUn (oIsCA cs.CupRow) (mVar 0)))) (mRaise 7) mNext)
def m_X_round_cycles (cs : Cs) : DS := (mOrS (mRet (mCall 1 (F_cycles_of cs) (mCons (mCall 2 (F_round_order cs) (mCons (mVar 0) (mCons (mVar 1) mNil)) []) mNil) [])) (mErrS (mCall 2 (F_X_round_order cs) (mCons (mVar 0) (mCons (mVar 1) mNil)) [])))
def m_X_round_order (cs : Cs) : DS := (mSeq (mDropE (mCall 1 (F_X_require_cups cs) (mCons (mVar 0) mNil) [])) (mSeq mNever mNever))
def m_X_simplify (cs : Cs) : DS := (mSeq (mDropE (mCall 1 (F_X_require_cups cs) (mCons (mVar 0) mNil) [])) (mSeq mNever mNever))
def m_X_state_before (cs : Cs) : DS := (mSeq (mDropE (mCall 1 (F_X_require_cups cs) (mCons (mVar 0) mNil) [])) (mSeq mNever (mSeq mNever (mSeq mNever mNever))))
def m_X_state_count (cs : Cs) : DS := (mSeq (mDropE (mCall 1 (F_X_require_cups cs) (mCons (mVar 0) mNil) [])) (mSeq mNever (mSeq mNever (mSeq mNever mNever))))
theorem wp_common_divisor (cs : Cs) (ss : R.Env) (Q : Rs → R.Env → Prop) (h : (F_common_divisor cs).io ss Q) : m_common_divisor cs (ss ++ List.replicate 0 none) { nx := fun e => Q (.fz .non) (outs [] 2 e), rt := fun r e => Q r (outs [] 2 e) } := by
  obtain ⟨a, b, rfl, h⟩ := h
  unfold m_common_divisor
  refine s_seq fun K hK => ?_
  refine while_of (fun m e => ∃ x y : Nat, m = y ∧ Nat.gcd x y = Nat.gcd a b ∧ e = [fz (nI x), fz (nI y)]) b ⟨a, b, rfl, rfl, rfl⟩ ?_
  rintro m e ⟨x, y, rfl, hg, rfl⟩
  refine ⟨decide ((m : Int) = 0) != true, fun P hP => ⟨_, rfl, ?_⟩, fun hb => ?_, fun hb => hK _ ?_⟩
  · dsimp only [mC]
    show oEq true (.fz (.int m)) (.fz (.int 0)) _
    rw [w_eq_int]
    exact hP
  · have hm : 0 < m := by
      apply Nat.pos_of_ne_zero
      intro z
      subst z
      simp at hb
    refine ⟨_, rfl, _, rfl, _, rfl, by omega, _, _, rfl, rfl, x % m, Nat.mod_lt _ hm, m, x % m, rfl, ?_, rfl⟩
    rw [← hg, Nat.gcd_comm x m, Nat.gcd_rec m x, Nat.gcd_comm]
  · have hm : m = 0 := by simpa using hb
    subst hm
    rw [Nat.gcd_zero_right] at hg
    subst hg
    exact ⟨_, rfl, trivial, h⟩

theorem wp_common_multiple (cs : Cs) (ss : R.Env) (Q : Rs → R.Env → Prop) (h : (F_common_multiple cs).io ss Q) : m_common_multiple cs (ss ++ List.replicate 2 none) { nx := fun e => Q (.fz .non) (outs [] 1 e), rt := fun r e => Q r (outs [] 1 e) } := by
  obtain ⟨ks, rfl, hk, h⟩ := h
  unfold m_common_multiple
  refine s_seq fun K hK => ?_
  refine ⟨trivial, hK _ ?_⟩
  clear hK
  refine s_seq fun K hK => ?_
  refine it_var_lst (ds := ks.map nI) rfl ⟨rfl, fun i e => ∃ y, e = [fz (nL ks), fz (nI (lcmL (ks.take i))), y], ⟨_, rfl⟩, ?_, ?_⟩
  · rintro i r e hr ⟨y, rfl⟩
    obtain ⟨hi, rfl⟩ := get_nI hr
    obtain ⟨k1, k2⟩ := hk _ (pk_mem hi)
    have hg : 1 ≤ Nat.gcd (lcmL (ks.take i)) (pk ks i) := Nat.gcd_pos_of_pos_right _ k1
    have hg2 : Nat.gcd (lcmL (ks.take i)) (pk ks i) ≤ pk ks i := Nat.le_of_dvd k1 (Nat.gcd_dvd_right _ _)
    refine ⟨trivial, _, rfl, _, rfl, _, rfl, rfl, lcmL (ks.take i), pk ks i, rfl, trivial, ⟨by omega, log2_lt (by omega) (by omega)⟩, _, rfl, .inr (by constructor <;> omega), trivial, fz (nI (pk ks i)), ?_⟩
    rw [take_snoc hi, lcmL_snoc]
    show [_, fz (.int ((lcmL (ks.take i) / Nat.gcd (lcmL (ks.take i)) (pk ks i) : Nat) * (pk ks i : Nat))), _] = _
    rw [← Int.natCast_mul, Nat.lcm, Nat.div_mul_right_comm (Nat.gcd_dvd_left _ _)]
    rfl
  · rintro e ⟨y, rfl⟩
    rw [List.length_map, List.length_map, List.take_length]
    exact hK _ ⟨_, rfl, trivial, h⟩

theorem wp_is_integer (cs : Cs) (ss : R.Env) (Q : Rs → R.Env → Prop) (h : (F_is_integer cs).io ss Q) : m_is_integer cs (ss ++ List.replicate 0 none) { nx := fun e => Q (.fz .non) (outs [] 2 e), rt := fun r e => Q r (outs [] 2 e) } := by
  obtain ⟨i, m, rfl, h⟩ := h
  simp only [m_is_integer, mSeq, mVar, mC, mOp, mUn, i2, oSub, oMod, oDiv, oPow, oLt, oLe, oGt, oGe, oNeg, mT, mAnd, mOr, mNot, mAndV, mOrV, mNotV, mIf, mCh, bLt, bLe, bGt, bGe, mNil, mCons, mFz, mNoP, mPart, mB, oInt1, oMin2, oMin3, oMax2, mNext, mAsgG, gN, mIfS, mRet, mRetN, mDrop, mBreak, mCont, mFzS, mYes, mSetVol, mSrc, mCall, Spec1.io, args, Rs.lend, Rs.arg, Rs.rd, Rs.ffz, Rs.own, Rs.slot, Rs.item, items, Rs.t, Rs.stays, mD0, oIs, OT.ty, mFld, Env.wipe, Env.lent, Option.map_none, nI, nL, nT, mLst, mTup, List.getElem?_cons_zero, List.getElem?_cons_succ, List.set_cons_zero, List.set_cons_succ, Option.some.injEq, exists_eq_left', exists_eq_left, true_and, and_true, List.map_cons, List.map_nil, List.cons_append, List.nil_append, List.append_nil, Option.bind_some, Option.map_some, List.length_cons, List.length_nil, ite_true, ite_false, Bool.false_eq_true, if_true, if_false, eq_self_iff_true, reduceCtorEq, false_and, and_false, w_add, w_mul, w_ix_vol, w_ix_lst, w_ix_tup, w_ix_rol, w_ix_br, w_ix_brT, w_len_lst, w_len_tup, w_len_rol, w_len_br, w_len_nw, outs_nil, ffz_lst, ffz_tup, List.replicate_succ, List.replicate_zero, List.length_map, decide_eq_true_eq, Bool.not_eq_true', decide_eq_false_iff_not, Bool.not_true, Bool.not_false, Bool.true_eq_false, w_eq_int, w_setP, pk0, pkc1, pkc2, pkb1, pkb2, Bool.bne_false, Bool.bne_true] at h ⊢
  exact h

theorem wp_are_sizes (cs : Cs) (ss : R.Env) (Q : Rs → R.Env → Prop) (h : (F_are_sizes cs).io ss Q) : m_are_sizes cs (ss ++ List.replicate 1 none) { nx := fun e => Q (.fz .non) (outs [] 1 e), rt := fun r e => Q r (outs [] 1 e) } := by
  obtain ⟨sz, rfl, h0, h1, h2, h3, h⟩ := h
  simp only [m_are_sizes, mSeq, mVar, mC, mOp, mUn, i2, oSub, oMod, oDiv, oPow, oLt, oLe, oGt, oGe, oNeg, mT, mAnd, mOr, mNot, mAndV, mOrV, mNotV, mIf, mCh, bLt, bLe, bGt, bGe, mNil, mCons, mFz, mNoP, mPart, mB, oInt1, oMin2, oMin3, oMax2, mNext, mAsgG, gN, mIfS, mRet, mRetN, mDrop, mBreak, mCont, mFzS, mYes, mSetVol, mSrc, mCall, Spec1.io, args, Rs.lend, Rs.arg, Rs.rd, Rs.ffz, Rs.own, Rs.slot, Rs.item, items, Rs.t, Rs.stays, mD0, oIs, OT.ty, mFld, Env.wipe, Env.lent, Option.map_none, nI, nL, nT, mLst, mTup, List.getElem?_cons_zero, List.getElem?_cons_succ, List.set_cons_zero, List.set_cons_succ, Option.some.injEq, exists_eq_left', exists_eq_left, true_and, and_true, List.map_cons, List.map_nil, List.cons_append, List.nil_append, List.append_nil, Option.bind_some, Option.map_some, List.length_cons, List.length_nil, ite_true, ite_false, Bool.false_eq_true, if_true, if_false, eq_self_iff_true, reduceCtorEq, false_and, and_false, w_add, w_mul, w_ix_vol, w_ix_lst, w_ix_tup, w_ix_rol, w_ix_br, w_ix_brT, w_len_lst, w_len_tup, w_len_rol, w_len_br, w_len_nw, outs_nil, ffz_lst, ffz_tup, List.replicate_succ, List.replicate_zero, List.length_map, decide_eq_true_eq, Bool.not_eq_true', decide_eq_false_iff_not, Bool.not_true, Bool.not_false, Bool.true_eq_false, w_eq_int, w_setP, pk0, pkc1, pkc2, pkb1, pkb2, Bool.bne_false, Bool.bne_true] at h ⊢
  rw [if_neg (by decide)]
  refine ⟨_, _, rfl, rfl, ?_⟩
  rw [if_pos (by omega)]
  refine ⟨_, rfl, ?_⟩
  rw [if_neg (by omega)]
  refine lc_any ((sz.map nI).map Rs.fz) true (fun _ => .leaf (.bl true)) (fun Q' q => it_var_lst rfl q) (by rw [List.length_map, List.length_map]; unfold sizeL; omega) (fun n r hr => ?_) ?_
  · obtain ⟨hn, rfl⟩ := get_nI hr
    obtain ⟨q1, q2⟩ := h2 _ (pk_mem hn)
    simp only [F_is_integer, mVar, mC, mOp, mUn, i2, oSub, oMod, oDiv, oPow, oLt, oLe, oGt, oGe, oNeg, mT, mAnd, mOr, mNot, mAndV, mOrV, mNotV, mIf, mCh, bLt, bLe, bGt, bGe, mNil, mCons, mFz, mNoP, mPart, mB, oInt1, oMin2, oMin3, oMax2, mNext, mAsgG, gN, mIfS, mRet, mRetN, mDrop, mBreak, mCont, mFzS, mYes, mSetVol, mSrc, mCall, Spec1.io, args, Rs.lend, Rs.arg, Rs.rd, Rs.ffz, Rs.own, Rs.slot, Rs.item, items, Rs.t, Rs.stays, mD0, oIs, OT.ty, mFld, Env.wipe, Env.lent, Option.map_none, nI, nL, nT, mLst, mTup, List.getElem?_cons_zero, List.getElem?_cons_succ, List.set_cons_zero, List.set_cons_succ, Option.some.injEq, exists_eq_left', exists_eq_left, true_and, and_true, List.map_cons, List.map_nil, List.cons_append, List.nil_append, List.append_nil, Option.bind_some, Option.map_some, List.length_cons, List.length_nil, ite_true, ite_false, Bool.false_eq_true, if_true, if_false, eq_self_iff_true, reduceCtorEq, false_and, and_false, w_add, w_mul, w_ix_vol, w_ix_lst, w_ix_tup, w_ix_rol, w_ix_br, w_ix_brT, w_len_lst, w_len_tup, w_len_rol, w_len_br, w_len_nw, outs_nil, ffz_lst, ffz_tup, List.replicate_succ, List.replicate_zero, List.length_map, decide_eq_true_eq, Bool.not_eq_true', decide_eq_false_iff_not, Bool.not_true, Bool.not_false, Bool.true_eq_false, w_eq_int, w_setP, pk0, pkc1, pkc2, pkb1, pkb2, Bool.bne_false, Bool.bne_true]
    refine ⟨pk sz n, 1, rfl, ?_⟩
    rw [if_pos (by omega), decide_eq_true (show ((pk sz n : Nat) : Int) ≤ 9 by omega)]
    exact item_snoc
  · have e : (List.range ((sz.map nI).map Rs.fz).length).map (fun _ => OT.leaf (.bl true)) = ((List.replicate sz.length true).map R.D.bl).map OT.leaf := by
      rw [List.length_map, List.length_map, List.map_const', List.length_range, List.map_replicate, List.map_replicate]
    rw [e]
    have f := ffz_lst ((List.replicate sz.length true).map R.D.bl)
    unfold Rs.ffz at f
    rw [f]
    refine ⟨_, _, rfl, bls_of _, ?_⟩
    rw [all_true]
    simp only [mVar, mC, mOp, mUn, i2, oSub, oMod, oDiv, oPow, oLt, oLe, oGt, oGe, oNeg, mT, mAnd, mOr, mNot, mAndV, mOrV, mNotV, mIf, mCh, bLt, bLe, bGt, bGe, mNil, mCons, mFz, mNoP, mPart, mB, oInt1, oMin2, oMin3, oMax2, mNext, mAsgG, gN, mIfS, mRet, mRetN, mDrop, mBreak, mCont, mFzS, mYes, mSetVol, mSrc, mCall, Spec1.io, args, Rs.lend, Rs.arg, Rs.rd, Rs.ffz, Rs.own, Rs.slot, Rs.item, items, Rs.t, Rs.stays, mD0, oIs, OT.ty, mFld, Env.wipe, Env.lent, Option.map_none, nI, nL, nT, mLst, mTup, List.getElem?_cons_zero, List.getElem?_cons_succ, List.set_cons_zero, List.set_cons_succ, Option.some.injEq, exists_eq_left', exists_eq_left, true_and, and_true, List.map_cons, List.map_nil, List.cons_append, List.nil_append, List.append_nil, Option.bind_some, Option.map_some, List.length_cons, List.length_nil, ite_true, ite_false, Bool.false_eq_true, if_true, if_false, eq_self_iff_true, reduceCtorEq, false_and, and_false, w_add, w_mul, w_ix_vol, w_ix_lst, w_ix_tup, w_ix_rol, w_ix_br, w_ix_brT, w_len_lst, w_len_tup, w_len_rol, w_len_br, w_len_nw, outs_nil, ffz_lst, ffz_tup, List.replicate_succ, List.replicate_zero, List.length_map, decide_eq_true_eq, Bool.not_eq_true', decide_eq_false_iff_not, Bool.not_true, Bool.not_false, Bool.true_eq_false, w_eq_int, w_setP, pk0, pkc1, pkc2, pkb1, pkb2, Bool.bne_false, Bool.bne_true]
    refine ⟨_, _, rfl, ints_nI sz, ?_⟩
    rw [sum_cast]
    refine ⟨trivial, ?_⟩
    rw [decide_eq_true (by omega)]
    exact h

theorem wp_are_forward_indices (cs : Cs) (ss : R.Env) (Q : Rs → R.Env → Prop) (h : (F_are_forward_indices cs).io ss Q) : m_are_forward_indices cs (ss ++ List.replicate 2 none) { nx := fun e => Q (.fz .non) (outs [] 2 e), rt := fun r e => Q r (outs [] 2 e) } := by
  obtain ⟨sz, fw, hR, rfl, h⟩ := h
  simp only [m_are_forward_indices, mSeq, mVar, mC, mOp, mUn, i2, oSub, oMod, oDiv, oPow, oLt, oLe, oGt, oGe, oNeg, mT, mAnd, mOr, mNot, mAndV, mOrV, mNotV, mIf, mCh, bLt, bLe, bGt, bGe, mNil, mCons, mFz, mNoP, mPart, mB, oInt1, oMin2, oMin3, oMax2, mNext, mAsgG, gN, mIfS, mRet, mRetN, mDrop, mBreak, mCont, mFzS, mYes, mSetVol, mSrc, mCall, Spec1.io, args, Rs.lend, Rs.arg, Rs.rd, Rs.ffz, Rs.own, Rs.slot, Rs.item, items, Rs.t, Rs.stays, mD0, oIs, OT.ty, mFld, Env.wipe, Env.lent, Option.map_none, nI, nL, nT, mLst, mTup, List.getElem?_cons_zero, List.getElem?_cons_succ, List.set_cons_zero, List.set_cons_succ, Option.some.injEq, exists_eq_left', exists_eq_left, true_and, and_true, List.map_cons, List.map_nil, List.cons_append, List.nil_append, List.append_nil, Option.bind_some, Option.map_some, List.length_cons, List.length_nil, ite_true, ite_false, Bool.false_eq_true, if_true, if_false, eq_self_iff_true, reduceCtorEq, false_and, and_false, w_add, w_mul, w_ix_vol, w_ix_lst, w_ix_tup, w_ix_rol, w_ix_br, w_ix_brT, w_len_lst, w_len_tup, w_len_rol, w_len_br, w_len_nw, outs_nil, ffz_lst, ffz_tup, List.replicate_succ, List.replicate_zero, List.length_map, decide_eq_true_eq, Bool.not_eq_true', decide_eq_false_iff_not, Bool.not_true, Bool.not_false, Bool.true_eq_false, w_eq_int, w_setP, pk0, pkc1, pkc2, pkb1, pkb2, Bool.bne_false, Bool.bne_true] at h ⊢
  have hl := hR.fl
  have h30 := hR.l1
  rw [if_neg (by decide), if_neg (by omega)]
  refine lc_any (zipR (fw.map nI) (sz.map nI)) true (fun _ => .leaf (.bl true)) (fun Q' q => ⟨_, rfl, _, rfl, _, _, rfl, rfl, q⟩) (by unfold zipR; rw [List.length_map, List.length_range, List.length_map]; unfold sizeL; omega) (fun n r hr => ?_) ?_
  · have hn : n < min (fw.map nI).length (sz.map nI).length := by
      have := (List.getElem?_eq_some_iff.mp hr).1
      unfold zipR at this
      rw [List.length_map, List.length_range] at this
      exact this
    rw [List.length_map, List.length_map] at hn
    rw [range_map_get hr, getD_nI (by omega), getD_nI (by omega)]
    have hi := hR.fi n (by omega)
    refine gT2_arg ⟨rfl, ?_⟩
    simp only [mVar, mC, mOp, mUn, i2, oSub, oMod, oDiv, oPow, oLt, oLe, oGt, oGe, oNeg, mT, mAnd, mOr, mNot, mAndV, mOrV, mNotV, mIf, mCh, bLt, bLe, bGt, bGe, mNil, mCons, mFz, mNoP, mPart, mB, oInt1, oMin2, oMin3, oMax2, mNext, mAsgG, gN, mIfS, mRet, mRetN, mDrop, mBreak, mCont, mFzS, mYes, mSetVol, mSrc, mCall, Spec1.io, args, Rs.lend, Rs.arg, Rs.rd, Rs.ffz, Rs.own, Rs.slot, Rs.item, items, Rs.t, Rs.stays, mD0, oIs, OT.ty, mFld, Env.wipe, Env.lent, Option.map_none, nI, nL, nT, mLst, mTup, List.getElem?_cons_zero, List.getElem?_cons_succ, List.set_cons_zero, List.set_cons_succ, Option.some.injEq, exists_eq_left', exists_eq_left, true_and, and_true, List.map_cons, List.map_nil, List.cons_append, List.nil_append, List.append_nil, Option.bind_some, Option.map_some, List.length_cons, List.length_nil, ite_true, ite_false, Bool.false_eq_true, if_true, if_false, eq_self_iff_true, reduceCtorEq, false_and, and_false, w_add, w_mul, w_ix_vol, w_ix_lst, w_ix_tup, w_ix_rol, w_ix_br, w_ix_brT, w_len_lst, w_len_tup, w_len_rol, w_len_br, w_len_nw, outs_nil, ffz_lst, ffz_tup, List.replicate_succ, List.replicate_zero, List.length_map, decide_eq_true_eq, Bool.not_eq_true', decide_eq_false_iff_not, Bool.not_true, Bool.not_false, Bool.true_eq_false, w_eq_int, w_setP, pk0, pkc1, pkc2, pkb1, pkb2, Bool.bne_false, Bool.bne_true]
    refine ⟨pk fw n, 0, rfl, trivial, ?_⟩
    rw [decide_eq_true (show (0 : Int) ≤ ((pk fw n : Nat) : Int) by omega)]
    simp only [mVar, mC, mOp, mUn, i2, oSub, oMod, oDiv, oPow, oLt, oLe, oGt, oGe, oNeg, mT, mAnd, mOr, mNot, mAndV, mOrV, mNotV, mIf, mCh, bLt, bLe, bGt, bGe, mNil, mCons, mFz, mNoP, mPart, mB, oInt1, oMin2, oMin3, oMax2, mNext, mAsgG, gN, mIfS, mRet, mRetN, mDrop, mBreak, mCont, mFzS, mYes, mSetVol, mSrc, mCall, Spec1.io, args, Rs.lend, Rs.arg, Rs.rd, Rs.ffz, Rs.own, Rs.slot, Rs.item, items, Rs.t, Rs.stays, mD0, oIs, OT.ty, mFld, Env.wipe, Env.lent, Option.map_none, nI, nL, nT, mLst, mTup, List.getElem?_cons_zero, List.getElem?_cons_succ, List.set_cons_zero, List.set_cons_succ, Option.some.injEq, exists_eq_left', exists_eq_left, true_and, and_true, List.map_cons, List.map_nil, List.cons_append, List.nil_append, List.append_nil, Option.bind_some, Option.map_some, List.length_cons, List.length_nil, ite_true, ite_false, Bool.false_eq_true, if_true, if_false, eq_self_iff_true, reduceCtorEq, false_and, and_false, w_add, w_mul, w_ix_vol, w_ix_lst, w_ix_tup, w_ix_rol, w_ix_br, w_ix_brT, w_len_lst, w_len_tup, w_len_rol, w_len_br, w_len_nw, outs_nil, ffz_lst, ffz_tup, List.replicate_succ, List.replicate_zero, List.length_map, decide_eq_true_eq, Bool.not_eq_true', decide_eq_false_iff_not, Bool.not_true, Bool.not_false, Bool.true_eq_false, w_eq_int, w_setP, pk0, pkc1, pkc2, pkb1, pkb2, Bool.bne_false, Bool.bne_true]
    rw [decide_eq_true (show ((pk fw n : Nat) : Int) < ((pk sz n : Nat) : Int) by omega)]
    exact item_snoc
  · have hz : (zipR (fw.map nI) (sz.map nI)).length = fw.length := by unfold zipR; rw [List.length_map, List.length_range, List.length_map, List.length_map]; omega
    have e : (List.range (zipR (fw.map nI) (sz.map nI)).length).map (fun _ => OT.leaf (.bl true)) = ((List.replicate fw.length true).map R.D.bl).map OT.leaf := by
      rw [hz, List.map_const', List.length_range, List.map_replicate, List.map_replicate]
    rw [e]
    have f := ffz_lst ((List.replicate fw.length true).map R.D.bl)
    unfold Rs.ffz at f
    rw [f]
    refine ⟨_, _, rfl, bls_of _, ?_⟩
    rw [all_true]
    exact ⟨trivial, h⟩

theorem wp_CupRow_init (cs : Cs) (ss : R.Env) (Q : Rs → R.Env → Prop) (h : F_CupRow_init cs ss Q) : m_CupRow_init cs (ss ++ List.replicate 2 none) { nx := fun e => Q (.fz .non) (outs [0] 3 e), rt := fun r e => Q r (outs [0] 3 e) } := by
  obtain ⟨sz, fw, x, hR, rfl, hx, h⟩ := h
  have hl := hR.fl
  have h30 := hR.l1
  unfold m_CupRow_init
  refine s_seq fun K hK => ?_
  simp only [mVar, mC, mOp, mUn, i2, oSub, oMod, oDiv, oPow, oLt, oLe, oGt, oGe, oNeg, mT, mAnd, mOr, mNot, mAndV, mOrV, mNotV, mIf, mCh, bLt, bLe, bGt, bGe, mNil, mCons, mFz, mNoP, mPart, mB, oInt1, oMin2, oMin3, oMax2, mNext, mAsgG, gN, mIfS, mRet, mRetN, mDrop, mBreak, mCont, mFzS, mYes, mSetVol, mSrc, mCall, Spec1.io, args, Rs.lend, Rs.arg, Rs.rd, Rs.ffz, Rs.own, Rs.slot, Rs.item, items, Rs.t, Rs.stays, mD0, oIs, OT.ty, mFld, Env.wipe, Env.lent, Option.map_none, nI, nL, nT, mLst, mTup, List.getElem?_cons_zero, List.getElem?_cons_succ, List.set_cons_zero, List.set_cons_succ, Option.some.injEq, exists_eq_left', exists_eq_left, true_and, and_true, List.map_cons, List.map_nil, List.cons_append, List.nil_append, List.append_nil, Option.bind_some, Option.map_some, List.length_cons, List.length_nil, ite_true, ite_false, Bool.false_eq_true, if_true, if_false, eq_self_iff_true, reduceCtorEq, false_and, and_false, w_add, w_mul, w_ix_vol, w_ix_lst, w_ix_tup, w_ix_rol, w_ix_br, w_ix_brT, w_len_lst, w_len_tup, w_len_rol, w_len_br, w_len_nw, outs_nil, ffz_lst, ffz_tup, List.replicate_succ, List.replicate_zero, List.length_map, decide_eq_true_eq, Bool.not_eq_true', decide_eq_false_iff_not, Bool.not_true, Bool.not_false, Bool.true_eq_false, w_eq_int, w_setP, pk0, pkc1, pkc2, pkb1, pkb2, Bool.bne_false, Bool.bne_true]
  refine ⟨sz, rfl, hR.l0, hR.l1, hR.s1, hR.sm, trivial, ?_⟩
  simp only [mVar, mC, mOp, mUn, i2, oSub, oMod, oDiv, oPow, oLt, oLe, oGt, oGe, oNeg, mT, mAnd, mOr, mNot, mAndV, mOrV, mNotV, mIf, mCh, bLt, bLe, bGt, bGe, mNil, mCons, mFz, mNoP, mPart, mB, oInt1, oMin2, oMin3, oMax2, mNext, mAsgG, gN, mIfS, mRet, mRetN, mDrop, mBreak, mCont, mFzS, mYes, mSetVol, mSrc, mCall, Spec1.io, args, Rs.lend, Rs.arg, Rs.rd, Rs.ffz, Rs.own, Rs.slot, Rs.item, items, Rs.t, Rs.stays, mD0, oIs, OT.ty, mFld, Env.wipe, Env.lent, Option.map_none, nI, nL, nT, mLst, mTup, List.getElem?_cons_zero, List.getElem?_cons_succ, List.set_cons_zero, List.set_cons_succ, Option.some.injEq, exists_eq_left', exists_eq_left, true_and, and_true, List.map_cons, List.map_nil, List.cons_append, List.nil_append, List.append_nil, Option.bind_some, Option.map_some, List.length_cons, List.length_nil, ite_true, ite_false, Bool.false_eq_true, if_true, if_false, eq_self_iff_true, reduceCtorEq, false_and, and_false, w_add, w_mul, w_ix_vol, w_ix_lst, w_ix_tup, w_ix_rol, w_ix_br, w_ix_brT, w_len_lst, w_len_tup, w_len_rol, w_len_br, w_len_nw, outs_nil, ffz_lst, ffz_tup, List.replicate_succ, List.replicate_zero, List.length_map, decide_eq_true_eq, Bool.not_eq_true', decide_eq_false_iff_not, Bool.not_true, Bool.not_false, Bool.true_eq_false, w_eq_int, w_setP, pk0, pkc1, pkc2, pkb1, pkb2, Bool.bne_false, Bool.bne_true]
  refine hK _ ?_
  refine s_seq fun K hK => ?_
  have hK2 : K [some (.nw (.ins cs.CupRow [] [])), fz (nL sz), fz x, fz (nL fw), none] := hK _ ?_
  · rcases hx with rfl | ⟨rfl, e⟩
    · simp only [mVar, mC, mOp, mUn, i2, oSub, oMod, oDiv, oPow, oLt, oLe, oGt, oGe, oNeg, mT, mAnd, mOr, mNot, mAndV, mOrV, mNotV, mIf, mCh, bLt, bLe, bGt, bGe, mNil, mCons, mFz, mNoP, mPart, mB, oInt1, oMin2, oMin3, oMax2, mNext, mAsgG, gN, mIfS, mRet, mRetN, mDrop, mBreak, mCont, mFzS, mYes, mSetVol, mSrc, mCall, Spec1.io, args, Rs.lend, Rs.arg, Rs.rd, Rs.ffz, Rs.own, Rs.slot, Rs.item, items, Rs.t, Rs.stays, mD0, oIs, OT.ty, mFld, Env.wipe, Env.lent, Option.map_none, nI, nL, nT, mLst, mTup, List.getElem?_cons_zero, List.getElem?_cons_succ, List.set_cons_zero, List.set_cons_succ, Option.some.injEq, exists_eq_left', exists_eq_left, true_and, and_true, List.map_cons, List.map_nil, List.cons_append, List.nil_append, List.append_nil, Option.bind_some, Option.map_some, List.length_cons, List.length_nil, ite_true, ite_false, Bool.false_eq_true, if_true, if_false, eq_self_iff_true, reduceCtorEq, false_and, and_false, w_add, w_mul, w_ix_vol, w_ix_lst, w_ix_tup, w_ix_rol, w_ix_br, w_ix_brT, w_len_lst, w_len_tup, w_len_rol, w_len_br, w_len_nw, outs_nil, ffz_lst, ffz_tup, List.replicate_succ, List.replicate_zero, List.length_map, decide_eq_true_eq, Bool.not_eq_true', decide_eq_false_iff_not, Bool.not_true, Bool.not_false, Bool.true_eq_false, w_eq_int, w_setP, pk0, pkc1, pkc2, pkb1, pkb2, Bool.bne_false, Bool.bne_true, oIsN, Rs.isNon] at hK2 ⊢
      exact hK2
    · simp only [mVar, mC, mOp, mUn, i2, oSub, oMod, oDiv, oPow, oLt, oLe, oGt, oGe, oNeg, mT, mAnd, mOr, mNot, mAndV, mOrV, mNotV, mIf, mCh, bLt, bLe, bGt, bGe, mNil, mCons, mFz, mNoP, mPart, mB, oInt1, oMin2, oMin3, oMax2, mNext, mAsgG, gN, mIfS, mRet, mRetN, mDrop, mBreak, mCont, mFzS, mYes, mSetVol, mSrc, mCall, Spec1.io, args, Rs.lend, Rs.arg, Rs.rd, Rs.ffz, Rs.own, Rs.slot, Rs.item, items, Rs.t, Rs.stays, mD0, oIs, OT.ty, mFld, Env.wipe, Env.lent, Option.map_none, nI, nL, nT, mLst, mTup, List.getElem?_cons_zero, List.getElem?_cons_succ, List.set_cons_zero, List.set_cons_succ, Option.some.injEq, exists_eq_left', exists_eq_left, true_and, and_true, List.map_cons, List.map_nil, List.cons_append, List.nil_append, List.append_nil, Option.bind_some, Option.map_some, List.length_cons, List.length_nil, ite_true, ite_false, Bool.false_eq_true, if_true, if_false, eq_self_iff_true, reduceCtorEq, false_and, and_false, w_add, w_mul, w_ix_vol, w_ix_lst, w_ix_tup, w_ix_rol, w_ix_br, w_ix_brT, w_len_lst, w_len_tup, w_len_rol, w_len_br, w_len_nw, outs_nil, ffz_lst, ffz_tup, List.replicate_succ, List.replicate_zero, List.length_map, decide_eq_true_eq, Bool.not_eq_true', decide_eq_false_iff_not, Bool.not_true, Bool.not_false, Bool.true_eq_false, w_eq_int, w_setP, pk0, pkc1, pkc2, pkb1, pkb2, Bool.bne_false, Bool.bne_true, oIsN, Rs.isNon] at hK2 ⊢
      refine ⟨by unfold sizeL; omega, w_rep 0 _ _ (by omega) (by omega) fun d _ => ⟨_, fz_lst _, ?_⟩⟩
      have e2 : fw.map nI = List.replicate ((sz.length : Int) - 1).toNat (R.D.int 0) := by
        rw [e, List.map_replicate, show ((sz.length : Int) - 1).toNat = sz.length - 1 by omega] <;> rfl
      rw [← e2]
      exact hK2
  · clear hK
    refine s_seq fun K hK => ?_
    simp only [mVar, mC, mOp, mUn, i2, oSub, oMod, oDiv, oPow, oLt, oLe, oGt, oGe, oNeg, mT, mAnd, mOr, mNot, mAndV, mOrV, mNotV, mIf, mCh, bLt, bLe, bGt, bGe, mNil, mCons, mFz, mNoP, mPart, mB, oInt1, oMin2, oMin3, oMax2, mNext, mAsgG, gN, mIfS, mRet, mRetN, mDrop, mBreak, mCont, mFzS, mYes, mSetVol, mSrc, mCall, Spec1.io, args, Rs.lend, Rs.arg, Rs.rd, Rs.ffz, Rs.own, Rs.slot, Rs.item, items, Rs.t, Rs.stays, mD0, oIs, OT.ty, mFld, Env.wipe, Env.lent, Option.map_none, nI, nL, nT, mLst, mTup, List.getElem?_cons_zero, List.getElem?_cons_succ, List.set_cons_zero, List.set_cons_succ, Option.some.injEq, exists_eq_left', exists_eq_left, true_and, and_true, List.map_cons, List.map_nil, List.cons_append, List.nil_append, List.append_nil, Option.bind_some, Option.map_some, List.length_cons, List.length_nil, ite_true, ite_false, Bool.false_eq_true, if_true, if_false, eq_self_iff_true, reduceCtorEq, false_and, and_false, w_add, w_mul, w_ix_vol, w_ix_lst, w_ix_tup, w_ix_rol, w_ix_br, w_ix_brT, w_len_lst, w_len_tup, w_len_rol, w_len_br, w_len_nw, outs_nil, ffz_lst, ffz_tup, List.replicate_succ, List.replicate_zero, List.length_map, decide_eq_true_eq, Bool.not_eq_true', decide_eq_false_iff_not, Bool.not_true, Bool.not_false, Bool.true_eq_false, w_eq_int, w_setP, pk0, pkc1, pkc2, pkb1, pkb2, Bool.bne_false, Bool.bne_true]
    refine ⟨sz, fw, hR, rfl, trivial, ?_⟩
    simp only [mVar, mC, mOp, mUn, i2, oSub, oMod, oDiv, oPow, oLt, oLe, oGt, oGe, oNeg, mT, mAnd, mOr, mNot, mAndV, mOrV, mNotV, mIf, mCh, bLt, bLe, bGt, bGe, mNil, mCons, mFz, mNoP, mPart, mB, oInt1, oMin2, oMin3, oMax2, mNext, mAsgG, gN, mIfS, mRet, mRetN, mDrop, mBreak, mCont, mFzS, mYes, mSetVol, mSrc, mCall, Spec1.io, args, Rs.lend, Rs.arg, Rs.rd, Rs.ffz, Rs.own, Rs.slot, Rs.item, items, Rs.t, Rs.stays, mD0, oIs, OT.ty, mFld, Env.wipe, Env.lent, Option.map_none, nI, nL, nT, mLst, mTup, List.getElem?_cons_zero, List.getElem?_cons_succ, List.set_cons_zero, List.set_cons_succ, Option.some.injEq, exists_eq_left', exists_eq_left, true_and, and_true, List.map_cons, List.map_nil, List.cons_append, List.nil_append, List.append_nil, Option.bind_some, Option.map_some, List.length_cons, List.length_nil, ite_true, ite_false, Bool.false_eq_true, if_true, if_false, eq_self_iff_true, reduceCtorEq, false_and, and_false, w_add, w_mul, w_ix_vol, w_ix_lst, w_ix_tup, w_ix_rol, w_ix_br, w_ix_brT, w_len_lst, w_len_tup, w_len_rol, w_len_br, w_len_nw, outs_nil, ffz_lst, ffz_tup, List.replicate_succ, List.replicate_zero, List.length_map, decide_eq_true_eq, Bool.not_eq_true', decide_eq_false_iff_not, Bool.not_true, Bool.not_false, Bool.true_eq_false, w_eq_int, w_setP, pk0, pkc1, pkc2, pkb1, pkb2, Bool.bne_false, Bool.bne_true]
    refine hK _ ?_
    refine s_seq fun K hK => ?_
    simp only [mVar, mC, mOp, mUn, i2, oSub, oMod, oDiv, oPow, oLt, oLe, oGt, oGe, oNeg, mT, mAnd, mOr, mNot, mAndV, mOrV, mNotV, mIf, mCh, bLt, bLe, bGt, bGe, mNil, mCons, mFz, mNoP, mPart, mB, oInt1, oMin2, oMin3, oMax2, mNext, mAsgG, gN, mIfS, mRet, mRetN, mDrop, mBreak, mCont, mFzS, mYes, mSetVol, mSrc, mCall, Spec1.io, args, Rs.lend, Rs.arg, Rs.rd, Rs.ffz, Rs.own, Rs.slot, Rs.item, items, Rs.t, Rs.stays, mD0, oIs, OT.ty, mFld, Env.wipe, Env.lent, Option.map_none, nI, nL, nT, mLst, mTup, List.getElem?_cons_zero, List.getElem?_cons_succ, List.set_cons_zero, List.set_cons_succ, Option.some.injEq, exists_eq_left', exists_eq_left, true_and, and_true, List.map_cons, List.map_nil, List.cons_append, List.nil_append, List.append_nil, Option.bind_some, Option.map_some, List.length_cons, List.length_nil, ite_true, ite_false, Bool.false_eq_true, if_true, if_false, eq_self_iff_true, reduceCtorEq, false_and, and_false, w_add, w_mul, w_ix_vol, w_ix_lst, w_ix_tup, w_ix_rol, w_ix_br, w_ix_brT, w_len_lst, w_len_tup, w_len_rol, w_len_br, w_len_nw, outs_nil, ffz_lst, ffz_tup, List.replicate_succ, List.replicate_zero, List.length_map, decide_eq_true_eq, Bool.not_eq_true', decide_eq_false_iff_not, Bool.not_true, Bool.not_false, Bool.true_eq_false, w_eq_int, w_setP, pk0, pkc1, pkc2, pkb1, pkb2, Bool.bne_false, Bool.bne_true]
    refine ⟨_, rfl, _, rfl, by decide, hK _ ?_⟩
    refine s_seq fun K hK => ?_
    simp only [mVar, mC, mOp, mUn, i2, oSub, oMod, oDiv, oPow, oLt, oLe, oGt, oGe, oNeg, mT, mAnd, mOr, mNot, mAndV, mOrV, mNotV, mIf, mCh, bLt, bLe, bGt, bGe, mNil, mCons, mFz, mNoP, mPart, mB, oInt1, oMin2, oMin3, oMax2, mNext, mAsgG, gN, mIfS, mRet, mRetN, mDrop, mBreak, mCont, mFzS, mYes, mSetVol, mSrc, mCall, Spec1.io, args, Rs.lend, Rs.arg, Rs.rd, Rs.ffz, Rs.own, Rs.slot, Rs.item, items, Rs.t, Rs.stays, mD0, oIs, OT.ty, mFld, Env.wipe, Env.lent, Option.map_none, nI, nL, nT, mLst, mTup, List.getElem?_cons_zero, List.getElem?_cons_succ, List.set_cons_zero, List.set_cons_succ, Option.some.injEq, exists_eq_left', exists_eq_left, true_and, and_true, List.map_cons, List.map_nil, List.cons_append, List.nil_append, List.append_nil, Option.bind_some, Option.map_some, List.length_cons, List.length_nil, ite_true, ite_false, Bool.false_eq_true, if_true, if_false, eq_self_iff_true, reduceCtorEq, false_and, and_false, w_add, w_mul, w_ix_vol, w_ix_lst, w_ix_tup, w_ix_rol, w_ix_br, w_ix_brT, w_len_lst, w_len_tup, w_len_rol, w_len_br, w_len_nw, outs_nil, ffz_lst, ffz_tup, List.replicate_succ, List.replicate_zero, List.length_map, decide_eq_true_eq, Bool.not_eq_true', decide_eq_false_iff_not, Bool.not_true, Bool.not_false, Bool.true_eq_false, w_eq_int, w_setP, pk0, pkc1, pkc2, pkb1, pkb2, Bool.bne_false, Bool.bne_true]
    refine ⟨_, rfl, _, rfl, by decide, hK _ ?_⟩
    refine s_seq fun K hK => ?_
    simp only [mVar, mC, mOp, mUn, i2, oSub, oMod, oDiv, oPow, oLt, oLe, oGt, oGe, oNeg, mT, mAnd, mOr, mNot, mAndV, mOrV, mNotV, mIf, mCh, bLt, bLe, bGt, bGe, mNil, mCons, mFz, mNoP, mPart, mB, oInt1, oMin2, oMin3, oMax2, mNext, mAsgG, gN, mIfS, mRet, mRetN, mDrop, mBreak, mCont, mFzS, mYes, mSetVol, mSrc, mCall, Spec1.io, args, Rs.lend, Rs.arg, Rs.rd, Rs.ffz, Rs.own, Rs.slot, Rs.item, items, Rs.t, Rs.stays, mD0, oIs, OT.ty, mFld, Env.wipe, Env.lent, Option.map_none, nI, nL, nT, mLst, mTup, List.getElem?_cons_zero, List.getElem?_cons_succ, List.set_cons_zero, List.set_cons_succ, Option.some.injEq, exists_eq_left', exists_eq_left, true_and, and_true, List.map_cons, List.map_nil, List.cons_append, List.nil_append, List.append_nil, Option.bind_some, Option.map_some, List.length_cons, List.length_nil, ite_true, ite_false, Bool.false_eq_true, if_true, if_false, eq_self_iff_true, reduceCtorEq, false_and, and_false, w_add, w_mul, w_ix_vol, w_ix_lst, w_ix_tup, w_ix_rol, w_ix_br, w_ix_brT, w_len_lst, w_len_tup, w_len_rol, w_len_br, w_len_nw, outs_nil, ffz_lst, ffz_tup, List.replicate_succ, List.replicate_zero, List.length_map, decide_eq_true_eq, Bool.not_eq_true', decide_eq_false_iff_not, Bool.not_true, Bool.not_false, Bool.true_eq_false, w_eq_int, w_setP, pk0, pkc1, pkc2, pkb1, pkb2, Bool.bne_false, Bool.bne_true]
    refine ⟨by unfold sizeL; omega, by decide, hK _ ?_⟩
    refine it_var_lst (ds := sz.map nI) rfl ⟨rfl, fun i e => ∃ y, e = [some (.nw (.ins cs.CupRow cupN [.leaf (nT sz), .leaf (nT fw), .lst ((List.range (i + 1)).map fun c => .leaf (nI (prodL (sz.take c))))])), fz (nL sz), fz x, fz (nL fw), y], ⟨_, rfl⟩, ?_, ?_⟩
    · rintro i r e hr ⟨y, rfl⟩
      obtain ⟨hi, rfl⟩ := get_nI hr
      have h9 := (hR.s1 _ (pk_mem hi)).2
      have er : ∀ i : Nat, ((List.range (i + 1)).map fun c => OT.leaf (nI (prodL (sz.take c)))) = ((List.range i).map fun c => OT.leaf (nI (prodL (sz.take c)))) ++ [OT.leaf (nI (prodL (sz.take i)))] := fun i => by rw [List.range_succ, List.map_append] <;> rfl
      refine ⟨trivial, ⟨_, rfl⟩, _, _, 2, rfl, ix_w, _, rfl, by rw [List.length_map, List.length_range]; unfold sizeL; omega, ?_⟩
      refine ⟨_, rfl, _, _, _, rfl, as2, ?_⟩
      refine ⟨_, _, rfl, by rw [er i]; exact at_last, ?_⟩
      refine ⟨_, rfl, .inr (by constructor <;> omega), _, rfl, some (.fz (nI (pk sz i))), ?_⟩
      rw [er (i + 1), take_snoc hi, prodL_snoc]
      show _ = [some (Rs.nw (.ins cs.CupRow cupN [.leaf (nT sz), .leaf (nT fw), .lst (_ ++ [OT.leaf (.int ((prodL (sz.take i) * pk sz i : Nat) : Int))])])), _, _, _, _]
      rw [Int.natCast_mul]
      rfl
    · rintro e ⟨y, rfl⟩
      have e1 : ((sz.map nI).map Rs.fz).length = sz.length := by rw [List.length_map, List.length_map]
      rw [e1]
      have e2 : cupT cs sz fw = .ins cs.CupRow cupN [.leaf (nT sz), .leaf (nT fw), .lst ((List.range (sz.length + 1)).map fun c => .leaf (nI (prodL (sz.take c))))] := by
        unfold cupT wts
        rw [List.map_map] <;> rfl
      rw [e2] at h
      exact h

theorem wp_CupRow_round_length (cs : Cs) (ss : R.Env) (Q : Rs → R.Env → Prop) (h : (F_CupRow_round_length cs).io ss Q) : m_CupRow_round_length cs (ss ++ List.replicate 0 none) { nx := fun e => Q (.fz .non) (outs [] 1 e), rt := fun r e => Q r (outs [] 1 e) } := by
  obtain ⟨sz, fw, rfl, h⟩ := h
  exact ⟨_, rfl, _, _, _, rfl, as2, nI (prodL sz), wts_last sz, trivial, h⟩

theorem wp_CupRow_min_members (cs : Cs) (ss : R.Env) (Q : Rs → R.Env → Prop) (h : (F_CupRow_min_members cs).io ss Q) : m_CupRow_min_members cs (ss ++ List.replicate 0 none) { nx := fun e => Q (.fz .non) (outs [] 1 e), rt := fun r e => Q r (outs [] 1 e) } := by
  obtain ⟨sz, fw, hR, rfl, h⟩ := h
  unfold m_CupRow_min_members
  refine ⟨_, rfl, _, _, _, rfl, as0, ?_⟩
  simp only [mNil, List.map_cons, List.map_nil]
  refine w_sum_tup ⟨_, rfl, _, _, _, rfl, as0, _, rfl, trivial, trivial, ?_⟩
  rw [show (R.D.int (((sz.sum : Nat) : Int) - (((sz.map nI).map OT.leaf).length : Nat) + 1)) = nI (least sz (fw.length + 1)) by rw [List.length_map, List.length_map, hR.leastN.1] <;> rfl]
  exact h

theorem wp_require_cups (cs : Cs) (ss : R.Env) (Q : Rs → R.Env → Prop) (h : (F_require_cups cs).io ss Q) : m_require_cups cs (ss ++ List.replicate 0 none) { nx := fun e => Q (.fz .non) (outs [] 1 e), rt := fun r e => Q r (outs [] 1 e) } := by
  obtain ⟨sz, fw, rfl, h⟩ := h
  simp only [m_require_cups, mVar, mC, mOp, mUn, i2, oSub, oMod, oDiv, oPow, oLt, oLe, oGt, oGe, oNeg, mT, mAnd, mOr, mNot, mAndV, mOrV, mNotV, mIf, mCh, bLt, bLe, bGt, bGe, mNil, mCons, mFz, mNoP, mPart, mB, oInt1, oMin2, oMin3, oMax2, mNext, mAsgG, gN, mIfS, mRet, mRetN, mDrop, mBreak, mCont, mFzS, mYes, mSetVol, mSrc, mCall, Spec1.io, args, Rs.lend, Rs.arg, Rs.rd, Rs.ffz, Rs.own, Rs.slot, Rs.item, items, Rs.t, Rs.stays, mD0, oIs, OT.ty, mFld, Env.wipe, Env.lent, Option.map_none, nI, nL, nT, mLst, mTup, List.getElem?_cons_zero, List.getElem?_cons_succ, List.set_cons_zero, List.set_cons_succ, Option.some.injEq, exists_eq_left', exists_eq_left, true_and, and_true, List.map_cons, List.map_nil, List.cons_append, List.nil_append, List.append_nil, Option.bind_some, Option.map_some, List.length_cons, List.length_nil, ite_true, ite_false, Bool.false_eq_true, if_true, if_false, eq_self_iff_true, reduceCtorEq, false_and, and_false, w_add, w_mul, w_ix_vol, w_ix_lst, w_ix_tup, w_ix_rol, w_ix_br, w_ix_brT, w_len_lst, w_len_tup, w_len_rol, w_len_br, w_len_nw, outs_nil, ffz_lst, ffz_tup, List.replicate_succ, List.replicate_zero, List.length_map, decide_eq_true_eq, Bool.not_eq_true', decide_eq_false_iff_not, Bool.not_true, Bool.not_false, Bool.true_eq_false, w_eq_int, w_setP, pk0, pkc1, pkc2, pkb1, pkb2, Bool.bne_false, Bool.bne_true] at h ⊢
  exact ⟨_, _, rfl, h⟩

theorem wp_cycles_of (cs : Cs) (ss : R.Env) (Q : Rs → R.Env → Prop) (h : (F_cycles_of cs).io ss Q) : m_cycles_of cs (ss ++ List.replicate 5 none) { nx := fun e => Q (.fz .non) (outs [] 1 e), rt := fun r e => Q r (outs [] 1 e) } := by
  obtain ⟨ord, n, hp, hn, rfl, h⟩ := h
  have hlen : ord.length = n := by rw [hp.length_eq, List.length_range]
  have T := Tg.of_perm hp
  have mem : ∀ k, k < n → k ∈ ord := fun k hk => hp.mem_iff.mpr (List.mem_range.mpr hk)
  have nd : ord.Nodup := hp.symm.nodup List.nodup_range
  generalize ht : tgt ord = t at *
  unfold m_cycles_of
  refine s_seq fun K hK => ?_
  simp only [mAsgG, mFz]
  refine lc_any (rng 0 n) true (fun k => .leaf (nI (t k))) (fun Q' q => ⟨_, rfl, _, rfl, by rw [List.length_map, List.length_map]; omega, by rw [List.length_map, List.length_map]; omega, by rw [List.length_map, List.length_map, hlen]; exact q⟩) (by rw [rng_len]; unfold sizeL; omega) (fun k r hr => ?_) ?_
  · have hk := (List.getElem?_eq_some_iff.mp hr).1
    rw [rng_len] at hk
    rw [rng_get hr]
    obtain ⟨s1, s2⟩ := tgt_spec (mem k hk)
    rw [ht] at s1 s2
    refine ⟨trivial, rfl, _, rfl, ord.map nI, rfl, _, rfl, t k, .inl ⟨(k : Int), ord.map fun (n : Nat) => (n : Int), by rw [Int.zero_add] <;> rfl, ints_nI ord, ?_, fun m hm e => ?_⟩, _, rfl, item_snoc⟩
    · rw [List.getElem?_map, List.getElem?_eq_getElem s1, ← pk_lt s1, s2] <;> rfl
    · have hm2 : m < ord.length := by omega
      rw [List.getElem?_map, List.getElem?_eq_getElem hm2, ← pk_lt hm2] at e
      have e2 : ((pk ord m : Nat) : Int) = (k : Int) := Option.some.inj e
      have := nodup_pk nd hm2 s1 (by rw [s2]; omega)
      omega
  · rw [rng_len]
    have e : (List.range n).map (fun k => OT.leaf (nI (t k))) = (((List.range n).map t).map nI).map .leaf := by rw [List.map_map, List.map_map] <;> rfl
    rw [e]
    refine ⟨nL ((List.range n).map t), fz_lst _, trivial, hK _ ?_⟩
    clear hK
    have ptg : ∀ k, k < n → k < ((List.range n).map t).length ∧ pk ((List.range n).map t) k = t k := fun k hk => by
      have h1 : k < ((List.range n).map t).length := by rw [List.length_map, List.length_range]; exact hk
      exact ⟨h1, by rw [pk_lt h1, List.getElem_map, List.getElem_range]⟩
    generalize (List.range n).map t = tg at *
    refine s_seq fun K hK => ?_
    refine ⟨[], rfl, Nat.zero_le _, nL [], .lst .nil, trivial, hK _ ?_⟩
    clear hK
    refine s_seq fun K hK => ?_
    refine ⟨[], rfl, Nat.zero_le _, trivial, hK _ ?_⟩
    clear hK
    refine s_seq fun K hK => ?_
    refine ⟨_, rfl, _, rfl, by rw [List.length_map, List.length_map]; omega, by rw [List.length_map, List.length_map]; omega, rfl, fun i e => ∃ y4 y5, e = [fz (nL ord), fz (nL tg), fz (nL (cycs t n i).flatten), some (.nw (.lst ((cycs t n i).map fun c => .leaf (nL c)))), y4, y5], ⟨_, _, rfl⟩, ?_, ?_⟩
    · clear hK
      rintro i r e hr ⟨y4, y5, rfl⟩
      have hi := (List.getElem?_eq_some_iff.mp hr).1
      rw [rng_len, List.length_map, List.length_map, hlen] at hi
      have hi : i < n := by omega
      rw [rng_get hr, show (R.D.int (0 + (i : Int))) = nI i by rw [Int.zero_add] <;> rfl]
      have s := cycs_ok T (i := i) (by omega)
      have fl := nodup_le s.nd fun x m => s.lt m
      have cl : (cycs t n i).length ≤ n := by
        have nds : ((cycs t n i).map fun c => pk c 0).Nodup := List.nodup_iff_pairwise_ne.mpr (s.st.imp fun h => by omega)
        have := nodup_le (n := n) nds fun x m => by
          obtain ⟨c, hc, rfl⟩ := List.mem_map.mp m
          obtain ⟨j, _, o, _⟩ := s.all c hc
          exact o.lt _ (pk_mem o.h0)
        rw [List.length_map] at this
        exact this
      refine ⟨trivial, ?_⟩
      refine if_of (decide ((i : Int) ∈ (cycs t n i).flatten.map fun (n : Nat) => (n : Int)) != true) (fun P hP => ⟨_, rfl, _, rfl, _, .inl rfl, .inl ⟨_, _, rfl, ints_nI _, hP⟩⟩) (fun hb => ?_) (fun hb => ?_)
      · have hm : i ∉ (cycs t n i).flatten := by
          intro m
          rw [decide_eq_true (List.mem_map.mpr ⟨i, m, rfl⟩)] at hb
          cases hb
        have hcy : cycs t n (i + 1) = cycs t n i ++ [cycleOf t n i] := by rw [cycs, if_neg hm]
        have hco := cycleOf_cyc T hi
        have hfl2 : (cycs t n i).flatten.length + (cycleOf t n i).length ≤ n := by
          have s2 := cycs_ok T (i := i + 1) (by omega)
          have := nodup_le s2.nd fun x m => s2.lt m
          rw [hcy, List.flatten_append, List.flatten_singleton, List.length_append] at this
          exact this
        generalize hC : cycleOf t n i = C at *
        generalize hS : (cycs t n i).flatten = S at *
        generalize hCS : cycs t n i = CSs at *
        refine s_seq fun K hK => ?_
        refine ⟨_, rfl, [.leaf (nI i)], rfl, by show 1 ≤ sizeL; unfold sizeL; omega, trivial, hK _ ?_⟩
        clear hK
        refine s_seq fun K hK => ?_
        refine while_of (fun m e => ∃ c : List Nat, Orb t n i c ∧ cycLoop t i (n - c.length) c = C ∧ m = n - c.length ∧ e = [fz (nL ord), fz (nL tg), fz (nL S), some (.nw (.lst (CSs.map fun c => .leaf (nL c)))), fz (nI i), some (.nw (.lst (c.map fun n => .leaf (nI n))))]) (n - 1) ⟨[i], .start hi, hC, rfl, rfl⟩ ?_
        rintro m e ⟨c, o, hc, rfl, rfl⟩
        have h0 := o.h0
        have ln := o.len
        have hlast := o.lt _ o.last
        obtain ⟨g1, g2⟩ := ptg _ hlast
        have atl : at' (c.map fun n => OT.leaf (nI n)) (-1) = some (.leaf (nI (lastN c))) := by
          have e : c = c.take (c.length - 1) ++ [lastN c] := by
            have := take_snoc (l := c) (c := c.length - 1) (by omega)
            rw [show c.length - 1 + 1 = c.length by omega, List.take_length] at this
            exact this
          rw [e, List.map_append]
          have e2 : lastN (c.take (c.length - 1) ++ [lastN c]) = lastN c := by rw [← e]
          rw [e2]
          exact at_last
        refine ⟨decide (((t (lastN c) : Nat) : Int) = (i : Nat)) != true, fun P hP => ⟨_, rfl, _, rfl, _, _, rfl, atl, nI (pk tg (lastN c)), at_get rfl g1, _, rfl, ?_⟩, fun hb => ?_, fun hb => hK _ ?_⟩
        · show oEq true (.fz (.int (pk tg (lastN c)))) (.fz (.int i)) _
          rw [w_eq_int, g2]
          exact hP
        · have hne : t (lastN c) ≠ i := by
            intro z
            rw [z] at hb
            simp at hb
          have st := o.step T hne
          have sl := st.len
          rw [List.length_append, List.length_singleton] at sl
          refine ⟨⟨_, rfl⟩, _, rfl, by rw [List.length_map]; unfold sizeL; omega, _, rfl, _, rfl, _, _, rfl, atl, nI (pk tg (lastN c)), at_get rfl g1, _, rfl, n - (c.length + 1), by omega, c ++ [t (lastN c)], st, ?_, by rw [List.length_append, List.length_singleton], ?_⟩
          · rw [← hc, List.length_append, List.length_singleton]
            have e : n - c.length = (n - (c.length + 1)) + 1 := by omega
            rw [e, cycLoop, if_neg hne]
          · rw [g2, ← snoc_leaf]
            rfl
        · clear hK
          have hz : t (lastN c) = i := by
            have : ((t (lastN c) : Nat) : Int) = (i : Nat) := by simpa using hb
            omega
          rw [cycLoop_end hz] at hc
          subst hc
          refine s_seq fun K hK => ?_
          refine ⟨_, nL c, rfl, by rw [leafs_nI]; exact fz_lst _, ?_⟩
          refine ⟨_, rfl, _, rfl, .inl ⟨_, _, rfl, rfl, by rw [List.length_map, List.length_map]; unfold sizeL; omega, nL (S ++ c), by rw [← List.map_append]; exact fz_lst _, trivial, hK _ ?_⟩⟩
          clear hK
          refine ⟨⟨_, rfl⟩, _, rfl, by rw [List.length_map]; unfold sizeL; omega, _, rfl, _, rfl, fz (nI i), fz (nL c), ?_⟩
          rw [hcy, List.flatten_append, List.flatten_singleton, List.map_append, hS]
          rfl
      · have hm : i ∈ (cycs t n i).flatten := by
          apply Classical.byContradiction
          intro m
          rw [decide_eq_false] at hb
          · cases hb
          · intro m2
            obtain ⟨x, hx, e⟩ := List.mem_map.mp m2
            have : x = i := by omega
            exact m (this ▸ hx)
        refine ⟨fz (nI i), y5, ?_⟩
        rw [cycs, if_pos hm]
        rfl
    · rintro e ⟨y4, y5, rfl⟩
      rw [rng_len, List.length_map, List.length_map, hlen, show ((n : Nat) : Int).toNat = n from Int.toNat_natCast n]
      refine hK _ ⟨_, .lst ((cycs t n n).map nL), rfl, ?_, ?_⟩
      · have e : ((cycs t n n).map fun c => OT.leaf (nL c)) = ((cycs t n n).map nL).map .leaf := by rw [List.map_map] <;> rfl
        rw [e]
        exact fz_lst _
      · exact ⟨_, rfl, trivial, h⟩

theorem wp_Blocks_init (cs : Cs) (ss : R.Env) (Q : Rs → R.Env → Prop) (h : F_Blocks_init cs ss Q) : m_Blocks_init cs (ss ++ List.replicate 0 none) { nx := fun e => Q (.fz .non) (outs [0] 2 e), rt := fun r e => Q r (outs [0] 2 e) } := by
  obtain ⟨sz, fw, rfl, h⟩ := h
  unfold m_Blocks_init
  refine s_seq fun K hK => ?_
  simp only [mVar, mC, mOp, mUn, i2, oSub, oMod, oDiv, oPow, oLt, oLe, oGt, oGe, oNeg, mT, mAnd, mOr, mNot, mAndV, mOrV, mNotV, mIf, mCh, bLt, bLe, bGt, bGe, mNil, mCons, mFz, mNoP, mPart, mB, oInt1, oMin2, oMin3, oMax2, mNext, mAsgG, gN, mIfS, mRet, mRetN, mDrop, mBreak, mCont, mFzS, mYes, mSetVol, mSrc, mCall, Spec1.io, args, Rs.lend, Rs.arg, Rs.rd, Rs.ffz, Rs.own, Rs.slot, Rs.item, items, Rs.t, Rs.stays, mD0, oIs, OT.ty, mFld, Env.wipe, Env.lent, Option.map_none, nI, nL, nT, mLst, mTup, List.getElem?_cons_zero, List.getElem?_cons_succ, List.set_cons_zero, List.set_cons_succ, Option.some.injEq, exists_eq_left', exists_eq_left, true_and, and_true, List.map_cons, List.map_nil, List.cons_append, List.nil_append, List.append_nil, Option.bind_some, Option.map_some, List.length_cons, List.length_nil, ite_true, ite_false, Bool.false_eq_true, if_true, if_false, eq_self_iff_true, reduceCtorEq, false_and, and_false, w_add, w_mul, w_ix_vol, w_ix_lst, w_ix_tup, w_ix_rol, w_ix_br, w_ix_brT, w_len_lst, w_len_tup, w_len_rol, w_len_br, w_len_nw, outs_nil, ffz_lst, ffz_tup, List.replicate_succ, List.replicate_zero, List.length_map, decide_eq_true_eq, Bool.not_eq_true', decide_eq_false_iff_not, Bool.not_true, Bool.not_false, Bool.true_eq_false, w_eq_int, w_setP, pk0, pkc1, pkc2, pkb1, pkb2, Bool.bne_false, Bool.bne_true]
  refine ⟨by decide, hK _ ?_⟩
  refine s_seq fun K hK => ?_
  simp only [mVar, mC, mOp, mUn, i2, oSub, oMod, oDiv, oPow, oLt, oLe, oGt, oGe, oNeg, mT, mAnd, mOr, mNot, mAndV, mOrV, mNotV, mIf, mCh, bLt, bLe, bGt, bGe, mNil, mCons, mFz, mNoP, mPart, mB, oInt1, oMin2, oMin3, oMax2, mNext, mAsgG, gN, mIfS, mRet, mRetN, mDrop, mBreak, mCont, mFzS, mYes, mSetVol, mSrc, mCall, Spec1.io, args, Rs.lend, Rs.arg, Rs.rd, Rs.ffz, Rs.own, Rs.slot, Rs.item, items, Rs.t, Rs.stays, mD0, oIs, OT.ty, mFld, Env.wipe, Env.lent, Option.map_none, nI, nL, nT, mLst, mTup, List.getElem?_cons_zero, List.getElem?_cons_succ, List.set_cons_zero, List.set_cons_succ, Option.some.injEq, exists_eq_left', exists_eq_left, true_and, and_true, List.map_cons, List.map_nil, List.cons_append, List.nil_append, List.append_nil, Option.bind_some, Option.map_some, List.length_cons, List.length_nil, ite_true, ite_false, Bool.false_eq_true, if_true, if_false, eq_self_iff_true, reduceCtorEq, false_and, and_false, w_add, w_mul, w_ix_vol, w_ix_lst, w_ix_tup, w_ix_rol, w_ix_br, w_ix_brT, w_len_lst, w_len_tup, w_len_rol, w_len_br, w_len_nw, outs_nil, ffz_lst, ffz_tup, List.replicate_succ, List.replicate_zero, List.length_map, decide_eq_true_eq, Bool.not_eq_true', decide_eq_false_iff_not, Bool.not_true, Bool.not_false, Bool.true_eq_false, w_eq_int, w_setP, pk0, pkc1, pkc2, pkb1, pkb2, Bool.bne_false, Bool.bne_true]
  refine ⟨by decide, hK _ ?_⟩
  simp only [mVar, mC, mOp, mUn, i2, oSub, oMod, oDiv, oPow, oLt, oLe, oGt, oGe, oNeg, mT, mAnd, mOr, mNot, mAndV, mOrV, mNotV, mIf, mCh, bLt, bLe, bGt, bGe, mNil, mCons, mFz, mNoP, mPart, mB, oInt1, oMin2, oMin3, oMax2, mNext, mAsgG, gN, mIfS, mRet, mRetN, mDrop, mBreak, mCont, mFzS, mYes, mSetVol, mSrc, mCall, Spec1.io, args, Rs.lend, Rs.arg, Rs.rd, Rs.ffz, Rs.own, Rs.slot, Rs.item, items, Rs.t, Rs.stays, mD0, oIs, OT.ty, mFld, Env.wipe, Env.lent, Option.map_none, nI, nL, nT, mLst, mTup, List.getElem?_cons_zero, List.getElem?_cons_succ, List.set_cons_zero, List.set_cons_succ, Option.some.injEq, exists_eq_left', exists_eq_left, true_and, and_true, List.map_cons, List.map_nil, List.cons_append, List.nil_append, List.append_nil, Option.bind_some, Option.map_some, List.length_cons, List.length_nil, ite_true, ite_false, Bool.false_eq_true, if_true, if_false, eq_self_iff_true, reduceCtorEq, false_and, and_false, w_add, w_mul, w_ix_vol, w_ix_lst, w_ix_tup, w_ix_rol, w_ix_br, w_ix_brT, w_len_lst, w_len_tup, w_len_rol, w_len_br, w_len_nw, outs_nil, ffz_lst, ffz_tup, List.replicate_succ, List.replicate_zero, List.length_map, decide_eq_true_eq, Bool.not_eq_true', decide_eq_false_iff_not, Bool.not_true, Bool.not_false, Bool.true_eq_false, w_eq_int, w_setP, pk0, pkc1, pkc2, pkb1, pkb2, Bool.bne_false, Bool.bne_true]
  exact ⟨by decide, h⟩

theorem wp_Blocks_entering (cs : Cs) (b : Nat) (ss : R.Env) (Q : Rs → R.Env → Prop) (h : (F_Blocks_entering cs b).io ss Q) : m_Blocks_entering cs b (ss ++ List.replicate 3 none) { nx := fun e => Q (.fz .non) (outs [] 3 e), rt := fun r e => Q r (outs [] 3 e) } := by
  obtain ⟨sz, fw, c, n, hR, rfl, hb, hc, hl, hn, h⟩ := h
  have hfl := hR.fl
  have h30 := hR.l1
  unfold m_Blocks_entering
  refine s_seq fun K hK => ?_
  simp only [mVar, mC, mOp, mUn, i2, oSub, oMod, oDiv, oPow, oLt, oLe, oGt, oGe, oNeg, mT, mAnd, mOr, mNot, mAndV, mOrV, mNotV, mIf, mCh, bLt, bLe, bGt, bGe, mNil, mCons, mFz, mNoP, mPart, mB, oInt1, oMin2, oMin3, oMax2, mNext, mAsgG, gN, mIfS, mRet, mRetN, mDrop, mBreak, mCont, mFzS, mYes, mSetVol, mSrc, mCall, Spec1.io, args, Rs.lend, Rs.arg, Rs.rd, Rs.ffz, Rs.own, Rs.slot, Rs.item, items, Rs.t, Rs.stays, mD0, oIs, OT.ty, mFld, Env.wipe, Env.lent, Option.map_none, nI, nL, nT, mLst, mTup, List.getElem?_cons_zero, List.getElem?_cons_succ, List.set_cons_zero, List.set_cons_succ, Option.some.injEq, exists_eq_left', exists_eq_left, true_and, and_true, List.map_cons, List.map_nil, List.cons_append, List.nil_append, List.append_nil, Option.bind_some, Option.map_some, List.length_cons, List.length_nil, ite_true, ite_false, Bool.false_eq_true, if_true, if_false, eq_self_iff_true, reduceCtorEq, false_and, and_false, w_add, w_mul, w_ix_vol, w_ix_lst, w_ix_tup, w_ix_rol, w_ix_br, w_ix_brT, w_len_lst, w_len_tup, w_len_rol, w_len_br, w_len_nw, outs_nil, ffz_lst, ffz_tup, List.replicate_succ, List.replicate_zero, List.length_map, decide_eq_true_eq, Bool.not_eq_true', decide_eq_false_iff_not, Bool.not_true, Bool.not_false, Bool.true_eq_false, w_eq_int, w_setP, pk0, pkc1, pkc2, pkb1, pkb2, Bool.bne_false, Bool.bne_true]
  split
  · rename_i hz
    have hz : c = 0 := by omega
    subst hz
    refine ⟨_, rfl, 1, n, rfl, rfl, by omega, by omega, by omega, by omega, _, rfl, by show 2 ≤ sizeL; unfold sizeL; omega, entD sz fw 0 n, ?_, h⟩
    rw [if_pos rfl, irng1]
    exact .tup (.cons (.leaf _) (.cons (fz_tup _) .nil))
  · rename_i hz
    refine hK _ ?_
    obtain ⟨c, rfl⟩ : ∃ c', c = c' + 1 := ⟨c - 1, by omega⟩
    have ec : ((c + 1 : Nat) : Int) - 1 = (c : Int) := by omega
    have C := hR.cups hc
    have hs := C.s1 c (by omega)
    have hf1 := C.f1 c (by omega)
    obtain ⟨f1, f2, _⟩ := fill_at C.down (by omega) hs hl (Nat.le_refl _)
    refine ⟨blkN, _, 0, _, [.inl ((c + 1 : Nat) : Int), .inl (n : Int)], entD sz fw (c + 1) n, rfl, fo, rfl, memo_ent sz fw (by omega) (by omega), ?_, fun e2 => h⟩
    refine ⟨_, rfl, blkN, _, rfl, nc_fill, _, rfl, trivial, _, rfl, rfl, ?_⟩
    have h9 := (hR.s1 _ (pk_mem (show c < sz.length by omega))).2
    have f1 : (fil sz fw c n).1.length = pk sz c := f1
    refine ⟨sz, fw, c, n, hR, by show [_, fz (.int (((c + 1 : Nat) : Int) - 1)), _] = _; rw [ec] <;> rfl, hb, by omega, hl, hn, trivial, _, rfl, rfl, trivial, trivial, ?_⟩
    refine ⟨⟨_, rfl⟩, _, rfl, ?_⟩
    refine ⟨_, rfl, _, _, _, rfl, ab0, _, _, _, rfl, as1, _, rfl, trivial, _, at_get (c := c) ec (by omega), _, pk fw c, nI (pk (fil sz fw c n).1 (pk fw c)), rfl, by omega, by omega, ?_, get_leaf (by omega), ?_⟩
    · rw [List.length_map]
      exact ixN_nat (by omega)
    · clear hK
      rw [erase_leaf]
      refine ⟨_, rfl, _, rfl, _, rfl, .inl ⟨_, _, rfl, leaves_nI _, ?_, ?_⟩⟩
      · rw [List.length_map, List.length_map, List.length_eraseIdx, f1]
        have : (fil sz fw c n).2.length = n - pk sz c := f2
        rw [this]
        unfold sizeL
        split <;> omega
      · rw [← List.map_append]
        simp only [mNil, List.map_cons, List.map_nil]
        refine w_tuple_nw ⟨_, rfl, by show 2 ≤ sizeL; unfold sizeL; omega, _, rfl, ?_⟩
        exact .tup (.cons (.leaf _) (.cons (.leaf _) .nil))

theorem wp_Blocks_filling (cs : Cs) (b : Nat) (ss : R.Env) (Q : Rs → R.Env → Prop) (h : (F_Blocks_filling cs b).io ss Q) : m_Blocks_filling cs b (ss ++ List.replicate 6 none) { nx := fun e => Q (.fz .non) (outs [] 3 e), rt := fun r e => Q r (outs [] 3 e) } := by
  obtain ⟨sz, fw, c, n, hR, rfl, hb, hc, hl, hn, h⟩ := h
  have hfl := hR.fl
  have h30 := hR.l1
  have C := hR.cups hc
  have hcl : c < sz.length := by omega
  have hs := hR.s1 _ (pk_mem hcl)
  unfold m_Blocks_filling
  refine s_seq fun K hK => ?_
  simp only [mVar, mC, mOp, mUn, i2, oSub, oMod, oDiv, oPow, oLt, oLe, oGt, oGe, oNeg, mT, mAnd, mOr, mNot, mAndV, mOrV, mNotV, mIf, mCh, bLt, bLe, bGt, bGe, mNil, mCons, mFz, mNoP, mPart, mB, oInt1, oMin2, oMin3, oMax2, mNext, mAsgG, gN, mIfS, mRet, mRetN, mDrop, mBreak, mCont, mFzS, mYes, mSetVol, mSrc, mCall, Spec1.io, args, Rs.lend, Rs.arg, Rs.rd, Rs.ffz, Rs.own, Rs.slot, Rs.item, items, Rs.t, Rs.stays, mD0, oIs, OT.ty, mFld, Env.wipe, Env.lent, Option.map_none, nI, nL, nT, mLst, mTup, List.getElem?_cons_zero, List.getElem?_cons_succ, List.set_cons_zero, List.set_cons_succ, Option.some.injEq, exists_eq_left', exists_eq_left, true_and, and_true, List.map_cons, List.map_nil, List.cons_append, List.nil_append, List.append_nil, Option.bind_some, Option.map_some, List.length_cons, List.length_nil, ite_true, ite_false, Bool.false_eq_true, if_true, if_false, eq_self_iff_true, reduceCtorEq, false_and, and_false, w_add, w_mul, w_ix_vol, w_ix_lst, w_ix_tup, w_ix_rol, w_ix_br, w_ix_brT, w_len_lst, w_len_tup, w_len_rol, w_len_br, w_len_nw, outs_nil, ffz_lst, ffz_tup, List.replicate_succ, List.replicate_zero, List.length_map, decide_eq_true_eq, Bool.not_eq_true', decide_eq_false_iff_not, Bool.not_true, Bool.not_false, Bool.true_eq_false, w_eq_int, w_setP, pk0, pkc1, pkc2, pkb1, pkb2, Bool.bne_false, Bool.bne_true]
  refine ⟨by unfold sizeL; omega, hK _ ?_⟩
  refine s_seq fun K hK => ?_
  refine ⟨_, rfl, 0, n, rfl, rfl, by omega, by omega, by omega, by omega, nL (List.range n), ?_, trivial, hK _ ?_⟩
  · rw [if_neg Bool.false_ne_true, irng0]
    exact fz_lst _
  refine s_seq fun K hK => ?_
  refine ⟨_, rfl, _, _, _, rfl, ab0, _, _, _, rfl, as0, _, rfl, _, at_get rfl hcl, by omega, by omega, rfl, ?_⟩
  refine ⟨fun i e => ∃ y5 y6 y7 y8 : Option Rs, e = [fz (blkD cs sz fw), fz (nI c), fz (nI n), some (.nw (.lst ((fillN (ent sz fw c) i ([], List.range n)).1.map fun n => .leaf (nI n)))), fz (nL (fillN (ent sz fw c) i ([], List.range n)).2), y5, y6, y7, y8], ⟨_, _, _, _, rfl⟩, ?_, ?_⟩
  · rintro i r e hr ⟨y5, y6, y7, y8, rfl⟩
    rw [Int.toNat_natCast] at hr
    have hi := (List.getElem?_eq_some_iff.mp hr).1
    rw [rng_len] at hi
    rw [rng_get hr]
    obtain ⟨f1, f2, f3⟩ := fill_at C hcl hs.1 hl (Nat.le_of_lt hi)
    have f3 := f3 hi
    have hp := ent_perm C f3
    generalize hw : fillN (ent sz fw c) i ([], List.range n) = w at f1 f2
    refine ⟨trivial, ?_⟩
    refine s_seq fun K hK => ?_
    refine ⟨_, rfl, blkN, _, rfl, nc_ent, _, rfl, _, rfl, _, rfl, rfl, ?_⟩
    have el : ((w.2.map nI).map OT.leaf).length = n - i := by rw [List.length_map, List.length_map, f2]
    refine ⟨sz, fw, c, n - i, hR, by show [_, _, fz (.int (((w.2.map nI).map OT.leaf).length : Int))] = _; rw [el] <;> rfl, by omega, hc, f3, by omega, trivial, ?_⟩
    refine gT2_fz (hK _ ?_)
    clear hK
    obtain ⟨l1, l2⟩ := hp.lt
    refine s_seq fun K hK => ?_
    refine ⟨⟨_, rfl⟩, _, rfl, by rw [List.length_map, f1]; unfold sizeL; omega, _, rfl, _, rfl, _, at_get rfl (by rw [f2]; exact l1), _, rfl, hK _ ?_⟩
    clear hK
    simp only [mAsgG, mFz]
    refine lc_any (((ent sz fw c (n - i)).2.map nI).map Rs.fz) true (fun k => .leaf (nI (pk w.2 (pk (ent sz fw c (n - i)).2 k)))) (fun Q' q => it_var_tup rfl q) (by rw [List.length_map, List.length_map]; have := hp.len; unfold sizeL; omega) (fun k r hr => ?_) ?_
    · obtain ⟨hk, rfl⟩ := get_nI hr
      refine ⟨trivial, rfl, _, rfl, _, rfl, _, at_get rfl (by rw [f2]; exact l2 _ (pk_mem hk)), _, rfl, ?_⟩
      rw [List.range_succ, List.map_append] <;> rfl
    · have e := fillN_succ (e := ent sz fw c) i ([], List.range n)
      rw [hw, f2] at e
      refine ⟨nL ((ent sz fw c (n - i)).2.map (pk w.2)), ?_, trivial, ?_⟩
      · rw [List.length_map, List.length_map]
        have e2 : (List.range (ent sz fw c (n - i)).2.length).map (fun k => OT.leaf (nI (pk w.2 (pk (ent sz fw c (n - i)).2 k)))) = (((ent sz fw c (n - i)).2.map (pk w.2)).map nI).map .leaf := by
          rw [List.map_map, List.map_map]
          exact range_map_pk (ent sz fw c (n - i)).2 fun k => OT.leaf (nI (pk w.2 k))
        rw [e2]
        exact fz_lst _
      · refine ⟨some (.fz (.int (0 + (i : Int)))), some (.fz (nI (ent sz fw c (n - i)).1)), some (.fz (nT (ent sz fw c (n - i)).2)), y8, ?_⟩
        show _ = [_, _, _, some (Rs.nw (.lst ((fillN (ent sz fw c) (i + 1) ([], List.range n)).1.map fun n => .leaf (nI n)))), fz (nL (fillN (ent sz fw c) (i + 1) ([], List.range n)).2), _, _, _, _]
        rw [e]
        show _ = [_, _, _, some (Rs.nw (.lst ((w.1 ++ [pk w.2 (ent sz fw c (n - i)).1]).map fun n => .leaf (nI n)))), _, _, _, _, _]
        rw [List.map_append]
        rfl
  · rintro e ⟨y5, y6, y7, y8, rfl⟩
    rw [rng_len, Int.toNat_natCast]
    exact hK _ ⟨_, _, rfl, h⟩

theorem wp_Blocks_whole_round (cs : Cs) (ss : R.Env) (Q : Rs → R.Env → Prop) (h : (F_Blocks_whole_round cs).io ss Q) : m_Blocks_whole_round cs (ss ++ List.replicate 2 none) { nx := fun e => Q (.fz .non) (outs [] 2 e), rt := fun r e => Q r (outs [] 2 e) } := by
  obtain ⟨sz, fw, n, hR, rfl, hl, hn, h⟩ := h
  have hfl := hR.fl
  have h30 := hR.l1
  have hp := hR.rnd hl
  unfold m_Blocks_whole_round
  refine s_seq fun K hK => ?_
  refine ⟨_, rfl, blkN, _, rfl, nc_fill, _, rfl, _, _, _, rfl, ab0, _, _, _, rfl, as0, _, rfl, trivial, _, rfl, rfl, sz, fw, fw.length, n, hR, ?_, by omega, Nat.le_refl _, hl, hn, trivial, .tup [nL (fil sz fw fw.length n).1, nL (fil sz fw fw.length n).2], .tup (.cons (by rw [leafs_nI]; exact fz_lst _) (.cons (.leaf _) .nil)), gT2_fz (hK _ ?_)⟩
  · show [_, fz (.int ((((sz.map nI).map OT.leaf).length : Nat) - 1)), _] = _
    rw [List.length_map, List.length_map, show ((sz.length : Nat) : Int) - 1 = (fw.length : Nat) by omega] <;> rfl
  have hlen := hp.length_eq
  rw [List.length_range] at hlen
  unfold rnd at hlen
  rw [List.length_append] at hlen
  refine ⟨_, rfl, _, rfl, .inl ⟨_, _, rfl, rfl, by rw [List.length_map, List.length_map]; unfold sizeL; omega, trivial, ?_⟩⟩
  rw [leafs_nI] at h
  unfold rnd at h
  rw [List.map_append] at h
  exact h

theorem wp_require_count (cs : Cs) (ss : R.Env) (Q : Rs → R.Env → Prop) (h : (F_require_count cs).io ss Q) : m_require_count cs (ss ++ List.replicate 0 none) { nx := fun e => Q (.fz .non) (outs [] 2 e), rt := fun r e => Q r (outs [] 2 e) } := by
  obtain ⟨v, m, rfl, h1, h2, h⟩ := h
  simp only [m_require_count, mVar, mC, mOp, mUn, i2, oSub, oMod, oDiv, oPow, oLt, oLe, oGt, oGe, oNeg, mT, mAnd, mOr, mNot, mAndV, mOrV, mNotV, mIf, mCh, bLt, bLe, bGt, bGe, mNil, mCons, mFz, mNoP, mPart, mB, oInt1, oMin2, oMin3, oMax2, mNext, mAsgG, gN, mIfS, mRet, mRetN, mDrop, mBreak, mCont, mFzS, mYes, mSetVol, mSrc, mCall, Spec1.io, args, Rs.lend, Rs.arg, Rs.rd, Rs.ffz, Rs.own, Rs.slot, Rs.item, items, Rs.t, Rs.stays, mD0, oIs, OT.ty, mFld, Env.wipe, Env.lent, Option.map_none, nI, nL, nT, mLst, mTup, List.getElem?_cons_zero, List.getElem?_cons_succ, List.set_cons_zero, List.set_cons_succ, Option.some.injEq, exists_eq_left', exists_eq_left, true_and, and_true, List.map_cons, List.map_nil, List.cons_append, List.nil_append, List.append_nil, Option.bind_some, Option.map_some, List.length_cons, List.length_nil, ite_true, ite_false, Bool.false_eq_true, if_true, if_false, eq_self_iff_true, reduceCtorEq, false_and, and_false, w_add, w_mul, w_ix_vol, w_ix_lst, w_ix_tup, w_ix_rol, w_ix_br, w_ix_brT, w_len_lst, w_len_tup, w_len_rol, w_len_br, w_len_nw, outs_nil, ffz_lst, ffz_tup, List.replicate_succ, List.replicate_zero, List.length_map, decide_eq_true_eq, Bool.not_eq_true', decide_eq_false_iff_not, Bool.not_true, Bool.not_false, Bool.true_eq_false, w_eq_int, w_setP, pk0, pkc1, pkc2, pkb1, pkb2, Bool.bne_false, Bool.bne_true] at h ⊢
  refine ⟨v, m, rfl, trivial, ?_⟩
  rw [decide_eq_true h1]
  simp only [mVar, mC, mOp, mUn, i2, oSub, oMod, oDiv, oPow, oLt, oLe, oGt, oGe, oNeg, mT, mAnd, mOr, mNot, mAndV, mOrV, mNotV, mIf, mCh, bLt, bLe, bGt, bGe, mNil, mCons, mFz, mNoP, mPart, mB, oInt1, oMin2, oMin3, oMax2, mNext, mAsgG, gN, mIfS, mRet, mRetN, mDrop, mBreak, mCont, mFzS, mYes, mSetVol, mSrc, mCall, Spec1.io, args, Rs.lend, Rs.arg, Rs.rd, Rs.ffz, Rs.own, Rs.slot, Rs.item, items, Rs.t, Rs.stays, mD0, oIs, OT.ty, mFld, Env.wipe, Env.lent, Option.map_none, nI, nL, nT, mLst, mTup, List.getElem?_cons_zero, List.getElem?_cons_succ, List.set_cons_zero, List.set_cons_succ, Option.some.injEq, exists_eq_left', exists_eq_left, true_and, and_true, List.map_cons, List.map_nil, List.cons_append, List.nil_append, List.append_nil, Option.bind_some, Option.map_some, List.length_cons, List.length_nil, ite_true, ite_false, Bool.false_eq_true, if_true, if_false, eq_self_iff_true, reduceCtorEq, false_and, and_false, w_add, w_mul, w_ix_vol, w_ix_lst, w_ix_tup, w_ix_rol, w_ix_br, w_ix_brT, w_len_lst, w_len_tup, w_len_rol, w_len_br, w_len_nw, outs_nil, ffz_lst, ffz_tup, List.replicate_succ, List.replicate_zero, List.length_map, decide_eq_true_eq, Bool.not_eq_true', decide_eq_false_iff_not, Bool.not_true, Bool.not_false, Bool.true_eq_false, w_eq_int, w_setP, pk0, pkc1, pkc2, pkb1, pkb2, Bool.bne_false, Bool.bne_true, Bool.not_true]
  rw [if_neg (by omega)]
  exact h

theorem wp_round_order (cs : Cs) (ss : R.Env) (Q : Rs → R.Env → Prop) (h : (F_round_order cs).io ss Q) : m_round_order cs (ss ++ List.replicate 0 none) { nx := fun e => Q (.fz .non) (outs [] 2 e), rt := fun r e => Q r (outs [] 2 e) } := by
  obtain ⟨sz, fw, n, hR, rfl, hl, hn, h⟩ := h
  unfold m_round_order
  refine s_seq fun K hK => ?_
  refine ⟨_, rfl, rfl, sz, fw, rfl, trivial, hK _ ?_⟩
  clear hK
  refine s_seq fun K hK => ?_
  refine ⟨_, rfl, _, rfl, cupN, _, rfl, nc_min, rfl, sz, fw, hR, rfl, trivial, rfl, n, least sz (fw.length + 1), rfl, by omega, by omega, trivial, hK _ ?_⟩
  clear hK
  exact ⟨_, rfl, rfl, sz, fw, rfl, rfl, _, rfl, blkD cs sz fw, blk_fz cs sz fw, blkN, _, rfl, nc_whole, _, rfl, rfl, sz, fw, n, hR, rfl, hl, by omega, trivial, trivial, h⟩

theorem wp_round_cycles (cs : Cs) (ss : R.Env) (Q : Rs → R.Env → Prop) (h : (F_round_cycles cs).io ss Q) : m_round_cycles cs (ss ++ List.replicate 0 none) { nx := fun e => Q (.fz .non) (outs [] 2 e), rt := fun r e => Q r (outs [] 2 e) } := by
  obtain ⟨sz, fw, n, hR, rfl, hl, hn, h⟩ := h
  have hp := hR.rnd hl
  refine ⟨_, rfl, _, rfl, rfl, sz, fw, n, hR, rfl, hl, hn, trivial, rfl, rnd sz fw n, n, hp, by omega, ?_, trivial, trivial, h⟩
  show [some (Rs.nw (.lst ((rnd sz fw n).map fun n => .leaf (nI n)))).lend] = _
  rw [leafs_nI, ffz_lst']
  rfl

theorem wp_period (cs : Cs) (ss : R.Env) (Q : Rs → R.Env → Prop) (h : (F_period cs).io ss Q) : m_period cs (ss ++ List.replicate 1 none) { nx := fun e => Q (.fz .non) (outs [] 2 e), rt := fun r e => Q r (outs [] 2 e) } := by
  obtain ⟨sz, fw, n, hR, rfl, hl, hn, h⟩ := h
  have ok := hR.cyOk hl
  unfold perN at h
  unfold m_period
  generalize hcs : cyL sz fw n = cys at *
  have one : ∀ k ∈ cys.map List.length, 1 ≤ k ∧ k ≤ 64 := fun k m => by
    obtain ⟨c, hc, rfl⟩ := List.mem_map.mp m
    have := ok.one c hc
    omega
  have p1 := prodL_le fun s hs => (hR.s1 s hs).1
  have p2 : prodL sz ≤ 2 ^ 30 := Nat.le_trans p1.2 (Nat.pow_le_pow_right (by omega) (by have := hR.sm; omega))
  unfold mRet mOp mCall mCons
  dsimp only
  refine lc_any ((cys.map nL).map Rs.fz) true (fun k => .leaf (nI (pk (cys.map List.length) k))) (fun Q' q => ⟨_, rfl, _, rfl, rfl, sz, fw, n, hR, rfl, hl, hn, by rw [hcs]; exact ⟨trivial, _, rfl, by rw [show (Rs.ffz (.fz (.lst (cys.map nL)))) = .fz (.lst (cys.map nL)) from rfl, kid_leafs]; exact q⟩⟩) (by rw [List.length_map, List.length_map]; have := ok.len; unfold sizeL; omega) (fun k r hr => ?_) ?_
  · rw [List.map_map, List.getElem?_map] at hr
    have hk : k < cys.length := by
      apply Classical.byContradiction
      intro z
      rw [List.getElem?_eq_none (by omega)] at hr
      cases hr
    rw [List.getElem?_eq_getElem hk] at hr
    cases hr
    refine ⟨trivial, rfl, _, rfl, _, rfl, _, rfl, ?_⟩
    have e : pk (cys.map List.length) k = cys[k].length := by rw [pk_lt (by rw [List.length_map]; exact hk), List.getElem_map]
    rw [List.range_succ, List.map_append, List.map_singleton, e]
    show _ ++ [OT.leaf (.int (((cys[k].map nI).map OT.leaf).length : Nat))] = _
    rw [List.length_map, List.length_map]
    rfl
  · have e : (List.range ((cys.map nL).map Rs.fz).length).map (fun k => OT.leaf (nI (pk (cys.map List.length) k))) = ((cys.map List.length).map nI).map .leaf := by
      rw [List.length_map, List.length_map, ← List.length_map (f := List.length) (as := cys), range_map_pk (cys.map List.length) fun k => OT.leaf (nI k), List.map_map (l := cys.map List.length)] <;> rfl
    rw [e]
    refine ⟨rfl, cys.map List.length, ?_, one, trivial, _, rfl, cupN, _, rfl, nc_len, rfl, sz, fw, rfl, trivial, ?_⟩
    · show [some (Rs.nw (.lst (((cys.map List.length).map nI).map .leaf))).lend] = _
      rw [ffz_lst']
      rfl
    · refine ⟨.inr (by constructor <;> omega), trivial, ?_⟩
      rw [← Int.natCast_mul]
      exact h

theorem wp_state_count (cs : Cs) (ss : R.Env) (Q : Rs → R.Env → Prop) (h : (F_state_count cs).io ss Q) : m_state_count cs (ss ++ List.replicate 2 none) { nx := fun e => Q (.fz .non) (outs [] 2 e), rt := fun r e => Q r (outs [] 2 e) } := by
  obtain ⟨sz, fw, n, hR, rfl, hl, hn, h⟩ := h
  have hL := hR.leastN
  unfold m_state_count
  refine s_seq fun K hK => ?_
  refine ⟨_, rfl, rfl, sz, fw, rfl, trivial, hK _ ?_⟩
  clear hK
  refine s_seq fun K hK => ?_
  refine ⟨_, rfl, _, rfl, cupN, _, rfl, nc_min, rfl, sz, fw, hR, rfl, trivial, rfl, n, least sz (fw.length + 1), rfl, by omega, by omega, trivial, hK _ ?_⟩
  clear hK
  refine s_seq fun K hK => ?_
  refine ⟨_, rfl, cupN, _, rfl, nc_len, rfl, sz, fw, rfl, trivial, trivial, hK _ ?_⟩
  clear hK
  refine s_seq fun K hK => ?_
  refine ⟨_, rfl, by omega, by omega, by omega, by omega, rfl, fun i e => ∃ y, e = [fz (cupD cs sz fw), fz (nI n), fz (nI (prodL sz * facN (i + 1))), y], ⟨none, by rw [facN, facN, Nat.one_mul, Nat.mul_one] <;> rfl⟩, ?_, ?_⟩
  · rintro i r e hr ⟨y, rfl⟩
    have hi := (List.getElem?_eq_some_iff.mp hr).1
    rw [rng_len] at hi
    rw [rng_get hr]
    refine ⟨trivial, _, rfl, _, rfl, .inr (by constructor <;> omega), trivial, fz (.int (2 + (i : Int))), ?_⟩
    show [_, _, fz (.int ((prodL sz * facN (i + 1) : Nat) * (2 + (i : Int)))), _] = _
    rw [show (2 + (i : Int)) = ((i + 1 + 1 : Nat) : Int) by omega, ← Int.natCast_mul, facN.eq_2 (i + 1), Nat.mul_assoc]
    rfl
  · rintro e ⟨y, rfl⟩
    rw [rng_len, show ((n : Int) + 1 - 2).toNat + 1 = n by omega]
    exact hK _ ⟨_, rfl, trivial, h⟩

theorem wp_law_script_value (cs : Cs) (ss : R.Env) (Q : Rs → R.Env → Prop) (h : (F_law_script_value cs).io ss Q) : m_law_script_value cs (ss ++ List.replicate 0 none) { nx := fun e => Q (.fz .non) (outs [] 2 e), rt := fun r e => Q r (outs [] 2 e) } := by
  obtain ⟨ns, k, rfl, h⟩ := h
  simp only [m_law_script_value, mSeq, scrD, nI, mVar, mC, mOp, mUn, i2, oSub, oMod, oDiv, oPow, oLt, oLe, oGt, oGe, oNeg, mT, mAnd, mOr, mNot, mAndV, mOrV, mNotV, mIf, mCh, bLt, bLe, bGt, bGe, mNil, mCons, mFz, mNoP, mPart, mB, oInt1, oMin2, oMin3, oMax2, mNext, mAsgG, gN, mIfS, mRet, mRetN, mDrop, mBreak, mCont, mFzS, mYes, mSetVol, mSrc, mCall, Spec1.io, args, Rs.lend, Rs.arg, Rs.rd, Rs.ffz, Rs.own, Rs.slot, Rs.item, items, Rs.t, Rs.stays, mD0, oIs, OT.ty, mFld, Env.wipe, Env.lent, Option.map_none, nI, nL, nT, mLst, mTup, List.getElem?_cons_zero, List.getElem?_cons_succ, List.set_cons_zero, List.set_cons_succ, Option.some.injEq, exists_eq_left', exists_eq_left, true_and, and_true, List.map_cons, List.map_nil, List.cons_append, List.nil_append, List.append_nil, Option.bind_some, Option.map_some, List.length_cons, List.length_nil, ite_true, ite_false, Bool.false_eq_true, if_true, if_false, eq_self_iff_true, reduceCtorEq, false_and, and_false, w_add, w_mul, w_ix_vol, w_ix_lst, w_ix_tup, w_ix_rol, w_ix_br, w_ix_brT, w_len_lst, w_len_tup, w_len_rol, w_len_br, w_len_nw, outs_nil, ffz_lst, ffz_tup, List.replicate_succ, List.replicate_zero, List.length_map, decide_eq_true_eq, Bool.not_eq_true', decide_eq_false_iff_not, Bool.not_true, Bool.not_false, Bool.true_eq_false, w_eq_int, w_setP, pk0, pkc1, pkc2, pkb1, pkb2, Bool.bne_false, Bool.bne_true] at h ⊢
  split
  · rename_i hk
    have hk : (k : Int) < (ns.length : Int) := by simpa using hk
    exact ⟨.int ns[k], at_nat (by rw [List.getElem?_map, List.getElem?_eq_getElem (by omega)] <;> rfl), h _⟩
  · exact h _

theorem wp_law_mix (cs : Cs) (ss : R.Env) (Q : Rs → R.Env → Prop) (h : (F_law_mix cs).io ss Q) : m_law_mix cs (ss ++ List.replicate 1 none) { nx := fun e => Q (.fz .non) (outs [] 2 e), rt := fun r e => Q r (outs [] 2 e) } := by
  obtain ⟨a, b, rfl, h⟩ := h
  simp only [m_law_mix, mSeq, mVar, mC, mOp, mUn, i2, oSub, oMod, oDiv, oPow, oLt, oLe, oGt, oGe, oNeg, mT, mAnd, mOr, mNot, mAndV, mOrV, mNotV, mIf, mCh, bLt, bLe, bGt, bGe, mNil, mCons, mFz, mNoP, mPart, mB, oInt1, oMin2, oMin3, oMax2, mNext, mAsgG, gN, mIfS, mRet, mRetN, mDrop, mBreak, mCont, mFzS, mYes, mSetVol, mSrc, mCall, Spec1.io, args, Rs.lend, Rs.arg, Rs.rd, Rs.ffz, Rs.own, Rs.slot, Rs.item, items, Rs.t, Rs.stays, mD0, oIs, OT.ty, mFld, Env.wipe, Env.lent, Option.map_none, nI, nL, nT, mLst, mTup, List.getElem?_cons_zero, List.getElem?_cons_succ, List.set_cons_zero, List.set_cons_succ, Option.some.injEq, exists_eq_left', exists_eq_left, true_and, and_true, List.map_cons, List.map_nil, List.cons_append, List.nil_append, List.append_nil, Option.bind_some, Option.map_some, List.length_cons, List.length_nil, ite_true, ite_false, Bool.false_eq_true, if_true, if_false, eq_self_iff_true, reduceCtorEq, false_and, and_false, w_add, w_mul, w_ix_vol, w_ix_lst, w_ix_tup, w_ix_rol, w_ix_br, w_ix_brT, w_len_lst, w_len_tup, w_len_rol, w_len_br, w_len_nw, outs_nil, ffz_lst, ffz_tup, List.replicate_succ, List.replicate_zero, List.length_map, decide_eq_true_eq, Bool.not_eq_true', decide_eq_false_iff_not, Bool.not_true, Bool.not_false, Bool.true_eq_false, w_eq_int, w_setP, pk0, pkc1, pkc2, pkb1, pkb2, Bool.bne_false, Bool.bne_true] at h ⊢
  refine ⟨by omega, ⟨by omega, by decide⟩, .inr (by omega), .inl (by omega), .inr (by omega), by omega, ⟨by omega, by decide⟩, .inl ?_, by omega, ⟨by omega, by decide⟩, .inl ?_, by omega, h _⟩
  · omega
  · have e : ∀ z : Int, -2 ^ 64 < z % 2147483587 ∧ z % 2147483587 < 2 ^ 64 := fun z => by omega
    exact e _

theorem wp_law_draw_source (cs : Cs) (ss : R.Env) (Q : Rs → R.Env → Prop) (h : (F_law_draw_source cs).io ss Q) : m_law_draw_source cs (ss ++ List.replicate 1 none) { nx := fun e => Q (.fz .non) (outs [] 2 e), rt := fun r e => Q r (outs [] 2 e) } := by
  obtain ⟨ns, k, rfl, h⟩ := h
  simp only [m_law_draw_source, mSeq, scrD, nI, mVar, mC, mOp, mUn, i2, oSub, oMod, oDiv, oPow, oLt, oLe, oGt, oGe, oNeg, mT, mAnd, mOr, mNot, mAndV, mOrV, mNotV, mIf, mCh, bLt, bLe, bGt, bGe, mNil, mCons, mFz, mNoP, mPart, mB, oInt1, oMin2, oMin3, oMax2, mNext, mAsgG, gN, mIfS, mRet, mRetN, mDrop, mBreak, mCont, mFzS, mYes, mSetVol, mSrc, mCall, Spec1.io, args, Rs.lend, Rs.arg, Rs.rd, Rs.ffz, Rs.own, Rs.slot, Rs.item, items, Rs.t, Rs.stays, mD0, oIs, OT.ty, mFld, Env.wipe, Env.lent, Option.map_none, nI, nL, nT, mLst, mTup, List.getElem?_cons_zero, List.getElem?_cons_succ, List.set_cons_zero, List.set_cons_succ, Option.some.injEq, exists_eq_left', exists_eq_left, true_and, and_true, List.map_cons, List.map_nil, List.cons_append, List.nil_append, List.append_nil, Option.bind_some, Option.map_some, List.length_cons, List.length_nil, ite_true, ite_false, Bool.false_eq_true, if_true, if_false, eq_self_iff_true, reduceCtorEq, false_and, and_false, w_add, w_mul, w_ix_vol, w_ix_lst, w_ix_tup, w_ix_rol, w_ix_br, w_ix_brT, w_len_lst, w_len_tup, w_len_rol, w_len_br, w_len_nw, outs_nil, ffz_lst, ffz_tup, List.replicate_succ, List.replicate_zero, List.length_map, decide_eq_true_eq, Bool.not_eq_true', decide_eq_false_iff_not, Bool.not_true, Bool.not_false, Bool.true_eq_false, w_eq_int, w_setP, pk0, pkc1, pkc2, pkb1, pkb2, Bool.bne_false, Bool.bne_true] at h ⊢
  split
  · rename_i hk
    have hk : (k : Int) < (ns.length : Int) := by simpa using hk
    have e : at' (ns.map D.int) (k : Int) = some (.int ns[k]) := at_nat (by rw [List.getElem?_map, List.getElem?_eq_getElem (by omega)] <;> rfl)
    exact ⟨_, e, _, e, by unfold sizeL; omega, h⟩
  · exact ⟨ns, 0, rfl, fun x => ⟨trivial, x, _, rfl, fun y => ⟨trivial, by unfold sizeL; omega, h⟩⟩⟩

theorem wp_law_draw (cs : Cs) (ss : R.Env) (Q : Rs → R.Env → Prop) (h : (F_law_draw cs).io ss Q) : m_law_draw cs (ss ++ List.replicate 1 none) { nx := fun e => Q (.fz .non) (outs [] 2 e), rt := fun r e => Q r (outs [] 2 e) } := by
  obtain ⟨ps, b, rfl, h0, h1, h⟩ := h
  simp only [m_law_draw, mSeq, F_law_mix, mVar, mC, mOp, mUn, i2, oSub, oMod, oDiv, oPow, oLt, oLe, oGt, oGe, oNeg, mT, mAnd, mOr, mNot, mAndV, mOrV, mNotV, mIf, mCh, bLt, bLe, bGt, bGe, mNil, mCons, mFz, mNoP, mPart, mB, oInt1, oMin2, oMin3, oMax2, mNext, mAsgG, gN, mIfS, mRet, mRetN, mDrop, mBreak, mCont, mFzS, mYes, mSetVol, mSrc, mCall, Spec1.io, args, Rs.lend, Rs.arg, Rs.rd, Rs.ffz, Rs.own, Rs.slot, Rs.item, items, Rs.t, Rs.stays, mD0, oIs, OT.ty, mFld, Env.wipe, Env.lent, Option.map_none, nI, nL, nT, mLst, mTup, List.getElem?_cons_zero, List.getElem?_cons_succ, List.set_cons_zero, List.set_cons_succ, Option.some.injEq, exists_eq_left', exists_eq_left, true_and, and_true, List.map_cons, List.map_nil, List.cons_append, List.nil_append, List.append_nil, Option.bind_some, Option.map_some, List.length_cons, List.length_nil, ite_true, ite_false, Bool.false_eq_true, if_true, if_false, eq_self_iff_true, reduceCtorEq, false_and, and_false, w_add, w_mul, w_ix_vol, w_ix_lst, w_ix_tup, w_ix_rol, w_ix_br, w_ix_brT, w_len_lst, w_len_tup, w_len_rol, w_len_br, w_len_nw, outs_nil, ffz_lst, ffz_tup, List.replicate_succ, List.replicate_zero, List.length_map, decide_eq_true_eq, Bool.not_eq_true', decide_eq_false_iff_not, Bool.not_true, Bool.not_false, Bool.true_eq_false, w_eq_int, w_setP, pk0, pkc1, pkc2, pkb1, pkb2, Bool.bne_false, Bool.bne_true] at h ⊢
  refine ⟨by omega, by omega, fun x => ⟨by decide, ?_⟩⟩
  have hm : ∀ y : Int, 0 ≤ y % b ∧ y % b < b := fun y => ⟨Int.emod_nonneg _ (by omega), Int.emod_lt_of_pos _ h0⟩
  split
  · refine ⟨by omega, by omega, fun y => ⟨h0, by omega, by omega, fun z => ⟨⟨h0, log2_lt h0 h1⟩, by omega, by omega, h _ (hm y).1 (hm y).2⟩⟩⟩
  · refine ⟨by omega, by omega, fun y => ⟨by omega, by omega, by omega, by omega, fun z => ⟨by omega, by omega, fun u => ⟨_, _, rfl, fun v => ⟨h0, h _ (hm v).1 (hm v).2⟩⟩⟩⟩⟩

theorem wp_law_draw_cups (cs : Cs) (ss : R.Env) (Q : Rs → R.Env → Prop) (h : (F_law_draw_cups cs).io ss Q) : m_law_draw_cups cs (ss ++ List.replicate 5 none) { nx := fun e => Q (.fz .non) (outs [] 4 e), rt := fun r e => Q r (outs [] 4 e) } := by
  obtain ⟨ps, mx, top, bud, rfl, hm1, hm2, ht1, ht2, hb, h⟩ := h
  unfold m_law_draw_cups
  refine s_seq fun K hK => ?_
  refine ⟨[], rfl, Nat.zero_le _, trivial, hK _ ?_⟩
  clear hK
  refine s_seq fun K hK => ?_
  refine ⟨_, rfl, trivial, hK _ ?_⟩
  clear hK
  refine s_seq fun K hK => ?_
  refine ⟨_, rfl, _, rfl, rfl, ps, mx, rfl, by omega, by omega, fun y hy hy2 => ⟨trivial, by omega, by omega, rfl, ?_⟩⟩
  refine ⟨fun i e => ∃ (sz : List Nat) (left : Nat) (y6 y7 y8 : Option Rs), sz.length = i ∧ (∀ s ∈ sz, 1 ≤ s ∧ s ≤ 9) ∧ sz.sum + left = sz.length + bud ∧ e = [fz (.vol 0 ps), fz (nI mx), fz (nI top), fz (nI bud), some (.nw (.lst (sz.map fun n => .leaf (nI n)))), fz (nI left), y6, y7, y8], ⟨[], bud, _, _, _, rfl, (fun x hx => absurd hx (by simp)), by simp, rfl⟩, ?_, ?_⟩
  · clear hK
    rintro i r e hr ⟨sz, left, y6, y7, y8, hl, hs, hsum, rfl⟩
    have hi := (List.getElem?_eq_some_iff.mp hr).1
    rw [rng_len] at hi
    rw [rng_get hr]
    refine ⟨trivial, ?_⟩
    refine s_seq fun K hK => ?_
    refine ⟨_, rfl, _, rfl, _, rfl, [.leaf (.int 2), .leaf (.int 3), .leaf (nI top)], rfl, by show 3 ≤ sizeL; unfold sizeL; omega, _, rfl, rfl, ps, 3, rfl, by omega, by omega, fun x hx hx2 => ⟨trivial, ?_⟩⟩
    have hx3 : ∃ m : Nat, at' [R.D.int 2, .int 3, nI top] x = some (nI m) ∧ 1 ≤ m ∧ m ≤ 9 := by
      have : x = 0 ∨ x = 1 ∨ x = 2 := by omega
      rcases this with rfl | rfl | rfl
      · exact ⟨2, rfl, by omega, by omega⟩
      · exact ⟨3, rfl, by omega, by omega⟩
      · exact ⟨top, rfl, by omega, by omega⟩
    obtain ⟨m, em, hmm1, hmm2⟩ := hx3
    refine ⟨nI m, em, rfl, ps, m, rfl, by omega, by omega, fun z hz hz2 => ⟨trivial, trivial, hK _ ?_⟩⟩
    clear hK
    obtain ⟨s, es, hs1, hs2, hs3⟩ : ∃ s : Nat, 1 + min (left : Int) z = (s : Int) ∧ 1 ≤ s ∧ s ≤ 9 ∧ s ≤ left + 1 := ⟨(1 + min (left : Int) z).toNat, by omega, by omega, by omega, by omega⟩
    rw [show (R.D.int (1 + min (left : Int) z)) = nI s by rw [es] <;> rfl]
    refine s_seq fun K hK => ?_
    refine ⟨⟨_, rfl⟩, _, rfl, by rw [List.length_map, hl]; unfold sizeL; omega, _, rfl, _, rfl, hK _ ?_⟩
    clear hK
    refine ⟨_, rfl, _, rfl, trivial, trivial, trivial, ?_⟩
    refine ⟨sz ++ [s], left + 1 - s, some (.fz (.int (0 + (i : Int)))), some (.fz (nI s)), y8, by rw [List.length_append, List.length_singleton, hl], fun x hx => ?_, ?_, ?_⟩
    · rcases List.mem_append.mp hx with hx | hx
      · exact hs x hx
      · rw [List.mem_singleton.mp hx]
        exact ⟨hs1, hs2⟩
    · rw [List.sum_append, List.length_append, List.length_singleton, List.sum_singleton]
      omega
    · rw [← snoc_leaf]
      show [_, _, _, _, _, fz (.int ((left : Int) - ((s : Int) - 1))), _, _, _] = [_, _, _, _, _, fz (.int ((left + 1 - s : Nat) : Int)), _, _, _]
      rw [show (left : Int) - ((s : Int) - 1) = ((left + 1 - s : Nat) : Int) by omega] <;> rfl
  · rintro e ⟨sz, left, y6, y7, y8, hl, hs, hsum, rfl⟩
    rw [rng_len] at hl
    refine hK _ ?_
    clear hK
    have hlen : 1 ≤ sz.length ∧ sz.length ≤ mx := by omega
    have hcut : cut' (sz.map nI) none (some (-1)) = (sz.take (sz.length - 1)).map nI := by rw [cut_last, List.length_map, List.map_take]
    refine s_seq fun K hK => ?_
    refine ⟨_, rfl, rfl, ps, 3, rfl, by omega, by omega, fun c hc hc2 => ⟨trivial, trivial, hK _ ?_⟩⟩
    clear hK
    refine ⟨_, nL sz, rfl, by rw [leafs_nI]; exact fz_lst _, ?_⟩
    refine ⟨_, rfl, ?_⟩
    simp only [mCons, mNil, mLc]
    refine it_sl (ds := sz.map nI) (l := none) (h := some (-1)) rfl (fun _ q => q) (fun _ q => q) ?_
    rw [hcut]
    refine ⟨fun i acc => ∃ fw : List Nat, fw.length = i ∧ (∀ j, j < i → pk fw j < pk sz j) ∧ acc = fw.map fun n => .leaf (nI n), ⟨[], rfl, (fun j hj => absurd hj (Nat.not_lt_zero j)), rfl⟩, ?_, ?_⟩
    · rintro i r acc hr ⟨fw, hf, hf2, rfl⟩
      obtain ⟨hi, rfl⟩ := get_nI hr
      rw [List.length_take] at hi
      have ht : pk (sz.take (sz.length - 1)) i = pk sz i := by
        rw [pk_lt (by rw [List.length_take]; omega), pk_lt (by omega), List.getElem_take]
      rw [ht]
      have h1 := hs _ (pk_mem (show i < sz.length by omega))
      refine ⟨by rw [List.length_map, hf]; unfold sizeL; omega, trivial, rfl, ?_⟩
      refine ⟨_, rfl, trivial, _, rfl, _, rfl, rfl, ps, _, rfl, by omega, by omega, fun z hz hz2 => ⟨trivial, _, rfl, by show 3 ≤ sizeL; unfold sizeL; omega, _, rfl, ?_⟩⟩
      have hx3 : ∃ f : Nat, at' [R.D.int 0, .int ((pk sz i : Nat) - 1), .int z] c = some (nI f) ∧ f < pk sz i := by
        have : c = 0 ∨ c = 1 ∨ c = 2 := by omega
        rcases this with rfl | rfl | rfl
        · exact ⟨0, rfl, by omega⟩
        · exact ⟨pk sz i - 1, by rw [show nI (pk sz i - 1) = .int ((pk sz i : Nat) - 1) by (show R.D.int ((pk sz i - 1 : Nat) : Int) = _; rw [show ((pk sz i - 1 : Nat) : Int) = (pk sz i : Int) - 1 by omega])] <;> rfl, by omega⟩
        · exact ⟨z.toNat, by rw [show nI z.toNat = .int z by (show R.D.int ((z.toNat : Nat) : Int) = _; rw [Int.toNat_of_nonneg hz])] <;> rfl, by omega⟩
      obtain ⟨f, ef, hf3⟩ := hx3
      refine ⟨nI f, ef, .leaf (nI f), rfl, fw ++ [f], by rw [List.length_append, List.length_singleton, hf], fun j hj => ?_, ?_⟩
      · rw [pk_snoc]
        split
        · exact hf2 j (by omega)
        · have : j = i := by omega
          subst this
          rw [if_pos (by omega)]
          omega
      · rw [← snoc_leaf]
    · rintro acc ⟨fw, hf, hf2, rfl⟩
      rw [List.length_map, List.length_map, List.length_take] at hf
      refine ⟨_, rfl, by show 2 ≤ sizeL; unfold sizeL; omega, trivial, ?_⟩
      exact h sz fw ⟨by omega, by omega, hs, by omega, by omega, fun j hj => hf2 j (by rw [List.length_map, List.length_map, List.length_take]; omega)⟩ hlen.2 (by omega)

theorem rd_law_outcome (cs : Cs) : ∀ k ∈ ks_law_outcome, ∀ f r dd : Nat, ms_law_outcome cs k r dd (outEnv N_law_outcome 1 k f r dd) { nx := fun _ => False, rt := fun z _ => z = .fz (wd_law_outcome (some k)) } := by
  intro k hk f r dd
  have hk := (show ∀ k ∈ ks_law_outcome, k = 7 ∨ k = 8 ∨ k = 9 by decide) k hk
  unfold ms_law_outcome
  rcases hk with rfl | rfl | rfl
  · change mSeq _ _ [some (.fz (.adr f)), some (.ex (.xo r dd "part" "cups")), none] _
    refine s_seq fun K hK => ?_
    refine ⟨⟨"part", "cups", rfl⟩, ⟨"part", "cups", rfl⟩, ⟨"part", "cups", rfl⟩, _, rfl, by show 3 ≤ sizeL; unfold sizeL; omega, trivial, hK _ ?_⟩
    clear hK
    refine s_seq fun K hK => ?_
    refine ⟨_, rfl, ⟨"part", "cups", rfl⟩, ⟨"part", "cups", rfl⟩, ⟨"part", "cups", rfl⟩, _, rfl, by show 3 ≤ sizeL; unfold sizeL; omega, w_add_bn (a := [.bl true, .bl false, .bl false]) (b := [.bl false, .bl false, .bl false]) (by show 6 ≤ sizeL; unfold sizeL; omega) ⟨trivial, hK _ ?_⟩⟩
    clear hK
    refine s_seq fun K hK => ?_
    refine ⟨⟨_, rfl⟩, _, rfl, by show 6 < sizeL; unfold sizeL; omega, ⟨"part", "cups", rfl⟩, _, rfl, hK _ ?_⟩
    clear hK
    refine s_seq fun K hK => ?_
    refine mIfS_ff (fun P hP => mOr_ff (fun P hP => ⟨_, rfl, _, rfl, .inl ⟨true, [true, false, false, false, false, false, false], rfl, rfl, ?_⟩⟩) (fun P hP => mNot_b (b := true) (fun P hP => mT_tt (fun Q' hQ => ⟨⟨"part", "cups", rfl⟩, hQ⟩) hP) hP) hP) (hK _ ?_)
    · dsimp only [mC]
      show oEq true (.fz (.int ((1 : Nat) : Int))) (.fz (.int 1)) _
      rw [w_eq_int]
      exact hP
    clear hK
    refine s_seq fun K hK => ?_
    refine if_of true (fun P hP => ⟨_, rfl, _, _, rfl, at_nat (j := 0) rfl, hP⟩) (fun _ => ?_) (fun z => by cases z)
    exact ⟨_, rfl, rfl, rfl, trivial, rfl⟩
  · change mSeq _ _ [some (.fz (.adr f)), some (.ex (.xo r dd "part" "sizes")), none] _
    refine s_seq fun K hK => ?_
    refine ⟨⟨"part", "sizes", rfl⟩, ⟨"part", "sizes", rfl⟩, ⟨"part", "sizes", rfl⟩, _, rfl, by show 3 ≤ sizeL; unfold sizeL; omega, trivial, hK _ ?_⟩
    clear hK
    refine s_seq fun K hK => ?_
    refine ⟨_, rfl, ⟨"part", "sizes", rfl⟩, ⟨"part", "sizes", rfl⟩, ⟨"part", "sizes", rfl⟩, _, rfl, by show 3 ≤ sizeL; unfold sizeL; omega, w_add_bn (a := [.bl true, .bl false, .bl false]) (b := [.bl false, .bl false, .bl false]) (by show 6 ≤ sizeL; unfold sizeL; omega) ⟨trivial, hK _ ?_⟩⟩
    clear hK
    refine s_seq fun K hK => ?_
    refine ⟨⟨_, rfl⟩, _, rfl, by show 6 < sizeL; unfold sizeL; omega, ⟨"part", "sizes", rfl⟩, _, rfl, hK _ ?_⟩
    clear hK
    refine s_seq fun K hK => ?_
    refine mIfS_ff (fun P hP => mOr_ff (fun P hP => ⟨_, rfl, _, rfl, .inl ⟨true, [true, false, false, false, false, false, false], rfl, rfl, ?_⟩⟩) (fun P hP => mNot_b (b := true) (fun P hP => mT_tt (fun Q' hQ => ⟨⟨"part", "sizes", rfl⟩, hQ⟩) hP) hP) hP) (hK _ ?_)
    · dsimp only [mC]
      show oEq true (.fz (.int ((1 : Nat) : Int))) (.fz (.int 1)) _
      rw [w_eq_int]
      exact hP
    clear hK
    refine s_seq fun K hK => ?_
    refine if_of true (fun P hP => ⟨_, rfl, _, _, rfl, at_nat (j := 0) rfl, hP⟩) (fun _ => ?_) (fun z => by cases z)
    exact ⟨_, rfl, rfl, rfl, trivial, rfl⟩
  · change mSeq _ _ [some (.fz (.adr f)), some (.ex (.xo r dd "part" "forward")), none] _
    refine s_seq fun K hK => ?_
    refine ⟨⟨"part", "forward", rfl⟩, ⟨"part", "forward", rfl⟩, ⟨"part", "forward", rfl⟩, _, rfl, by show 3 ≤ sizeL; unfold sizeL; omega, trivial, hK _ ?_⟩
    clear hK
    refine s_seq fun K hK => ?_
    refine ⟨_, rfl, ⟨"part", "forward", rfl⟩, ⟨"part", "forward", rfl⟩, ⟨"part", "forward", rfl⟩, _, rfl, by show 3 ≤ sizeL; unfold sizeL; omega, w_add_bn (a := [.bl true, .bl false, .bl false]) (b := [.bl false, .bl false, .bl false]) (by show 6 ≤ sizeL; unfold sizeL; omega) ⟨trivial, hK _ ?_⟩⟩
    clear hK
    refine s_seq fun K hK => ?_
    refine ⟨⟨_, rfl⟩, _, rfl, by show 6 < sizeL; unfold sizeL; omega, ⟨"part", "forward", rfl⟩, _, rfl, hK _ ?_⟩
    clear hK
    refine s_seq fun K hK => ?_
    refine mIfS_ff (fun P hP => mOr_ff (fun P hP => ⟨_, rfl, _, rfl, .inl ⟨true, [true, false, false, false, false, false, false], rfl, rfl, ?_⟩⟩) (fun P hP => mNot_b (b := true) (fun P hP => mT_tt (fun Q' hQ => ⟨⟨"part", "forward", rfl⟩, hQ⟩) hP) hP) hP) (hK _ ?_)
    · dsimp only [mC]
      show oEq true (.fz (.int ((1 : Nat) : Int))) (.fz (.int 1)) _
      rw [w_eq_int]
      exact hP
    clear hK
    refine s_seq fun K hK => ?_
    refine if_of true (fun P hP => ⟨_, rfl, _, _, rfl, at_nat (j := 0) rfl, hP⟩) (fun _ => ?_) (fun z => by cases z)
    exact ⟨_, rfl, rfl, rfl, trivial, rfl⟩

theorem wp_law_invalid_sizes (cs : Cs) (ss : R.Env) (Q : Rs → R.Env → Prop) (h : (F_law_invalid_sizes cs).io ss Q) : m_law_invalid_sizes cs (ss ++ List.replicate 3 none) { nx := fun e => Q (.fz .non) (outs [] 2 e), rt := fun r e => Q r (outs [] 2 e) } := by
  obtain ⟨ps, sz, fw, hR, rfl, h⟩ := h
  have h30 := hR.l1
  have h0 := hR.l0
  obtain ⟨a1, a2, a3, a4⟩ := row_le hR
  have p200 : (2 : Int) ^ 200 > 30 := by decide
  have h200 : ((sz.length : Nat) : Int) < 2 ^ 200 := by omega
  unfold m_law_invalid_sizes
  refine s_seq fun K hK => ?_
  refine ⟨_, rfl, _, rfl, _, rfl, rfl, ps, sz.length, ?_, by omega, h200, fun x hx0 hx => ⟨trivial, trivial, hK _ ?_⟩⟩
  · show [_, fz (.int ((((sz.map nI).map OT.leaf).length : Nat) : Int))] = _
    rw [List.length_map, List.length_map] <;> rfl
  clear hK
  obtain ⟨a, rfl⟩ : ∃ a : Nat, x = (a : Int) := ⟨x.toNat, by omega⟩
  have ha : a < sz.length := by omega
  refine s_seq fun K hK => ?_
  refine ⟨[], rfl, Nat.zero_le _, _, rfl, _, rfl, [], rfl, Nat.zero_le _, ?_⟩
  refine e_mul (d := .int 1) (r := .nw (.lst [.leaf (.int 1)])) (by omega) (by omega) (ffz_lst [.int 1]) (fun P hP => one_lst (fun P hP => hP) hP) ?_
  refine e_mul (d := .int 2) (r := .nw (.lst [.leaf (.int 2)])) (by omega) (by omega) (ffz_lst [.int 2]) (fun P hP => one_lst (fun P hP => hP) hP) ?_
  refine ⟨_, rfl, by show 4 ≤ sizeL; unfold sizeL; omega, ?_⟩
  refine e_mul (d := .int 4) (r := .nw (.lst [.leaf (.int 4)])) (by omega) (by omega) (ffz_lst [.int 4]) (fun P hP => one_lst (fun P hP => hP) hP) ?_
  refine e_add (a := List.replicate 4 (.int 9)) (b := [.int 1]) (by show 4 + 1 ≤ sizeL; unfold sizeL; omega) (fun P hP => e_mul (d := .int 9) (r := .nw (.lst [.leaf (.int 9)])) (by omega) (by omega) (ffz_lst [.int 9]) (fun P hP => one_lst (fun P hP => hP) hP) hP) (fun P hP => one_lst (fun P hP => hP) hP) ?_
  refine ⟨_, rfl, by show 13 ≤ sizeL; unfold sizeL; omega, .lst (szL sz), .lst (.cons (.leaf _) (.cons (.tup .nil) (.cons (.leaf _) (.cons (.leaf _) (.cons (.leaf _) (.cons (.leaf _) (.cons (.leaf _) (.cons (.lst .nil) (.cons (fz_lst (List.replicate 31 (.int 1))) (.cons (fz_lst (List.replicate 31 (.int 2))) (.cons (fz_lst [.int 9, .int 9, .int 9, .int 8]) (.cons (fz_lst (List.replicate 11 (.int 4))) (.cons (fz_lst (List.replicate 4 (.int 9) ++ [.int 1])) .nil))))))))))))), trivial, hK _ ?_⟩
  clear hK
  have hsl := szL_ok hR
  have hsn : (szL sz).length = 13 := rfl
  refine s_seq fun K hK => ?_
  refine ⟨_, rfl, by show 1 ≤ sizeL; unfold sizeL; omega, _, rfl, by show 1 ≤ sizeL; unfold sizeL; omega, ⟨by decide, by decide, by decide⟩, ⟨by decide, by decide, by decide⟩, _, rfl, by show 11 ≤ sizeL; unfold sizeL; omega, .lst szX, .lst (.cons (.leaf _) (.cons (.leaf _) (.cons (.leaf _) (.cons (.leaf _) (.cons (.leaf _) (.cons (.leaf _) (.cons (fz_lst [.int 2]) (.cons (fz_tup [.int 2]) (.cons (.leaf _) (.cons (.leaf _) (.cons (.leaf _) .nil))))))))))), trivial, hK _ ?_⟩
  clear hK
  have hxl := szX_ok
  have hxn : szX.length = 11 := rfl
  change mSeq _ _ [fz (.vol 0 ps), fz (nL sz), fz (nI a), fz (.lst (szL sz)), fz (.lst szX)] _
  generalize szX = xs at *
  generalize szL sz = items at *
  refine s_seq fun K hK => ?_
  refine ⟨_, rfl, rfl, ps, 2, rfl, by omega, by omega, fun x hx0 hx1 => ⟨trivial, ?_⟩⟩
  dsimp only [mC]
  refine eq0_of ?_
  by_cases z : x = 0
  · rw [decide_eq_true z]
    refine ⟨_, rfl, _, rfl, _, rfl, _, rfl, rfl, ps, 13, by show [_, fz (.int (((items.map OT.leaf).length : Nat) : Int))] = _; rw [List.length_map, hsn] <;> rfl, by omega, by omega, fun y hy0 hy => ⟨trivial, ?_⟩⟩
    obtain ⟨k, rfl⟩ : ∃ k : Nat, y = (k : Int) := ⟨y.toNat, by omega⟩
    have hk : k < items.length := by rw [hsn]; omega
    exact ⟨items[k], at_nat (List.getElem?_eq_getElem hk), trivial, h _ (hsl _ (List.getElem_mem hk))⟩
  · rw [decide_eq_false z]
    refine hK _ ?_
    clear hK
    refine ⟨_, rfl, _, rfl, _, rfl, ?_⟩
    rw [cutA, ← List.map_take]
    refine ⟨_, rfl, _, rfl, _, rfl, _, rfl, rfl, ps, 11, by show [_, fz (.int (((xs.map OT.leaf).length : Nat) : Int))] = _; rw [List.length_map, hxn] <;> rfl, by omega, by omega, fun y hy0 hy => ⟨trivial, ?_⟩⟩
    obtain ⟨k, rfl⟩ : ∃ k : Nat, y = (k : Int) := ⟨y.toNat, by omega⟩
    have hk : k < (xs).length := by rw [hxn]; omega
    refine ⟨(xs)[k], at_nat (List.getElem?_eq_getElem hk), [.leaf _], rfl, by show 1 ≤ sizeL; unfold sizeL; omega, ?_⟩
    have hxk := hxl _ (List.getElem_mem hk)
    generalize (xs)[k] = xk at *
    show oAdd (Rs.nw (.lst (((sz.take a).map nI).map OT.leaf))).ffz (Rs.nw (.lst ([xk].map OT.leaf))).ffz _
    rw [ffz_lst, ffz_lst]
    refine w_add_ff (by rw [List.length_map, List.length_take]; show _ + 1 ≤ sizeL; unfold sizeL; omega) ?_
    refine ⟨_, rfl, _, rfl, _, rfl, ?_⟩
    rw [show ((a : Nat) : Int) + 1 = ((a + 1 : Nat) : Int) from rfl, cutB, ← List.map_drop]
    dsimp only
    rw [ffz_lst, ffz_lst]
    refine w_add_ff (by rw [List.length_append, List.length_map, List.length_map, List.length_take, List.length_drop]; show _ + 1 + _ ≤ sizeL; unfold sizeL; omega) ?_
    have hkd := kd_mid (a := sz.take a) (b := sz.drop (a + 1)) (x := xk) (fun n m => a1 n (List.mem_of_mem_take m)) (fun n m => a1 n (List.mem_of_mem_drop m)) (by rw [List.length_take, List.length_drop]; omega) hxk.2
    exact ⟨_, fz_lst _, trivial, h _ ⟨sizes_mid hxk.1, hkd⟩⟩

theorem wp_law_invalid_indices (cs : Cs) (ss : R.Env) (Q : Rs → R.Env → Prop) (h : (F_law_invalid_indices cs).io ss Q) : m_law_invalid_indices cs (ss ++ List.replicate 3 none) { nx := fun e => Q (.fz .non) (outs [] 3 e), rt := fun r e => Q r (outs [] 3 e) } := by
  obtain ⟨ps, sz, fw, hR, rfl, h⟩ := h
  have h30 := hR.l1
  have h0 := hR.l0
  have hfl := hR.fl
  obtain ⟨a1, a2, a3, a4⟩ := row_le hR
  have p200 : (2 : Int) ^ 200 > 30 := by decide
  have h200 : ((fw.length : Nat) : Int) < 2 ^ 200 := by omega
  unfold m_law_invalid_indices
  refine s_seq fun K hK => ?_
  refine ⟨[], rfl, Nat.zero_le _, _, rfl, _, rfl, ?_⟩
  refine e_addF (a := fw.map nI) (b := [.int 0]) (by rw [List.length_map]; show _ + 1 ≤ sizeL; unfold sizeL; omega) (fun P hP => ⟨_, rfl, hP⟩) (fun P hP => one_lst (fun P hP => hP) hP) ?_
  refine ⟨_, rfl, [.leaf (nL fw)], rfl, by show 1 ≤ sizeL; unfold sizeL; omega, _, rfl, by show 8 ≤ sizeL; unfold sizeL; omega, .lst (fwL fw), .lst (.cons (.tup .nil) (.cons (.leaf _) (.cons (.leaf _) (.cons (.leaf _) (.cons (.leaf _) (.cons (.leaf _) (.cons (fz_lst (fw.map nI ++ [.int 0])) (.cons (fz_lst [nL fw]) .nil)))))))), trivial, hK _ ?_⟩
  clear hK
  have hsl := fwL_ok hR
  have hsn : (fwL fw).length = 8 := rfl
  change mSeq _ _ [fz (.vol 0 ps), fz (nL sz), fz (nL fw), fz (.lst (fwL fw)), none, none] _
  generalize fwL fw = items at *
  refine s_seq fun K hK => ?_
  refine if_of fw.isEmpty (fun P hP => ⟨_, rfl, [], rfl, Nat.zero_le _, ?_⟩) (fun he => ?_) (fun he => hK _ ?_)
  · show oEq false (.fz (nL fw)) (Rs.nw (.lst (([] : List R.D).map .leaf))).ffz _
    rw [ffz_lst]
    refine oEq_nilJ ?_
    rw [Bool.bne_false]
    exact hP
  · refine ⟨_, rfl, _, rfl, _, rfl, _, rfl, rfl, ps, 8, by show [_, fz (.int (((items.map OT.leaf).length : Nat) : Int))] = _; rw [List.length_map, hsn] <;> rfl, by omega, by omega, fun y hy0 hy => ⟨trivial, ?_⟩⟩
    obtain ⟨k, rfl⟩ : ∃ k : Nat, y = (k : Int) := ⟨y.toNat, by omega⟩
    have hk : k < items.length := by rw [hsn]; omega
    exact ⟨items[k], at_nat (List.getElem?_eq_getElem hk), trivial, h _ (hsl _ (List.getElem_mem hk))⟩
  clear hK
  have hne : 0 < fw.length := by
    cases fw with
    | nil => cases he
    | cons _ _ => exact Nat.succ_pos _
  refine s_seq fun K hK => ?_
  refine ⟨_, rfl, _, rfl, _, rfl, rfl, ps, fw.length, ?_, by omega, h200, fun x hx0 hx => ⟨trivial, trivial, hK _ ?_⟩⟩
  · show [_, fz (.int ((((fw.map nI).map OT.leaf).length : Nat) : Int))] = _
    rw [List.length_map, List.length_map] <;> rfl
  clear hK
  obtain ⟨a, rfl⟩ : ∃ a : Nat, x = (a : Int) := ⟨x.toNat, by omega⟩
  have ha : a < fw.length := by omega
  have has : a < sz.length := by omega
  have e1 : (sz.map nI)[a]? = some (nI (pk sz a)) := by rw [List.getElem?_map, List.getElem?_eq_getElem has, pk_lt has] <;> rfl
  refine s_seq fun K hK => ?_
  refine ⟨_, rfl, _, rfl, nI (pk sz a), at_nat e1, _, rfl, by show 1 ≤ sizeL; unfold sizeL; omega, _, rfl, by show 1 ≤ sizeL; unfold sizeL; omega, ⟨by decide, by decide, by decide⟩, _, rfl, _, rfl, nI (pk sz a), at_nat e1, _, rfl, by show 10 ≤ sizeL; unfold sizeL; omega, .lst (fwX (pk sz a)), .lst (.cons (.leaf _) (.cons (.leaf _) (.cons (.leaf _) (.cons (.leaf _) (.cons (.leaf _) (.cons (fz_lst [.int 0]) (.cons (fz_tup [.int 0]) (.cons (.leaf _) (.cons (.leaf _) (.cons (.leaf _) .nil)))))))))), trivial, hK _ ?_⟩
  clear hK
  have h9 : pk sz a ≤ 9 := by rw [pk_lt has]; exact (hR.s1 _ (List.getElem_mem has)).2
  have hxl := fwX_ok h9
  have hxn : (fwX (pk sz a)).length = 10 := rfl
  change mSeq _ _ [fz (.vol 0 ps), fz (nL sz), fz (nL fw), fz (.lst items), fz (nI a), fz (.lst (fwX (pk sz a)))] _
  generalize fwX (pk sz a) = xs at *
  refine s_seq fun K hK => ?_
  refine ⟨_, rfl, rfl, ps, 3, rfl, by omega, by omega, fun x hx0 hx1 => ⟨trivial, ?_⟩⟩
  dsimp only [mC]
  refine eq0_of ?_
  by_cases z : x = 0
  · rw [decide_eq_true z]
    rw [if_pos rfl]
    refine ⟨_, rfl, _, rfl, _, rfl, [], rfl, Nat.zero_le _, _, rfl, by show 2 ≤ sizeL; unfold sizeL; omega, ?_⟩
    dsimp only
    rw [show (1 : Int) = ((1 : Nat) : Int) from rfl, cutB, ← List.map_drop, ffz_nw (d := .lst [nL (fw.drop 1), .lst []]) (by simp only [OT.fzd, fzdAll, fzdAll_map] <;> rfl)]
    refine w_add_ff (by rw [hsn]; show 8 + 2 ≤ sizeL; unfold sizeL; omega) ?_
    refine ⟨_, rfl, _, rfl, _, rfl, rfl, ps, 10, ?_, by omega, by omega, fun y hy0 hy => ⟨trivial, ?_⟩⟩
    · show [_, fz (.int ((((items.map OT.leaf).length : Nat) : Int) + 2))] = _
      rw [List.length_map, hsn] <;> rfl
    obtain ⟨k, rfl⟩ : ∃ k : Nat, y = (k : Int) := ⟨y.toNat, by omega⟩
    have hk : k < (items ++ [nL (fw.drop 1), .lst []]).length := by rw [List.length_append, hsn]; show k < 8 + 2; omega
    show oIx (Rs.nw (.lst ((items ++ [nL (fw.drop 1), .lst []]).map OT.leaf))).ffz (.fz (.int ((k : Nat) : Int))) _
    rw [ffz_lst]
    refine ⟨(items ++ [nL (fw.drop 1), .lst []])[k], at_nat (List.getElem?_eq_getElem hk), trivial, h _ ?_⟩
    rcases List.mem_append.mp (List.getElem_mem hk) with m | m
    · exact hsl _ m
    · rcases List.mem_cons.mp m with e | m
      · rw [e]
        exact ⟨fw_len hR (by rw [List.length_map, List.length_drop]; omega), (fun w => by cases w), (kd_nL (fun n m => a2 n (List.mem_of_mem_drop m)) (by rw [List.length_drop]; omega)).le (by omega) (by omega)⟩
      · rw [List.mem_singleton.mp m]
        exact ⟨fw_len hR (by show 0 ≠ _; omega), (fun w => by cases w), (kd_nL (l := []) (fun _ m => nomatch m) (Nat.zero_le _)).le (by omega) (by omega)⟩
  · rw [decide_eq_false z]
    refine hK _ ?_
    clear hK
    refine ⟨_, rfl, _, rfl, _, rfl, ?_⟩
    rw [cutA, ← List.map_take]
    refine ⟨_, rfl, _, rfl, _, rfl, _, rfl, rfl, ps, 10, by show [_, fz (.int (((xs.map OT.leaf).length : Nat) : Int))] = _; rw [List.length_map, hxn] <;> rfl, by omega, by omega, fun y hy0 hy => ⟨trivial, ?_⟩⟩
    obtain ⟨k, rfl⟩ : ∃ k : Nat, y = (k : Int) := ⟨y.toNat, by omega⟩
    have hk : k < (xs).length := by rw [hxn]; omega
    refine ⟨(xs)[k], at_nat (List.getElem?_eq_getElem hk), [.leaf _], rfl, by show 1 ≤ sizeL; unfold sizeL; omega, ?_⟩
    have hxk := hxl _ (List.getElem_mem hk)
    generalize (xs)[k] = xk at *
    show oAdd (Rs.nw (.lst (((fw.take a).map nI).map OT.leaf))).ffz (Rs.nw (.lst ([xk].map OT.leaf))).ffz _
    rw [ffz_lst, ffz_lst]
    refine w_add_ff (by rw [List.length_map, List.length_take]; show _ + 1 ≤ sizeL; unfold sizeL; omega) ?_
    refine ⟨_, rfl, _, rfl, _, rfl, ?_⟩
    rw [show ((a : Nat) : Int) + 1 = ((a + 1 : Nat) : Int) from rfl, cutB, ← List.map_drop]
    dsimp only
    rw [ffz_lst, ffz_lst]
    refine w_add_ff (by rw [List.length_append, List.length_map, List.length_map, List.length_take, List.length_drop]; show _ + 1 + _ ≤ sizeL; unfold sizeL; omega) ?_
    have hkd := kd_mid (a := fw.take a) (b := fw.drop (a + 1)) (x := xk) (fun n m => a2 n (List.mem_of_mem_take m)) (fun n m => a2 n (List.mem_of_mem_drop m)) (by rw [List.length_take, List.length_drop]; omega) hxk.2
    refine ⟨_, fz_lst _, trivial, h _ ⟨fw_at (k := a) (by rw [List.length_append, List.length_append, List.length_map, List.length_take]; show a < _ + 1 + _; omega) ?_, (fun w => by cases w), hkd⟩⟩
    rw [getD_mid (by rw [List.length_map, List.length_take]; omega)]
    exact hxk.1

theorem wp_law_outcomes (cs : Cs) (ss : R.Env) (Q : Rs → R.Env → Prop) (h : (F_law_outcomes cs).io ss Q) : m_law_outcomes cs (ss ++ List.replicate 2 none) { nx := fun e => Q (.fz .non) (outs [] 1 e), rt := fun r e => Q r (outs [] 1 e) } := by
  obtain ⟨d, hd, rfl, h⟩ := h
  unfold m_law_outcomes
  intro os cp
  refine s_seq fun K hK => ?_
  refine ⟨[.leaf (.obj (os 0) cp)], rfl, by show 1 ≤ sizeL; unfold sizeL; omega, trivial, hK _ ?_⟩
  clear hK
  refine s_seq fun K hK => ?_
  refine app_e (E := fun w => [fz d, some (.nw (.lst w)), none]) (i := 1) (d := .obj (os 1) cp) (w := [.leaf (.obj (os 0) cp)]) (fun _ => rfl) (fun _ _ => rfl) (by show 1 < sizeL; unfold sizeL; omega) (fun P hP => hP) (hK _ ?_)
  clear hK
  refine s_seq fun K hK => ?_
  refine app_e (E := fun w => [fz d, some (.nw (.lst w)), none]) (i := 1) (d := .obj (os 2) cp) (w := [.leaf (.obj (os 0) cp), .leaf (.obj (os 1) cp)]) (fun _ => rfl) (fun _ _ => rfl) (by show 2 < sizeL; unfold sizeL; omega) (fun P hP => hP) (hK _ ?_)
  clear hK
  refine s_seq fun K hK => ?_
  refine app_e (E := fun w => [fz d, some (.nw (.lst w)), none]) (i := 1) (d := .obj (os 3) cp) (w := [.leaf (.obj (os 0) cp), .leaf (.obj (os 1) cp), .leaf (.obj (os 2) cp)]) (fun _ => rfl) (fun _ _ => rfl) (by show 3 < sizeL; unfold sizeL; omega) (fun P hP => hP) (hK _ ?_)
  clear hK
  refine s_seq fun K hK => ?_
  refine app_e (E := fun w => [fz d, some (.nw (.lst w)), none]) (i := 1) (d := .obj (os 4) cp) (w := [.leaf (.obj (os 0) cp), .leaf (.obj (os 1) cp), .leaf (.obj (os 2) cp), .leaf (.obj (os 3) cp)]) (fun _ => rfl) (fun _ _ => rfl) (by show 4 < sizeL; unfold sizeL; omega) (fun P hP => hP) (hK _ ?_)
  clear hK
  refine s_seq fun K hK => ?_
  refine app_e (E := fun w => [fz d, some (.nw (.lst w)), none]) (i := 1) (d := .obj (os 5) cp) (w := [.leaf (.obj (os 0) cp), .leaf (.obj (os 1) cp), .leaf (.obj (os 2) cp), .leaf (.obj (os 3) cp), .leaf (.obj (os 4) cp)]) (fun _ => rfl) (fun _ _ => rfl) (by show 5 < sizeL; unfold sizeL; omega) (fun P hP => hP) (hK _ ?_)
  clear hK
  refine s_seq fun K hK => ?_
  refine app_e (E := fun w => [fz d, some (.nw (.lst w)), none]) (i := 1) (d := .obj (os 6) cp) (w := [.leaf (.obj (os 0) cp), .leaf (.obj (os 1) cp), .leaf (.obj (os 2) cp), .leaf (.obj (os 3) cp), .leaf (.obj (os 4) cp), .leaf (.obj (os 5) cp)]) (fun _ => rfl) (fun _ _ => rfl) (by show 6 < sizeL; unfold sizeL; omega) (fun P hP => hP) (hK _ ?_)
  clear hK
  refine s_seq fun K hK => ?_
  refine app_e (E := fun w => [fz d, some (.nw (.lst w)), none]) (i := 1) (d := .obj (os 7) cp) (w := [.leaf (.obj (os 0) cp), .leaf (.obj (os 1) cp), .leaf (.obj (os 2) cp), .leaf (.obj (os 3) cp), .leaf (.obj (os 4) cp), .leaf (.obj (os 5) cp), .leaf (.obj (os 6) cp)]) (fun _ => rfl) (fun _ _ => rfl) (by show 7 < sizeL; unfold sizeL; omega) (fun P hP => hP) (hK _ ?_)
  clear hK
  refine s_seq fun K hK => ?_
  refine app_e (E := fun w => [fz d, some (.nw (.lst w)), none]) (i := 1) (d := .obj (os 8) cp) (w := [.leaf (.obj (os 0) cp), .leaf (.obj (os 1) cp), .leaf (.obj (os 2) cp), .leaf (.obj (os 3) cp), .leaf (.obj (os 4) cp), .leaf (.obj (os 5) cp), .leaf (.obj (os 6) cp), .leaf (.obj (os 7) cp)]) (fun _ => rfl) (fun _ _ => rfl) (by show 8 < sizeL; unfold sizeL; omega) (fun P hP => hP) (hK _ ?_)
  clear hK
  refine s_seq fun K hK => ?_
  refine app_e (E := fun w => [fz d, some (.nw (.lst w)), none]) (i := 1) (d := .obj (os 9) cp) (w := [.leaf (.obj (os 0) cp), .leaf (.obj (os 1) cp), .leaf (.obj (os 2) cp), .leaf (.obj (os 3) cp), .leaf (.obj (os 4) cp), .leaf (.obj (os 5) cp), .leaf (.obj (os 6) cp), .leaf (.obj (os 7) cp), .leaf (.obj (os 8) cp)]) (fun _ => rfl) (fun _ _ => rfl) (by show 9 < sizeL; unfold sizeL; omega) (fun P hP => hP) (hK _ ?_)
  clear hK
  refine s_seq fun K hK => ?_
  refine app_e (E := fun w => [fz d, some (.nw (.lst w)), none]) (i := 1) (d := .obj (os 10) cp) (w := [.leaf (.obj (os 0) cp), .leaf (.obj (os 1) cp), .leaf (.obj (os 2) cp), .leaf (.obj (os 3) cp), .leaf (.obj (os 4) cp), .leaf (.obj (os 5) cp), .leaf (.obj (os 6) cp), .leaf (.obj (os 7) cp), .leaf (.obj (os 8) cp), .leaf (.obj (os 9) cp)]) (fun _ => rfl) (fun _ _ => rfl) (by show 10 < sizeL; unfold sizeL; omega) (fun P hP => hP) (hK _ ?_)
  clear hK
  refine s_seq fun K hK => ?_
  refine app_e (E := fun w => [fz d, some (.nw (.lst w)), none]) (i := 1) (d := .obj (os 11) cp) (w := [.leaf (.obj (os 0) cp), .leaf (.obj (os 1) cp), .leaf (.obj (os 2) cp), .leaf (.obj (os 3) cp), .leaf (.obj (os 4) cp), .leaf (.obj (os 5) cp), .leaf (.obj (os 6) cp), .leaf (.obj (os 7) cp), .leaf (.obj (os 8) cp), .leaf (.obj (os 9) cp), .leaf (.obj (os 10) cp)]) (fun _ => rfl) (fun _ _ => rfl) (by show 11 < sizeL; unfold sizeL; omega) (fun P hP => hP) (hK _ ?_)
  clear hK
  refine s_seq fun K hK => ?_
  refine app_e (E := fun w => [fz d, some (.nw (.lst w)), none]) (i := 1) (d := .obj (os 12) cp) (w := [.leaf (.obj (os 0) cp), .leaf (.obj (os 1) cp), .leaf (.obj (os 2) cp), .leaf (.obj (os 3) cp), .leaf (.obj (os 4) cp), .leaf (.obj (os 5) cp), .leaf (.obj (os 6) cp), .leaf (.obj (os 7) cp), .leaf (.obj (os 8) cp), .leaf (.obj (os 9) cp), .leaf (.obj (os 10) cp), .leaf (.obj (os 11) cp)]) (fun _ => rfl) (fun _ _ => rfl) (by show 12 < sizeL; unfold sizeL; omega) (fun P hP => hP) (hK _ ?_)
  clear hK
  have init2 : ∀ Q0 : Rs → R.Env → Prop, Q0 (.fz .non) [some (.nw (cupT cs [2] [])), none, none] → F_CupRow_init cs [some (.nw (.ins cs.CupRow [] [])), some (Rs.nw (.lst [.leaf (.int 2)])).lend, fz .non] Q0 := fun Q0 hq => by
    rw [show (Rs.nw (.lst [.leaf (.int 2)])).lend = .fz (nL [2]) from ffz_lst' (ds := [.int 2])]
    exact ⟨[2], [], .non, row2, rfl, .inr ⟨rfl, rfl⟩, hq⟩
  have fd2 : ∀ Q0 : Rs → Prop, Q0 (.fz (.exn 7)) → F_X_first_difference cs [some (Rs.nw (cupT cs [2] [])).lend, fz d, fz .non] Q0 := fun Q0 hq => by
    rw [cup_lend]
    exact ⟨_, _, _, rfl, .inr ⟨⟨_, _, rfl⟩, hd⟩, hq⟩
  refine lc_any (([.obj (os 0) cp, .obj (os 1) cp, .obj (os 2) cp, .obj (os 3) cp, .obj (os 4) cp, .obj (os 5) cp, .obj (os 6) cp, .obj (os 7) cp, .obj (os 8) cp, .obj (os 9) cp, .obj (os 10) cp, .obj (os 11) cp, .obj (os 12) cp] : List R.D).map Rs.fz) _ (fun k => .leaf (.str "cups")) (fun Q' z => ⟨_, rfl, _, rfl, z⟩) (by show 13 ≤ sizeL; unfold sizeL; omega) (fun k r hr => ?_) ⟨trivial, h⟩
  match k, hr with
  | 0, hr =>
    cases hr
    exact ⟨trivial, rfl, 0, by omega, rfl, ⟨_, rfl, rfl, d, _, rfl, hd, trivial, by decide, _, rfl, item_snoc⟩⟩
  | 1, hr =>
    cases hr
    exact ⟨trivial, rfl, 1, by omega, rfl, ⟨_, rfl, rfl, d, _, rfl, hd, trivial, by decide, _, rfl, item_snoc⟩⟩
  | 2, hr =>
    cases hr
    exact ⟨trivial, rfl, 2, by omega, rfl, ⟨_, rfl, rfl, d, _, _, rfl, hd, trivial, by decide, _, rfl, item_snoc⟩⟩
  | 3, hr =>
    cases hr
    exact ⟨trivial, rfl, 3, by omega, rfl, ⟨_, rfl, rfl, rfl, rfl, d, _, _, _, rfl, hd, by decide, _, rfl, item_snoc⟩⟩
  | 4, hr =>
    cases hr
    exact ⟨trivial, rfl, 4, by omega, rfl, ⟨_, rfl, rfl, d, _, _, rfl, hd, trivial, by decide, _, rfl, item_snoc⟩⟩
  | 5, hr =>
    cases hr
    exact ⟨trivial, rfl, 5, by omega, rfl, ⟨_, rfl, rfl, d, _, rfl, hd, trivial, by decide, _, rfl, item_snoc⟩⟩
  | 6, hr =>
    cases hr
    exact ⟨trivial, rfl, 6, by omega, rfl, ⟨_, rfl, rfl, d, _, rfl, hd, trivial, by decide, _, rfl, item_snoc⟩⟩
  | 7, hr =>
    cases hr
    exact ⟨trivial, rfl, 7, by omega, rfl, ⟨_, rfl, rfl, d, _, rfl, hd, trivial, by decide, _, rfl, item_snoc⟩⟩
  | 8, hr =>
    cases hr
    exact ⟨trivial, rfl, 8, by omega, rfl, ⟨_, rfl, rfl, d, _, rfl, hd, trivial, by decide, _, rfl, item_snoc⟩⟩
  | 9, hr =>
    cases hr
    exact ⟨trivial, rfl, 9, by omega, rfl, ⟨_, rfl, rfl, d, _, rfl, hd, trivial, by decide, _, rfl, item_snoc⟩⟩
  | 10, hr =>
    cases hr
    exact ⟨trivial, rfl, 10, by omega, rfl, ⟨_, rfl, rfl, d, rfl, hd, trivial, by decide, _, rfl, item_snoc⟩⟩
  | 11, hr =>
    cases hr
    exact ⟨trivial, rfl, 11, by omega, rfl, ⟨_, rfl, rfl, d, _, _, rfl, .inl hd, trivial, by decide, _, rfl, item_snoc⟩⟩
  | 12, hr =>
    cases hr
    exact ⟨trivial, rfl, 12, by omega, rfl, ⟨[.leaf (.int 2)], rfl, by show 1 ≤ sizeL; unfold sizeL; omega, rfl, init2 _ ⟨rfl, _, rfl, _, rfl, rfl, fd2 _ ⟨trivial, by decide, _, rfl, item_snoc⟩⟩⟩⟩
  | k + 13, hr => cases hr

theorem wp_law (cs : Cs) (ss : R.Env) (Q : Rs → R.Env → Prop) (h : (F_law cs).io ss Q) : m_law cs (ss ++ List.replicate 10 none) { nx := fun e => Q (.fz .non) (outs [] 1 e), rt := fun r e => Q r (outs [] 1 e) } := by
  obtain ⟨ns, rfl, hl, h⟩ := h
  unfold m_law
  refine s_seq fun K hK => ?_
  refine ⟨_, rfl, _, rfl, by omega, by omega, rfl, fun i e => ∃ (y1 y2 y3 y4 y5 y6 y7 y8 y9 y10 : Option Rs), e = [fz (scrD ns), y1, y2, y3, y4, y5, y6, y7, y8, y9, y10], ⟨_, _, _, _, _, _, _, _, _, _, rfl⟩, ?_, ?_⟩
  · clear hK
    rintro i r e hr ⟨y1, y2, y3, y4, y5, y6, y7, y8, y9, y10, rfl⟩
    rw [rng_get hr, show (R.D.int (0 + (i : Int))) = nI i by rw [Int.zero_add] <;> rfl]
    refine ⟨trivial, ?_⟩
    refine s_seq fun K hK => ?_
    refine ⟨_, rfl, _, rfl, rfl, ns, i, rfl, trivial, trivial, hK _ ?_⟩
    clear hK
    refine s_seq fun K hK => ?_
    refine ⟨_, rfl, rfl, [], 8, 9, 30, rfl, by omega, by omega, by omega, by omega, by omega, fun sz fw hR hsl hsum => ⟨trivial, .tup [nL sz, nL fw], .tup (.cons (.leaf _) (.cons (by rw [leafs_nI]; exact fz_lst _) .nil)), gT2_fz (hK _ ?_)⟩⟩
    clear hK
    refine s_seq fun K hK => ?_
    refine ⟨by omega, by omega, rfl, fun j e => ∃ (y5 y6 y7 y8 y9 y10 : Option Rs), e = [fz (scrD ns), fz (nI i), fz (.vol 0 []), fz (nL sz), fz (nL fw), y5, y6, y7, y8, y9, y10], ⟨_, _, _, _, _, _, rfl⟩, ?_, ?_⟩
    · clear hK
      rintro j r e hr ⟨y5, y6, y7, y8, y9, y10, rfl⟩
      rw [rng_get hr]
      refine ⟨trivial, ?_⟩
      generalize (some (Rs.fz (R.D.int (0 + (j : Int))))) = y5
      refine s_seq fun K hK => ?_
      refine ⟨_, rfl, _, rfl, rfl, [], sz, fw, hR, rfl, fun bad hbad => ⟨trivial, _, rfl, _, rfl, _, rfl, rfl, [], sz, fw, hR, rfl, fun worse hworse => ⟨trivial, [.leaf bad, .leaf worse], rfl, by show 2 ≤ sizeL; unfold sizeL; omega, .tup [bad, worse], .tup (.cons (.leaf _) (.cons (.leaf _) .nil)), gT2_fz (hK _ ?_)⟩⟩⟩
      clear hK
      obtain ⟨a1, a2, a3, a4⟩ := row_le hR
      have hkt : Kd 3 524288 (.tup [bad, worse, nL sz]) := kd_tup (k := 2) (b := 5000) (fun x m => by
        simp only [List.mem_cons, List.not_mem_nil, or_false] at m
        rcases m with rfl | rfl | rfl
        · exact hbad.2
        · exact hworse.2.2
        · exact (kd_nL a1 (by omega)).le (by omega) (by omega)) (by show 3 ≤ 5000; omega) (by show 5001 * 3 ≤ _; omega)
      obtain ⟨pd, hp1, hp2, hp3, hp4⟩ := hkt.2 8 (by omega)
      have hrp : ∀ (E : R.Env) (P : Rs → Prop), E[6]? = some (fz bad) → E[7]? = some (fz worse) → E[3]? = some (fz (nL sz)) → P (.fz (.str pd.shown)) → mB oReprU (mCons (mTup (mCons (mVar 6) (mCons (mVar 7) (mCons (mVar 3) mNil)))) mNil) E P := fun E P e6 e7 e3 hP => ⟨_, e6, _, e7, _, e3, _, rfl, by show 3 ≤ sizeL; unfold sizeL; omega, by
        show oReprU [(Rs.nw (.tup ([bad, worse, nL sz].map OT.leaf))).ffz] P
        rw [ffz_tup]
        exact ⟨pd, hp1, hp2, hp3, hp4, hP⟩⟩
      refine s_seq fun K hK => ?_
      refine hrp _ _ rfl rfl rfl ⟨trivial, hK _ ?_⟩
      clear hK
      refine s_seq fun K hK => ?_
      unfold mAsgG mLst
      change mOut wd_law_outcome ks_law_outcome (mMakeKX 3 cs.CupRow (F_X_CupRow_init cs) 1 1 (mCons (mVar 6) mNil) (mCons (mVar 7) mNil)) _ _
      refine mk8K (i := 6) (j := 7) (by rfl) (by rfl) hbad ?_
      refine ⟨[.leaf (.str "sizes")], rfl, by show 1 ≤ sizeL; unfold sizeL; omega, trivial, hK _ ?_⟩
      clear hK
      refine s_seq fun K hK => ?_
      refine app_e (E := fun w => [fz (scrD ns), fz (nI i), fz (.vol 0 []), fz (nL sz), fz (nL fw), y5, fz bad, fz worse, fz (.str pd.shown), some (.nw (.lst w)), y10]) (fun _ => rfl) (fun _ _ => rfl) (by show 1 < sizeL; unfold sizeL; omega) (fun P hP => mk8 (i := 6) (by rfl) hbad hP) (hK _ ?_)
      clear hK
      refine s_seq fun K hK => ?_
      refine app_e (E := fun w => [fz (scrD ns), fz (nI i), fz (.vol 0 []), fz (nL sz), fz (nL fw), y5, fz bad, fz worse, fz (.str pd.shown), some (.nw (.lst w)), y10]) (fun _ => rfl) (fun _ _ => rfl) (by show 2 < sizeL; unfold sizeL; omega) (fun P hP => mk9 (i := 3) (j := 7) (by rfl) (by rfl) hR hworse hP) (hK _ ?_)
      clear hK
      refine mIfS_ff (fun P hP => mOr_ff (fun P hP => ⟨_, rfl, [.leaf (.str "sizes"), .leaf (.str "sizes"), .leaf (.str "forward")], rfl, by show 3 ≤ sizeL; unfold sizeL; omega, ?_⟩) (fun P hP => hrp _ _ rfl rfl rfl ⟨_, rfl, _, _, rfl, rfl, ?_⟩) hP) ⟨_, _, _, _, _, _, rfl⟩
      · show oEq true (.br (.lst ([R.D.str "sizes", .str "sizes", .str "forward"].map OT.leaf))) (Rs.nw (.lst ([R.D.str "sizes", .str "sizes", .str "forward"].map OT.leaf))).ffz _
        rw [ffz_lst]
        refine br_same (fun w m => ?_) (.inr rfl) hP
        simp only [List.mem_cons, List.not_mem_nil, or_false] at m
        rcases m with rfl | rfl | rfl <;> exact tl_str _
      · rw [decide_eq_true rfl]
        exact hP
    rintro e ⟨y5, y6, y7, y8, y9, y10, rfl⟩
    refine hK _ ?_
    clear hK
    refine s_seq fun K hK => ?_
    unfold mAsgG mLst
    change mOut wd_law_outcome ks_law_outcome (mMakeKX 3 cs.CupRow (F_X_CupRow_init cs) 1 1 (mCons (mVar 3) mNil) (mCons (mVar 4) mNil)) _ _
    refine mkOkK (ra := .fz (nL sz)) (rb := .fz (nL fw)) rfl rfl (fun P hP => ⟨_, rfl, hP⟩) (fun P hP => ⟨_, rfl, hP⟩) hR ?_
    refine ⟨[.leaf (.str "ok")], rfl, by show 1 ≤ sizeL; unfold sizeL; omega, trivial, hK _ ?_⟩
    clear hK
    have rep : ∀ (E : R.Env) (x : Int) (k : Nat) (P : Rs → Prop), k < 1000000 → P (.nw (.lst ((List.replicate k (R.D.int x)).map .leaf))) → mOp oMul (mLst (mCons (mC (.int x)) mNil)) (mC (.int (k : Nat))) E P := fun E x k P hk hP => e_mul (d := .int x) (r := .nw (.lst [.leaf (.int x)])) (by omega) (by omega) (ffz_lst [.int x]) (fun P hP => one_lst (fun P hP => hP) hP) (by rw [Int.toNat_natCast]; exact hP)
    refine s_seq fun K hK => ?_
    refine app_e (E := fun w => [fz (scrD ns), fz (nI i), fz (.vol 0 []), fz (nL sz), fz (nL fw), y5, y6, y7, y8, some (.nw (.lst w)), y10]) (fun _ => rfl) (fun _ _ => rfl) (by show 1 < sizeL; unfold sizeL; omega) (fun P hP => mkOk (sz := List.replicate 15 3) (ra := .nw (.lst ((List.replicate 15 (R.D.int 3)).map .leaf))) ffz_lst' (fun P hP => rep _ 3 15 P (by omega) hP) row3 hP) (hK _ ?_)
    clear hK
    refine s_seq fun K hK => ?_
    refine app_e (E := fun w => [fz (scrD ns), fz (nI i), fz (.vol 0 []), fz (nL sz), fz (nL fw), y5, y6, y7, y8, some (.nw (.lst w)), y10]) (fun _ => rfl) (fun _ _ => rfl) (by show 2 < sizeL; unfold sizeL; omega) (fun P hP => mkOkK (sz := List.replicate 30 2) (fw := List.replicate 29 1) (ra := .nw (.lst ((List.replicate 30 (R.D.int 2)).map .leaf))) (rb := .nw (.lst ((List.replicate 29 (R.D.int 1)).map .leaf))) ffz_lst' ffz_lst' (fun P hP => rep _ 2 30 P (by omega) hP) (fun P hP => rep _ 1 29 P (by omega) hP) row30 hP) (hK _ ?_)
    clear hK
    refine s_seq fun K hK => ?_
    refine mIfS_ff (fun P hP => ⟨_, rfl, ?_⟩) (hK _ ?_)
    · refine e_mul (d := .str "ok") (r := .nw (.lst [.leaf (.str "ok")])) (by omega) (by omega) (ffz_lst [.str "ok"]) (fun P hP => one_lst (fun P hP => hP) hP) ?_
      show oEq true (.br (.lst ((List.replicate 3 (R.D.str "ok")).map OT.leaf))) (Rs.nw (.lst ((List.replicate 3 (R.D.str "ok")).map OT.leaf))).ffz _
      rw [ffz_lst]
      refine br_same (fun w m => ?_) (.inr rfl) hP
      rw [(List.mem_replicate.mp m).2]
      exact tl_str _
    clear hK
    refine s_seq fun K hK => ?_
    refine ⟨_, rfl, _, rfl, _, rfl, _, rfl, by show 2 ≤ sizeL; unfold sizeL; omega, [], rfl, Nat.zero_le _, _, rfl, by show 8 ≤ sizeL; unfold sizeL; omega, _, rfl, rfl, [], 8, rfl, by omega, by omega, fun x hx0 hx => ⟨trivial, ?_⟩⟩
    obtain ⟨k, rfl⟩ : ∃ k : Nat, x = (k : Int) := ⟨x.toNat, by omega⟩
    rw [pick8]
    have hk : k < [R.D.non, nL sz, .tup [nL sz, nL fw], .str "cups", .int 5, .bl true, .dct [] [], .lst []].length := by show k < 8; omega
    refine ⟨_, at_nat (List.getElem?_eq_getElem hk), trivial, hK _ ?_⟩
    have hm := List.getElem_mem hk
    clear hK
    generalize [R.D.non, nL sz, .tup [nL sz, nL fw], .str "cups", .int 5, .bl true, .dct [] [], .lst []][k] = inv at *
    have hty : tyd inv := by
      simp only [List.mem_cons, List.not_mem_nil, or_false] at hm
      rcases hm with rfl | rfl | rfl | rfl | rfl | rfl | rfl | rfl <;> exact ⟨_, rfl⟩
    refine mIfS_ff (fun P hP => ⟨_, rfl, rfl, inv, hty, rfl, trivial, ?_⟩) ⟨_, _, _, _, _, _, _, _, _, _, rfl⟩
    refine e_mul (d := .str "cups") (r := .nw (.lst [.leaf (.str "cups")])) (by omega) (by omega) (ffz_lst [.str "cups"]) (fun P hP => one_lst (fun P hP => hP) hP) ?_
    rw [ffz_lst, ffz_lst]
    refine fz_same (fun w m => ?_) hP
    rw [(List.mem_replicate.mp m).2]
    exact tl_str _
  · rintro e ⟨y1, y2, y3, y4, y5, y6, y7, y8, y9, y10, rfl⟩
    exact hK _ ⟨trivial, h⟩

theorem wp_G_are_forward_indices (cs : Cs) (ss : R.Env) (Q : Rs → R.Env → Prop) (h : (F_G_are_forward_indices cs).io ss Q) : m_G_are_forward_indices cs (ss ++ List.replicate 2 none) { nx := fun e => Q (.fz .non) (outs [] 2 e), rt := fun r e => Q r (outs [] 2 e) } := by
  obtain ⟨sz, fw, d, hR, hok, rfl, h⟩ := h
  have h30 := hR.l1
  have h0 := hR.l0
  unfold m_G_are_forward_indices
  obtain ⟨⟨ty, hty⟩, _⟩ := hok.t
  refine s_seq fun K hK => ?_
  have no : (fwD sz d = false) → isTy ty "list" = false → mIfS (mOr (mNot (mT (mUn (oIs "list") (mVar 0)))) (mT (mOp (oEq true) (mB oLen (mCons (mVar 0) mNil)) (mOp oSub (mB oLen (mCons (mVar 1) mNil)) (mC (.int 1)))))) (mRet (mC (.bl false))) mNext [fz d, fz (nL sz), none, none] { nx := K, rt := fun r e => Q r (outs [] 2 e) } := fun e1 e2 => if_of true (fun P hP => or_p (mNot_b (b := false) (fun P hP => mT_tt (fun Q' hQ => ⟨_, rfl, ty, hty, by rw [e2]; exact hQ⟩) hP) ⟨fun _ => hP, fun w => by cases w⟩)) (fun _ => ⟨trivial, by rw [e1] at h; exact h⟩) (fun w => by cases w)
  cases d with
  | lst ds =>
    obtain ⟨_, hl, hx⟩ := hok
    clear no
    have h : Q (.fz (.bl (decide (ds.length + 1 = sz.length) && ((List.range ds.length).map fun k => gf (pk sz k) (ds.getD k .non)).all id))) [none, none] := h
    refine if_of (!decide (ds.length + 1 = sz.length)) (fun P hP => or_p (mNot_b (b := true) (fun P hP => mT_tt (fun Q' hQ => ⟨_, rfl, _, rfl, hQ⟩) hP) ⟨(fun w => by cases w), fun _ => ⟨_, rfl, _, rfl, _, rfl, _, rfl, trivial, ?_⟩⟩)) (fun e => ?_) (fun e => hK _ ?_)
    · show oEq true (.fz (.int ((ds.map OT.leaf).length : Nat))) (.fz (.int ((((sz.map nI).map OT.leaf).length : Nat) - 1))) _
      rw [w_eq_int, List.length_map, List.length_map, List.length_map, show decide (((ds.length : Nat) : Int) = ((sz.length : Nat) : Int) - 1) = decide (ds.length + 1 = sz.length) from decide_eq_decide.mpr ⟨fun h => by omega, fun h => by omega⟩]
      show P (decide (ds.length + 1 = sz.length) != true)
      rw [Bool.bne_true]
      exact hP
    · have e : decide (ds.length + 1 = sz.length) = false := by rw [Bool.not_eq_true'] at e; exact e
      rw [e, Bool.false_and] at h
      exact ⟨trivial, h⟩
    have e : decide (ds.length + 1 = sz.length) = true := by rw [Bool.not_eq_false'] at e; exact e
    rw [e, Bool.true_and] at h
    have hlen := of_decide_eq_true e
    clear hK
    have hzl : (zipR ds (sz.map nI)).length = ds.length := by unfold zipR; rw [List.length_map, List.length_range, List.length_map]; omega
    refine all_lcB (zipR ds (sz.map nI)) (fun k => gf (pk sz k) (ds.getD k .non)) (fun Q' q => ⟨_, rfl, _, rfl, _, _, rfl, rfl, q⟩) (by rw [hzl]; unfold sizeL; omega) (fun k r hr P hP => ?_) ⟨trivial, by rw [hzl]; exact h⟩
    have hk : k < ds.length := by
      have := (List.getElem?_eq_some_iff.mp hr).1
      rwa [hzl] at this
    rw [range_map_get hr, getD_nI (by omega)]
    have e1 : ds[k]? = some (ds.getD k .non) := by rw [List.getD_eq_getElem?_getD, List.getElem?_eq_getElem hk] <;> rfl
    have ht := (hx _ (List.mem_of_getElem? e1)).1
    generalize ds.getD k .non = dd at *
    have hP : P (.fz (.bl (isIntD 0 dd && ltD (pk sz k : Nat) dd))) := hP
    refine gT2_arg ⟨rfl, ?_⟩
    by_cases z : isIntD 0 dd = true
    · rw [z, Bool.true_and] at hP
      refine mAndV_tt (fun P hP => ⟨_, rfl, rfl, dd, 0, ht, rfl, trivial, by rw [z]; exact hP⟩) ?_
      cases dd with
      | int i => exact ⟨_, rfl, _, rfl, trivial, hP⟩
      | _ => cases z
    · have z : isIntD 0 dd = false := by simpa using z
      rw [z, Bool.false_and] at hP
      refine ⟨_, rfl, rfl, dd, 0, ht, rfl, trivial, ?_⟩
      rw [z]
      dsimp only
      rw [if_neg Bool.false_ne_true]
      exact hP
  | non => exact no rfl (by cases hty; decide)
  | bl b => exact no rfl (by cases hty; decide)
  | int i => exact no rfl (by cases hty; decide)
  | str z => exact no rfl (by cases hty; decide)
  | tup xs => exact no rfl (by cases hty; decide)
  | dct ks ds => exact no rfl (by cases hty; decide)
  | _ => cases hty

theorem wp_G_are_sizes (cs : Cs) (ss : R.Env) (Q : Rs → R.Env → Prop) (h : (F_G_are_sizes cs).io ss Q) : m_G_are_sizes cs (ss ++ List.replicate 1 none) { nx := fun e => Q (.fz .non) (outs [] 1 e), rt := fun r e => Q r (outs [] 1 e) } := by
  obtain ⟨d, hok, rfl, h⟩ := h
  unfold m_G_are_sizes
  obtain ⟨⟨ty, hty⟩, _⟩ := hok.t
  refine s_seq fun K hK => ?_
  have no : (sizesD d = false) → isTy ty "list" = false → mIfS (mOr (mNot (mT (mUn (oIs "list") (mVar 0)))) (mNot (mT (mCh bLe bLe (mC (.int 1)) (mB oLen (mCons (mVar 0) mNil)) (mC (.int 30)))))) (mRet (mC (.bl false))) mNext [fz d, none] { nx := K, rt := fun r e => Q r (outs [] 1 e) } := fun e1 e2 => if_of true (fun P hP => or_p (mNot_b (b := false) (fun P hP => mT_tt (fun Q' hQ => ⟨_, rfl, ty, hty, by rw [e2]; exact hQ⟩) hP) ⟨fun _ => hP, fun w => by cases w⟩)) (fun _ => ⟨trivial, by rw [e1] at h; exact h⟩) (fun w => by cases w)
  cases d with
  | lst ds =>
    obtain ⟨_, hl, hx⟩ := hok
    clear no
    have h : Q (.fz (.bl ((decide (1 ≤ ds.length) && decide (ds.length ≤ 30)) && (ds.all gd && decide ((ds.map toI).sum ≤ ((ds.length : Nat) : Int) + 30))))) [none] := h
    refine if_of (!(decide (1 ≤ ds.length) && decide (ds.length ≤ 30))) (fun P hP => or_p (mNot_b (b := true) (fun P hP => mT_tt (fun Q' hQ => ⟨_, rfl, _, rfl, hQ⟩) hP) ⟨(fun w => by cases w), fun _ => mNot_b (b := decide (1 ≤ ds.length) && decide (ds.length ≤ 30)) (fun P hP => mT_tt (fun Q' hQ => mCh_b (i := 1) (j := (ds.length : Nat)) (k := 30) (fun P hP => hP) (fun P hP => ⟨_, rfl, _, rfl, ?_⟩) (fun P hP => hP) ?_) hP) hP⟩)) (fun e => ?_) (fun e => hK _ ?_)
    · show P (.fz (.int ((ds.map OT.leaf).length : Nat)))
      rw [List.length_map]
      exact hP
    · show Q' (.fz (.bl (decide (_ ≤ _) && decide (_ ≤ _))))
      rw [show decide ((1 : Int) ≤ (ds.length : Nat)) = decide (1 ≤ ds.length) from decide_eq_decide.mpr ⟨fun h => by omega, fun h => by omega⟩, show decide (((ds.length : Nat) : Int) ≤ 30) = decide (ds.length ≤ 30) from decide_eq_decide.mpr ⟨fun h => by omega, fun h => by omega⟩]
      exact hQ
    · have e : (decide (1 ≤ ds.length) && decide (ds.length ≤ 30)) = false := by rw [Bool.not_eq_true'] at e; exact e
      rw [e, Bool.false_and] at h
      exact ⟨trivial, h⟩
    have e : (decide (1 ≤ ds.length) && decide (ds.length ≤ 30)) = true := by rw [Bool.not_eq_false'] at e; exact e
    rw [e, Bool.true_and] at h
    clear hK
    refine s_seq fun K hK => ?_
    refine if_of (!(ds.all gd)) (fun P hP => mNot_b (b := ds.all gd) (fun P hP => mT_tt (fun Q' hQ => all_lcB (ds.map Rs.fz) (fun k => gd (ds.getD k .non)) (fun Q' q => it_var_lst rfl q) (by rw [List.length_map]; unfold sizeL; omega) (fun k r hr P hP => ?_) ?_) hP) hP) (fun e => ?_) (fun e => hK _ ?_)
    · obtain ⟨dd, e1, rfl⟩ := get_fz hr
      rw [List.getD_eq_getElem?_getD, e1] at hP
      have ht := (hx dd (List.mem_of_getElem? e1)).1
      have hP : P (.fz (.bl (isIntD 1 dd && leD 9 dd))) := hP
      refine ⟨trivial, rfl, ?_⟩
      by_cases z : isIntD 1 dd = true
      · rw [z, Bool.true_and] at hP
        refine mAndV_tt (fun P hP => ⟨_, rfl, rfl, dd, 1, ht, rfl, trivial, by rw [z]; exact hP⟩) ?_
        cases dd with
        | int i => exact ⟨_, rfl, trivial, hP⟩
        | _ => cases z
      · have z : isIntD 1 dd = false := by simpa using z
        rw [z, Bool.false_and] at hP
        refine ⟨_, rfl, rfl, dd, 1, ht, rfl, trivial, ?_⟩
        rw [z]
        dsimp only
        rw [if_neg Bool.false_ne_true]
        exact hP
    · rw [List.length_map, all_idx]
      exact hQ
    · have e : ds.all gd = false := by rw [Bool.not_eq_true'] at e; exact e
      rw [e, Bool.false_and] at h
      exact ⟨trivial, h⟩
    have e : ds.all gd = true := by rw [Bool.not_eq_false'] at e; exact e
    rw [e, Bool.true_and] at h
    clear hK
    obtain ⟨ns, e1, e2⟩ := all_good e
    rw [e2] at h
    refine ⟨_, rfl, ds, ns, rfl, by rw [e1]; exact ints_int ns, _, rfl, _, rfl, trivial, trivial, trivial, ?_⟩
    show Q (.fz (.bl (decide (ns.sum - (((ds.map OT.leaf).length : Nat) : Int) ≤ 30)))) [none]
    rw [List.length_map, show decide (ns.sum - ((ds.length : Nat) : Int) ≤ 30) = decide (ns.sum ≤ ((ds.length : Nat) : Int) + 30) from decide_eq_decide.mpr ⟨fun h => by omega, fun h => by omega⟩]
    exact h
  | non => exact no rfl (by cases hty; decide)
  | bl b => exact no rfl (by cases hty; decide)
  | int i => exact no rfl (by cases hty; decide)
  | str z => exact no rfl (by cases hty; decide)
  | tup xs => exact no rfl (by cases hty; decide)
  | dct ks ds => exact no rfl (by cases hty; decide)
  | _ => cases hty

theorem wp_G_is_integer (cs : Cs) (ss : R.Env) (Q : Rs → R.Env → Prop) (h : (F_G_is_integer cs).io ss Q) : m_G_is_integer cs (ss ++ List.replicate 0 none) { nx := fun e => Q (.fz .non) (outs [] 2 e), rt := fun r e => Q r (outs [] 2 e) } := by
  obtain ⟨d, m, ⟨t, ht⟩, rfl, h⟩ := h
  unfold m_G_is_integer
  cases d with
  | int i => exact mAndV_tt (fun P hP => ⟨_, rfl, _, rfl, hP⟩) (mAndV_tt (fun P hP => ⟨_, rfl, _, rfl, hP⟩) ⟨_, rfl, _, rfl, trivial, trivial, h⟩)
  | bl b => exact mAndV_tt (fun P hP => ⟨_, rfl, _, rfl, hP⟩) ⟨_, rfl, _, rfl, trivial, h⟩
  | non => exact ⟨_, rfl, _, rfl, trivial, h⟩
  | str z => exact ⟨_, rfl, _, rfl, trivial, h⟩
  | lst xs => exact ⟨_, rfl, _, rfl, trivial, h⟩
  | tup xs => exact ⟨_, rfl, _, rfl, trivial, h⟩
  | dct ks ds => exact ⟨_, rfl, _, rfl, trivial, h⟩
  | _ => cases ht

theorem wp_X_CupRow_init (cs : Cs) (ss : R.Env) (Q : Rs → R.Env → Prop) (h : F_E_CupRow_init cs ss Q) : m_X_CupRow_init cs (ss ++ List.replicate 2 none) { nx := fun e => Q (.fz .non) (outs [0] 3 e), rt := fun r e => Q r (outs [0] 3 e) } := by
  obtain ⟨d, e, r0, rfl, hc⟩ := h
  unfold m_X_CupRow_init
  refine s_seq fun K hK => ?_
  rcases hc with ⟨hok, hb, h⟩ | ⟨sz, fw, hR, rfl, hok, hne, hb, h⟩
  · exact if_of true (fun P hP => mNot_b (b := false) (fun P hP => ⟨_, rfl, rfl, d, hok, rfl, trivial, by rw [hb]; exact hP⟩) hP) (fun _ => h) (fun w => by cases w)
  have h30 := hR.l1
  refine mIfS_ff (fun P hP => mNot_b (b := true) (fun P hP => ⟨_, rfl, rfl, nL sz, okl (by rw [List.length_map]; omega) (fun x m => ?_), rfl, trivial, by rw [sizes_row hR]; exact hP⟩) hP) (hK _ ?_)
  · obtain ⟨k, _, rfl⟩ := List.mem_map.mp m
    exact ⟨⟨_, rfl⟩, trivial⟩
  clear hK
  refine s_seq fun K hK => ?_
  obtain ⟨⟨ty, hty⟩, _⟩ := hok.t
  have hnn : ∀ P : Bool → Prop, P false → mT (mUn (oIsN false) (mVar 2)) [some r0, fz (nL sz), fz e, none, none] P := fun P hP => by
    cases e with
    | non => exact absurd rfl hne
    | _ => exact ⟨_, rfl, hP⟩
  refine mIf_ff hnn ⟨_, rfl, trivial, hK _ ?_⟩
  clear hK
  refine s_seq fun K hK => ?_
  exact if_of true (fun P hP => mNot_b (b := false) (fun P hP => ⟨_, rfl, _, rfl, rfl, sz, fw, e, hR, hok, rfl, trivial, by rw [hb]; exact hP⟩) hP) (fun _ => h) (fun w => by cases w)

theorem wp_X_Simulation_init (cs : Cs) (ss : R.Env) (Q : Rs → R.Env → Prop) (h : F_X_Simulation_init cs ss Q) : m_X_Simulation_init cs (ss ++ List.replicate 6 none) { nx := fun e => Q (.fz .non) (outs [0] 4 e), rt := fun r e => Q r (outs [0] 4 e) } := by
  obtain ⟨d, e, f, r0, rfl, hd, h⟩ := h
  unfold m_X_Simulation_init
  refine s_seq fun K hK => ?_
  exact ⟨_, rfl, rfl, d, false, .inr ⟨rfl, hd⟩, rfl, trivial, h⟩

theorem wp_X_block_order (cs : Cs) (ss : R.Env) (Q : Rs → R.Env → Prop) (h : (F_X_block_order cs).io ss Q) : m_X_block_order cs (ss ++ List.replicate 2 none) { nx := fun e => Q (.fz .non) (outs [] 3 e), rt := fun r e => Q r (outs [] 3 e) } := by
  obtain ⟨d, e, f, rfl, hd, h⟩ := h
  unfold m_X_block_order
  refine s_seq fun K hK => ?_
  exact ⟨_, rfl, rfl, d, false, .inr ⟨rfl, hd⟩, rfl, trivial, h⟩

theorem wp_X_counter_value (cs : Cs) (ss : R.Env) (Q : Rs → R.Env → Prop) (h : (F_X_counter_value cs).io ss Q) : m_X_counter_value cs (ss ++ List.replicate 2 none) { nx := fun e => Q (.fz .non) (outs [] 2 e), rt := fun r e => Q r (outs [] 2 e) } := by
  obtain ⟨d, e, rfl, hd, h⟩ := h
  unfold m_X_counter_value
  refine s_seq fun K hK => ?_
  exact ⟨_, rfl, rfl, d, false, .inr ⟨rfl, hd⟩, rfl, trivial, h⟩

theorem wp_X_first_difference (cs : Cs) (ss : R.Env) (Q : Rs → R.Env → Prop) (h : (F_X_first_difference cs).io ss Q) : m_X_first_difference cs (ss ++ List.replicate 9 none) { nx := fun e => Q (.fz .non) (outs [] 3 e), rt := fun r e => Q r (outs [] 3 e) } := by
  obtain ⟨d, e, f, rfl, hd, h⟩ := h
  unfold m_X_first_difference
  refine s_seq fun K hK => ?_
  rcases hd with hd | ⟨⟨sz, fw, rfl⟩, hd⟩
  · exact ⟨_, rfl, rfl, d, false, .inr ⟨rfl, hd⟩, rfl, trivial, h⟩
  refine ⟨_, rfl, rfl, _, true, .inl ⟨rfl, sz, fw, rfl⟩, rfl, trivial, hK _ ?_⟩
  clear hK
  refine s_seq fun K hK => ?_
  exact ⟨_, rfl, rfl, e, false, .inr ⟨rfl, hd⟩, rfl, trivial, h⟩

theorem wp_X_next_state (cs : Cs) (ss : R.Env) (Q : Rs → R.Env → Prop) (h : (F_X_next_state cs).io ss Q) : m_X_next_state cs (ss ++ List.replicate 2 none) { nx := fun e => Q (.fz .non) (outs [] 2 e), rt := fun r e => Q r (outs [] 2 e) } := by
  obtain ⟨d, e, rfl, hd, h⟩ := h
  unfold m_X_next_state
  refine s_seq fun K hK => ?_
  exact ⟨_, rfl, rfl, d, false, .inr ⟨rfl, hd⟩, rfl, trivial, h⟩

theorem wp_X_orbit_count (cs : Cs) (ss : R.Env) (Q : Rs → R.Env → Prop) (h : (F_X_orbit_count cs).io ss Q) : m_X_orbit_count cs (ss ++ List.replicate 0 none) { nx := fun e => Q (.fz .non) (outs [] 2 e), rt := fun r e => Q r (outs [] 2 e) } := by
  obtain ⟨d, e, rfl, hd, h⟩ := h
  exact .inr ⟨_, rfl, _, rfl, rfl, d, e, rfl, hd, trivial, 7, rfl, h⟩

theorem wp_X_period (cs : Cs) (ss : R.Env) (Q : Rs → R.Env → Prop) (h : (F_X_period cs).io ss Q) : m_X_period cs (ss ++ List.replicate 1 none) { nx := fun e => Q (.fz .non) (outs [] 2 e), rt := fun r e => Q r (outs [] 2 e) } := by
  obtain ⟨d, e, rfl, hd, h⟩ := h
  exact .inr ⟨_, rfl, _, rfl, rfl, d, e, rfl, hd, trivial, 7, rfl, h⟩

theorem wp_X_require_cups (cs : Cs) (ss : R.Env) (Q : Rs → R.Env → Prop) (h : (F_X_require_cups cs).io ss Q) : m_X_require_cups cs (ss ++ List.replicate 0 none) { nx := fun e => Q (.fz .non) (outs [] 1 e), rt := fun r e => Q r (outs [] 1 e) } := by
  obtain ⟨d, b, hd, rfl, h⟩ := h
  unfold m_X_require_cups
  refine if_p (mNot_b (b := b) (fun P hP => ?_) ⟨fun e => ?_, fun e => ?_⟩)
  · rcases hd with ⟨rfl, sz, fw, rfl⟩ | ⟨rfl, t, ht⟩
    · exact ⟨_, rfl, .inl ⟨_, _, rfl, hP⟩⟩
    · exact ⟨_, rfl, .inr ⟨t, ht, hP⟩⟩
  · cases b with
    | true => cases e
    | false => exact h
  · cases b with
    | true => exact h
    | false => cases e

theorem wp_X_round_cycles (cs : Cs) (ss : R.Env) (Q : Rs → R.Env → Prop) (h : (F_X_round_cycles cs).io ss Q) : m_X_round_cycles cs (ss ++ List.replicate 0 none) { nx := fun e => Q (.fz .non) (outs [] 2 e), rt := fun r e => Q r (outs [] 2 e) } := by
  obtain ⟨d, e, rfl, hd, h⟩ := h
  exact .inr ⟨_, rfl, _, rfl, rfl, d, e, rfl, hd, trivial, 7, rfl, h⟩

theorem wp_X_round_order (cs : Cs) (ss : R.Env) (Q : Rs → R.Env → Prop) (h : (F_X_round_order cs).io ss Q) : m_X_round_order cs (ss ++ List.replicate 0 none) { nx := fun e => Q (.fz .non) (outs [] 2 e), rt := fun r e => Q r (outs [] 2 e) } := by
  obtain ⟨d, e, rfl, hd, h⟩ := h
  unfold m_X_round_order
  refine s_seq fun K hK => ?_
  exact ⟨_, rfl, rfl, d, false, .inr ⟨rfl, hd⟩, rfl, trivial, h⟩

theorem wp_X_simplify (cs : Cs) (ss : R.Env) (Q : Rs → R.Env → Prop) (h : (F_X_simplify cs).io ss Q) : m_X_simplify cs (ss ++ List.replicate 2 none) { nx := fun e => Q (.fz .non) (outs [] 1 e), rt := fun r e => Q r (outs [] 1 e) } := by
  obtain ⟨d, rfl, hd, h⟩ := h
  unfold m_X_simplify
  refine s_seq fun K hK => ?_
  exact ⟨_, rfl, rfl, d, false, .inr ⟨rfl, hd⟩, rfl, trivial, h⟩

theorem wp_X_state_before (cs : Cs) (ss : R.Env) (Q : Rs → R.Env → Prop) (h : (F_X_state_before cs).io ss Q) : m_X_state_before cs (ss ++ List.replicate 3 none) { nx := fun e => Q (.fz .non) (outs [] 3 e), rt := fun r e => Q r (outs [] 3 e) } := by
  obtain ⟨d, e, f, rfl, hd, h⟩ := h
  unfold m_X_state_before
  refine s_seq fun K hK => ?_
  exact ⟨_, rfl, rfl, d, false, .inr ⟨rfl, hd⟩, rfl, trivial, h⟩

theorem wp_X_state_count (cs : Cs) (ss : R.Env) (Q : Rs → R.Env → Prop) (h : (F_X_state_count cs).io ss Q) : m_X_state_count cs (ss ++ List.replicate 2 none) { nx := fun e => Q (.fz .non) (outs [] 2 e), rt := fun r e => Q r (outs [] 2 e) } := by
  obtain ⟨d, e, rfl, hd, h⟩ := h
  unfold m_X_state_count
  refine s_seq fun K hK => ?_
  exact ⟨_, rfl, rfl, d, false, .inr ⟨rfl, hd⟩, rfl, trivial, h⟩

section
variable {P : Program} {w : World} {K : PySem.W.Frag} {mg : PySem.Str → Option Value} {base : Heap} {f : Addr} {cs : Cs}
theorem b_common_divisor  (T : Tt K mg cs) : ∀ (cdv : Value) (A : Around) (outer : List PySem.Env) (s : Shared) (H : Hp) (E : XK), R.Room 0 (A.deeper (envOfC "common_divisor" (defScope s_common_divisor) s.heap.objs.size f cdv)) → PSs (cxOf CX0 P w K mg base N_common_divisor "common_divisor" (defScope s_common_divisor) f cdv A outer s H E).nox (defBody s_common_divisor) (LS K exT [] (m_common_divisor cs)) := fun cdv A outer s H E hr => (dss_cons (ds_while PassesOwn.never (dt_ne (hu_R hr) (dp_var (i := 1)) dp_int) (dss_one (ds_par (i := 0) (j := 1) rfl sc_common_divisor.nd rfl rfl (by decide) (dp_fz (dp_var (i := 1))) (dp_fz (dp_mod (dp_var (i := 0)) (dp_var (i := 1))))))) (dss_one (ds_ret (dp_var (i := 0)))))
theorem b_common_multiple (h_common_divisor : CalR P w K mg base "common_divisor" 2 (F_common_divisor cs) [] 1) (T : Tt K mg cs) : ∀ (cdv : Value) (A : Around) (outer : List PySem.Env) (s : Shared) (H : Hp) (E : XK), R.Room 1 (A.deeper (envOfC "common_multiple" (defScope s_common_multiple) s.heap.objs.size f cdv)) → PSs (cxOf CX0 P w K mg base N_common_multiple "common_multiple" (defScope s_common_multiple) f cdv A outer s H E).nox (defBody s_common_multiple) (LS K exT [] (m_common_multiple cs)) := fun cdv A outer s H E hr => (dss_cons (ds_asg (i := 1) sc_common_multiple.nd rfl (dp_fz dp_int)) (dss_cons (ds_for PassesOwn.never rfl (di_list (dp_var (i := 0))) (dg_name (i := 2) sc_common_multiple.nd rfl) (dss_one (ds_asg (i := 1) sc_common_multiple.nd rfl (dp_fz (dp_mul (dp_div (dp_var (i := 1)) (dp_cal h_common_divisor hr (by first | decide | omega) (da_cons (dp_var (i := 1)) (da_cons (dp_var (i := 2)) da_nil)))) (dp_var (i := 2))))))) (dss_one (ds_ret (dp_var (i := 1))))))

theorem b_is_integer  (T : Tt K mg cs) : ∀ (cdv : Value) (A : Around) (outer : List PySem.Env) (s : Shared) (H : Hp) (E : XK), R.Room 0 (A.deeper (envOfC "is_integer" (defScope s_is_integer) s.heap.objs.size f cdv)) → PSs (cxOf CX0 P w K mg base N_is_integer "is_integer" (defScope s_is_integer) f cdv A outer s H E).nox (defBody s_is_integer) (LS K exT [] (m_is_integer cs)) := fun cdv A outer s H E hr => (dss_one (ds_ret (dp_and (dp_is (n := "int") T.b_isinstance T.b_int (by decide) (by decide +kernel) (dp_var (i := 0))) (dp_and (dp_not (dp_is (n := "bool") T.b_isinstance T.b_bool (by decide) (by decide +kernel) (dp_var (i := 0)))) (dp_one (dp_ge (dp_var (i := 0)) (dp_var (i := 1))))))))
theorem b_are_sizes (h_is_integer : CalR P w K mg base "is_integer" 2 (F_is_integer cs) [] 1) (T : Tt K mg cs) : ∀ (cdv : Value) (A : Around) (outer : List PySem.Env) (s : Shared) (H : Hp) (E : XK), R.Room 1 (A.deeper (envOfC "are_sizes" (defScope s_are_sizes) s.heap.objs.size f cdv)) → PSs (cxOf CX0 P w K mg base N_are_sizes "are_sizes" (defScope s_are_sizes) f cdv A outer s H E).nox (defBody s_are_sizes) (LS K exT [] (m_are_sizes cs)) := fun cdv A outer s H E hr => (dss_cons (ds_if (PW.pt (dw_or (dt_not (dt_val (dp_is (n := "list") T.b_isinstance T.b_list (by decide) (by decide +kernel) (dp_var (i := 0))))) (dw_or1 (dt_not (dt_chain I_le I_le dp_int (dp_len T.b_len (da_cons (dp_var (i := 0)) da_nil)) (dp_globI T.c_MAX_CUPS)))))) (dss_one (ds_ret dp_bl)) dss_nil) (dss_cons (ds_if (dt_not (dt_val (dp_all rfl T.b_all (da_cons (dp_lc (own := [("size", 1)]) rfl sc_are_sizes.nd (di_list (dp_var (i := 0))) (blkOk_by (own := [("size", 1)]) (N := N_are_sizes) (sc := defScope s_are_sizes) (by decide +kernel)) (fun _ _ _ _ _ => (dg_name (i := 1) sc_are_sizes.nd rfl)) (fun _ _ _ _ _ => dts_nil) (fun _ _ _ _ _ => (dp_and (dp_cal h_is_integer hr (by first | decide | omega) (da_cons (dp_var (i := 1)) (da_cons dp_int da_nil))) (dp_one (dp_le (dp_var (i := 1)) (dp_globI T.c_MAX_SIZE)))))) da_nil)))) (dss_one (ds_ret dp_bl)) dss_nil) (dss_one (ds_ret (dp_le (dp_sub (dp_sum rfl T.b_sum (da_cons (dp_var (i := 0)) da_nil)) (dp_len T.b_len (da_cons (dp_var (i := 0)) da_nil))) (dp_globI T.c_MAX_EXTRA))))))
theorem b_are_forward_indices (h_is_integer_1 : CalR P w K mg base "is_integer" 2 (F_is_integer cs) [(.int 0)] 1) (T : Tt K mg cs) : ∀ (cdv : Value) (A : Around) (outer : List PySem.Env) (s : Shared) (H : Hp) (E : XK), R.Room 1 (A.deeper (envOfC "are_forward_indices" (defScope s_are_forward_indices) s.heap.objs.size f cdv)) → PSs (cxOf CX0 P w K mg base N_are_forward_indices "are_forward_indices" (defScope s_are_forward_indices) f cdv A outer s H E).nox (defBody s_are_forward_indices) (LS K exT [] (m_are_forward_indices cs)) := fun cdv A outer s H E hr => (dss_cons (ds_if (PW.pt (dw_or (dt_not (dt_val (dp_is (n := "list") T.b_isinstance T.b_list (by decide) (by decide +kernel) (dp_var (i := 0))))) (dw_or1 (dt_ne (hu_R hr) (dp_len T.b_len (da_cons (dp_var (i := 0)) da_nil)) (dp_sub (dp_len T.b_len (da_cons (dp_var (i := 1)) da_nil)) dp_int))))) (dss_one (ds_ret dp_bl)) dss_nil) (dss_one (ds_ret (dp_all rfl T.b_all (da_cons (dp_lc (own := [("index", 2), ("size", 3)]) rfl sc_are_forward_indices.nd (di_zip T.b_zip (dp_var (i := 0)) (dp_var (i := 1))) (blkOk_by (own := [("index", 2), ("size", 3)]) (N := N_are_forward_indices) (sc := defScope s_are_forward_indices) (by decide +kernel)) (fun _ _ _ _ _ => (dg_tup rfl (dgs_cons (dg_name (i := 2) sc_are_forward_indices.nd rfl) (dgs_cons (dg_name (i := 3) sc_are_forward_indices.nd rfl) dgs_nil)))) (fun _ _ _ _ _ => dts_nil) (fun _ _ _ _ _ => (dp_and (dp_cal h_is_integer_1 hr (by first | decide | omega) (da_cons (dp_var (i := 2)) da_nil)) (dp_one (dp_lt (dp_var (i := 2)) (dp_var (i := 3))))))) da_nil)))))
theorem b_CupRow_init (h_are_sizes : CalR P w K mg base "are_sizes" 1 (F_are_sizes cs) [] 2) (h_are_forward_indices : CalR P w K mg base "are_forward_indices" 2 (F_are_forward_indices cs) [] 2) (T : Tt K mg cs) : ∀ (cdv : Value) (A : Around) (outer : List PySem.Env) (s : Shared) (H : Hp) (E : XK), R.Room 2 (A.deeper (envOfC "CupRow.__init__" (defScope s_CupRow_init) s.heap.objs.size f cdv)) → PSs (cxOf CX0 P w K mg base N_CupRow_init "CupRow.__init__" (defScope s_CupRow_init) f cdv A outer s H E).nox (defBody s_CupRow_init) (LS K exT [0] (m_CupRow_init cs)) := fun cdv A outer s H E hr => (dss_cons (ds_if (dt_not (dt_val (dp_cal h_are_sizes hr (by first | decide | omega) (da_cons (dp_var (i := 1)) da_nil)))) (dss_one ds_never) dss_nil) (dss_cons (ds_asg (i := 3) sc_CupRow_init.nd rfl (dp_fz (dp_if (dt_isN (dp_var (i := 2))) (dp_mul (dp_lst (da_cons dp_int da_nil)) (dp_sub (dp_len T.b_len (da_cons (dp_var (i := 1)) da_nil)) dp_int)) (dp_var (i := 2))))) (dss_cons (ds_if (dt_not (dt_val (dp_cal h_are_forward_indices hr (by first | decide | omega) (da_cons (dp_var (i := 3)) (da_cons (dp_var (i := 1)) da_nil))))) (dss_one ds_never) dss_nil) (dss_cons (ds_setF T.k_CupRow T.n_CupRow_size_tuple (dpl_name (i := 0)) (dp_tuple T.b_tuple (da_cons (dp_var (i := 1)) da_nil))) (dss_cons (ds_setF T.k_CupRow T.n_CupRow_forward_tuple (dpl_name (i := 0)) (dp_tuple T.b_tuple (da_cons (dp_var (i := 3)) da_nil))) (dss_cons (ds_setF T.k_CupRow T.n_CupRow_weights (dpl_name (i := 0)) (dp_lst (da_cons dp_int da_nil))) (dss_one (ds_for PassesOwn.never rfl (di_list (dp_var (i := 1))) (dg_name (i := 4) sc_CupRow_init.nd rfl) (dss_one (ds_append (dpl_fld T.k_CupRow T.n_CupRow_weights (dpl_name (i := 0))) (dp_mul (dp_ix (dp_fld T.k_CupRow T.n_CupRow_weights (dp_var (i := 0))) (dp_neg dp_int)) (dp_var (i := 4)))))))))))))
theorem b_CupRow_round_length  (T : Tt K mg cs) : ∀ (cdv : Value) (A : Around) (outer : List PySem.Env) (s : Shared) (H : Hp) (E : XK), R.Room 0 (A.deeper (envOfC "CupRow.round_length" (defScope s_CupRow_round_length) s.heap.objs.size f cdv)) → PSs (cxOf CX0 P w K mg base N_CupRow_round_length "CupRow.round_length" (defScope s_CupRow_round_length) f cdv A outer s H E).nox (defBody s_CupRow_round_length) (LS K exT [] (m_CupRow_round_length cs)) := fun cdv A outer s H E hr => (dss_one (ds_ret (dp_ix (dp_fld T.k_CupRow T.n_CupRow_weights (dp_var (i := 0))) (dp_neg dp_int))))
theorem b_CupRow_min_members  (T : Tt K mg cs) : ∀ (cdv : Value) (A : Around) (outer : List PySem.Env) (s : Shared) (H : Hp) (E : XK), R.Room 0 (A.deeper (envOfC "CupRow.min_members" (defScope s_CupRow_min_members) s.heap.objs.size f cdv)) → PSs (cxOf CX0 P w K mg base N_CupRow_min_members "CupRow.min_members" (defScope s_CupRow_min_members) f cdv A outer s H E).nox (defBody s_CupRow_min_members) (LS K exT [] (m_CupRow_min_members cs)) := fun cdv A outer s H E hr => (dss_one (ds_ret (dp_add (dp_sub (dp_sum rfl T.b_sum (da_cons (dp_fld T.k_CupRow T.n_CupRow_size_tuple (dp_var (i := 0))) da_nil)) (dp_len T.b_len (da_cons (dp_fld T.k_CupRow T.n_CupRow_size_tuple (dp_var (i := 0))) da_nil))) dp_int)))
theorem b_require_cups  (T : Tt K mg cs) : ∀ (cdv : Value) (A : Around) (outer : List PySem.Env) (s : Shared) (H : Hp) (E : XK), R.Room 0 (A.deeper (envOfC "require_cups" (defScope s_require_cups) s.heap.objs.size f cdv)) → PSs (cxOf CX0 P w K mg base N_require_cups "require_cups" (defScope s_require_cups) f cdv A outer s H E).nox (defBody s_require_cups) (LS K exT [] (m_require_cups cs)) := fun cdv A outer s H E hr => (dss_one (ds_if (dt_not (dt_val (dp_isC T.b_isinstance T.g_CupRow T.is_CupRow (dp_var (i := 0))))) (dss_one ds_never) dss_nil))
theorem b_cycles_of  (T : Tt K mg cs) : ∀ (cdv : Value) (A : Around) (outer : List PySem.Env) (s : Shared) (H : Hp) (E : XK), R.Room 0 (A.deeper (envOfC "cycles_of" (defScope s_cycles_of) s.heap.objs.size f cdv)) → PSs (cxOf CX0 P w K mg base N_cycles_of "cycles_of" (defScope s_cycles_of) f cdv A outer s H E).nox (defBody s_cycles_of) (LS K exT [] (m_cycles_of cs)) := fun cdv A outer s H E hr => (dss_cons (ds_setLcF (i := 1) (own := [("index", 4)]) rfl sc_cycles_of.nd rfl rfl (sw_true rfl rfl rfl (by decide +kernel)) (di_rng1 T.b_range (dp_len T.b_len (da_cons (dp_var (i := 0)) da_nil))) (blkOk_by (own := [("index", 4)]) (N := N_cycles_of) (sc := defScope s_cycles_of) (by decide +kernel)) (fun _ _ _ _ _ => (dg_name (i := 4) sc_cycles_of.nd rfl)) (fun _ _ _ _ _ => dts_nil) (fun _ _ _ _ _ => (dp_index (dp_var (i := 0)) (dp_var (i := 4))))) (dss_cons (ds_asg (i := 2) sc_cycles_of.nd rfl (dp_fz (dp_lst da_nil))) (dss_cons (ds_asg (i := 3) sc_cycles_of.nd rfl (dp_lst da_nil)) (dss_cons (ds_for PassesOwn.never rfl (di_rng1 T.b_range (dp_len T.b_len (da_cons (dp_var (i := 0)) da_nil))) (dg_name (i := 4) sc_cycles_of.nd rfl) (dss_one (ds_if (dt_notIn (dp_var (i := 4)) (dp_var (i := 2))) (dss_cons (ds_asg (i := 5) sc_cycles_of.nd rfl (dp_lst (da_cons (dp_var (i := 4)) da_nil))) (dss_cons (ds_while PassesOwn.never (dt_ne (hu_R hr) (dp_ix (dp_var (i := 1)) (dp_ix (dp_var (i := 5)) (dp_neg dp_int))) (dp_var (i := 4))) (dss_one (ds_append (dpl_name (i := 5)) (dp_ix (dp_var (i := 1)) (dp_ix (dp_var (i := 5)) (dp_neg dp_int)))))) (dss_cons (ds_fz (h := (ds_asg (i := 2) sc_cycles_of.nd rfl (dp_fz (dp_add (dp_var (i := 2)) (dp_var (i := 5))))))) (dss_one (ds_append (dpl_name (i := 3)) (dp_var (i := 5))))))) dss_nil))) (dss_one (ds_fz (h := (ds_ret (dp_var (i := 3))))))))))
theorem b_Blocks_init  (T : Tt K mg cs) : ∀ (cdv : Value) (A : Around) (outer : List PySem.Env) (s : Shared) (H : Hp) (E : XK), R.Room 0 (A.deeper (envOfC "Blocks.__init__" (defScope s_Blocks_init) s.heap.objs.size f cdv)) → PSs (cxOf CX0 P w K mg base N_Blocks_init "Blocks.__init__" (defScope s_Blocks_init) f cdv A outer s H E).nox (defBody s_Blocks_init) (LS K exT [0] (m_Blocks_init cs)) := fun cdv A outer s H E hr => (dss_cons (ds_setF T.k_Blocks T.n_Blocks_cups (dpl_name (i := 0)) (dp_var (i := 1))) (dss_cons (ds_setF T.k_Blocks T.n_Blocks_orders (dpl_name (i := 0)) dp_d0) (dss_one (ds_setF T.k_Blocks T.n_Blocks_visits (dpl_name (i := 0)) dp_d0))))
theorem b_Blocks_entering {kr b : Nat} (h_Blocks_filling : MetR P w K mg base cs.Blocks "filling" 3 (F_Blocks_filling cs b) [] kr) (T : Tt K mg cs) : ∀ (cdv : Value) (A : Around) (outer : List PySem.Env) (s : Shared) (H : Hp) (E : XK), R.Room kr (A.deeper (envOfC "Blocks.entering" (defScope s_Blocks_entering) s.heap.objs.size f cdv)) → PSs (cxOf CX0 P w K mg base N_Blocks_entering "Blocks.entering" (defScope s_Blocks_entering) f cdv A outer s H E).nox (defBody s_Blocks_entering) (LS K exT [] (m_Blocks_entering cs b)) := fun cdv A outer s H E hr => (dss_cons (ds_if (dt_eq (hu_R hr) (dp_var (i := 1)) dp_int) (dss_one (ds_ret (dp_fz (dp_tup (da_cons dp_int (da_cons (dp_rngTuple2 rfl T.b_tuple T.b_range dp_int (dp_var (i := 2))) da_nil)))))) dss_nil) (dss_memo (pr := [0, 1, 2]) (js := [1, 2]) (i := 0) T.k_Blocks T.n_Blocks_orders (hu_of hr.toRoom) (pe_sf (i := 0)) (pav_cons (i := 1) (pav_cons (i := 2) pav_nil)) (pe_sf (i := 0)) (pav_cons (i := 1) (pav_cons (i := 2) pav_nil)) (dsx_cons (ds_asgG (dp_mth h_Blocks_filling hr (by first | decide | omega) (dp_var (i := 0)) (da_cons (dp_sub (dp_var (i := 1)) dp_int) (da_cons (dp_var (i := 2)) da_nil))) (dg_tup rfl (dgs_cons (dg_name (i := 3) sc_Blocks_entering.nd rfl) (dgs_cons (dg_name (i := 4) sc_Blocks_entering.nd rfl) dgs_nil)))) (dsx_cons (ds_popI (i := 5) sc_Blocks_entering.nd rfl (dpl_name (i := 3)) (dp_ix (dp_fld T.k_CupRow T.n_CupRow_forward_tuple (dp_fld T.k_Blocks T.n_Blocks_cups (dp_var (i := 0)))) (dp_sub (dp_var (i := 1)) dp_int))) (dsx_one (cl := T.k_Blocks) (na := T.n_Blocks_orders) (hu_of hr.toRoom) (pe_sf (i := 0)) (pav_cons (i := 1) (pav_cons (i := 2) pav_nil)) (dp_tup (da_cons (dp_var (i := 5)) (da_cons (dp_tuple T.b_tuple (da_cons (dp_add (dp_var (i := 4)) (dp_var (i := 3))) da_nil)) da_nil))))))))
theorem b_Blocks_filling {kr b : Nat} (h_Blocks_entering : MetR P w K mg base cs.Blocks "entering" 3 (F_Blocks_entering cs (b - 1)) [] kr) (T : Tt K mg cs) : ∀ (cdv : Value) (A : Around) (outer : List PySem.Env) (s : Shared) (H : Hp) (E : XK), R.Room kr (A.deeper (envOfC "Blocks.filling" (defScope s_Blocks_filling) s.heap.objs.size f cdv)) → PSs (cxOf CX0 P w K mg base N_Blocks_filling "Blocks.filling" (defScope s_Blocks_filling) f cdv A outer s H E).nox (defBody s_Blocks_filling) (LS K exT [] (m_Blocks_filling cs b)) := fun cdv A outer s H E hr => (dss_cons (ds_asg (i := 3) sc_Blocks_filling.nd rfl (dp_lst da_nil)) (dss_cons (ds_asg (i := 4) sc_Blocks_filling.nd rfl (dp_fz (dp_rngList1 rfl T.b_list T.b_range (dp_var (i := 2))))) (dss_cons (ds_for PassesOwn.never rfl (di_rng1 T.b_range (dp_ix (dp_fld T.k_CupRow T.n_CupRow_size_tuple (dp_fld T.k_Blocks T.n_Blocks_cups (dp_var (i := 0)))) (dp_var (i := 1)))) (dg_name (i := 5) sc_Blocks_filling.nd rfl) (dss_cons (ds_asgG (dp_fz (dp_mth h_Blocks_entering hr (by first | decide | omega) (dp_var (i := 0)) (da_cons (dp_var (i := 1)) (da_cons (dp_len T.b_len (da_cons (dp_var (i := 4)) da_nil)) da_nil)))) (dg_tup rfl (dgs_cons (dg_name (i := 6) sc_Blocks_filling.nd rfl) (dgs_cons (dg_name (i := 7) sc_Blocks_filling.nd rfl) dgs_nil)))) (dss_cons (ds_append (dpl_name (i := 3)) (dp_ix (dp_var (i := 4)) (dp_var (i := 6)))) (dss_one (ds_asg (i := 4) sc_Blocks_filling.nd rfl (dp_fz (dp_lc (own := [("at", 8)]) rfl sc_Blocks_filling.nd (di_list (dp_var (i := 7))) (blkOk_by (own := [("at", 8)]) (N := N_Blocks_filling) (sc := defScope s_Blocks_filling) (by decide +kernel)) (fun _ _ _ _ _ => (dg_name (i := 8) sc_Blocks_filling.nd rfl)) (fun _ _ _ _ _ => dts_nil) (fun _ _ _ _ _ => (dp_ix (dp_var (i := 4)) (dp_var (i := 8))))))))))) (dss_one (ds_retP (pav_cons (i := 3) (pav_cons (i := 4) pav_nil)))))))
theorem b_Blocks_whole_round (h_Blocks_filling : MetR P w K mg base cs.Blocks "filling" 3 (F_Blocks_filling cs 30) [] 60) (T : Tt K mg cs) : ∀ (cdv : Value) (A : Around) (outer : List PySem.Env) (s : Shared) (H : Hp) (E : XK), R.Room 60 (A.deeper (envOfC "Blocks.whole_round" (defScope s_Blocks_whole_round) s.heap.objs.size f cdv)) → PSs (cxOf CX0 P w K mg base N_Blocks_whole_round "Blocks.whole_round" (defScope s_Blocks_whole_round) f cdv A outer s H E).nox (defBody s_Blocks_whole_round) (LS K exT [] (m_Blocks_whole_round cs)) := fun cdv A outer s H E hr => (dss_cons (ds_asgG (dp_fz (dp_mth h_Blocks_filling hr (by first | decide | omega) (dp_var (i := 0)) (da_cons (dp_sub (dp_len T.b_len (da_cons (dp_fld T.k_CupRow T.n_CupRow_size_tuple (dp_fld T.k_Blocks T.n_Blocks_cups (dp_var (i := 0)))) da_nil)) dp_int) (da_cons (dp_var (i := 1)) da_nil)))) (dg_tup rfl (dgs_cons (dg_name (i := 2) sc_Blocks_whole_round.nd rfl) (dgs_cons (dg_name (i := 3) sc_Blocks_whole_round.nd rfl) dgs_nil)))) (dss_one (ds_ret (dp_add (dp_var (i := 3)) (dp_var (i := 2))))))
theorem b_require_count (h_is_integer : CalR P w K mg base "is_integer" 2 (F_is_integer cs) [] 1) (T : Tt K mg cs) : ∀ (cdv : Value) (A : Around) (outer : List PySem.Env) (s : Shared) (H : Hp) (E : XK), R.Room 1 (A.deeper (envOfC "require_count" (defScope s_require_count) s.heap.objs.size f cdv)) → PSs (cxOf CX0 P w K mg base N_require_count "require_count" (defScope s_require_count) f cdv A outer s H E).nox (defBody s_require_count) (LS K exT [] (m_require_count cs)) := fun cdv A outer s H E hr => (dss_one (ds_if (PW.pt (dw_or (dt_not (dt_val (dp_cal h_is_integer hr (by first | decide | omega) (da_cons (dp_var (i := 0)) (da_cons (dp_var (i := 1)) da_nil))))) (dw_or1 (dt_gt (dp_var (i := 0)) (dp_globI T.c_MAX_MEMBERS))))) (dss_one ds_never) dss_nil))
theorem b_round_order (h_require_cups : CalR P w K mg base "require_cups" 1 (F_require_cups cs) [] 1) (h_require_count : CalR P w K mg base "require_count" 2 (F_require_count cs) [] 2) (h_CupRow_min_members : MetR P w K mg base cs.CupRow "min_members" 1 (F_CupRow_min_members cs) [] 1) (h_Blocks_whole_round : MetR P w K mg base cs.Blocks "whole_round" 2 (F_Blocks_whole_round cs) [] 61) (h_Blocks_init : MakR P w K mg base "Blocks" cs.Blocks 2 (F_Blocks_init cs) [] 1) (T : Tt K mg cs) : ∀ (cdv : Value) (A : Around) (outer : List PySem.Env) (s : Shared) (H : Hp) (E : XK), R.Room 61 (A.deeper (envOfC "round_order" (defScope s_round_order) s.heap.objs.size f cdv)) → PSs (cxOf CX0 P w K mg base N_round_order "round_order" (defScope s_round_order) f cdv A outer s H E).nox (defBody s_round_order) (LS K exT [] (m_round_order cs)) := fun cdv A outer s H E hr => (dss_cons (ds_drop (dp_cal h_require_cups hr (by first | decide | omega) (da_cons (dp_var (i := 0)) da_nil))) (dss_cons (ds_drop (dp_cal h_require_count hr (by first | decide | omega) (da_cons (dp_var (i := 1)) (da_cons (dp_mth0 h_CupRow_min_members hr (by first | decide | omega) (dp_var (i := 0)) ) da_nil)))) (dss_one (ds_ret (dp_mth h_Blocks_whole_round hr (by first | decide | omega) (dp_fz (dp_mk h_Blocks_init hr (by first | decide | omega) (da_cons (dp_var (i := 0)) da_nil))) (da_cons (dp_var (i := 1)) da_nil))))))
theorem b_round_cycles (h_cycles_of : CalR P w K mg base "cycles_of" 1 (F_cycles_of cs) [] 1) (h_round_order : CalR P w K mg base "round_order" 2 (F_round_order cs) [] 62) (T : Tt K mg cs) : ∀ (cdv : Value) (A : Around) (outer : List PySem.Env) (s : Shared) (H : Hp) (E : XK), R.Room 62 (A.deeper (envOfC "round_cycles" (defScope s_round_cycles) s.heap.objs.size f cdv)) → PSs (cxOf CX0 P w K mg base N_round_cycles "round_cycles" (defScope s_round_cycles) f cdv A outer s H E).nox (defBody s_round_cycles) (LS K exT [] (m_round_cycles cs)) := fun cdv A outer s H E hr => (dss_one (ds_ret (dp_cal h_cycles_of hr (by first | decide | omega) (da_cons (dp_cal h_round_order hr (by first | decide | omega) (da_cons (dp_var (i := 0)) (da_cons (dp_var (i := 1)) da_nil))) da_nil))))
theorem b_period (h_common_multiple : CalR P w K mg base "common_multiple" 1 (F_common_multiple cs) [] 2) (h_round_cycles : CalR P w K mg base "round_cycles" 2 (F_round_cycles cs) [] 63) (h_CupRow_round_length : MetR P w K mg base cs.CupRow "round_length" 1 (F_CupRow_round_length cs) [] 1) (T : Tt K mg cs) : ∀ (cdv : Value) (A : Around) (outer : List PySem.Env) (s : Shared) (H : Hp) (E : XK), R.Room 63 (A.deeper (envOfC "period" (defScope s_period) s.heap.objs.size f cdv)) → PSs (cxOf CX0 P w K mg base N_period "period" (defScope s_period) f cdv A outer s H E).nox (defBody s_period) (LS K exT [] (m_period cs)) := fun cdv A outer s H E hr => (dss_one (ds_ret (dp_mul (dp_cal h_common_multiple hr (by first | decide | omega) (da_cons (dp_lc (own := [("cycle", 2)]) rfl sc_period.nd (di_list (dp_cal h_round_cycles hr (by first | decide | omega) (da_cons (dp_var (i := 0)) (da_cons (dp_var (i := 1)) da_nil)))) (blkOk_by (own := [("cycle", 2)]) (N := N_period) (sc := defScope s_period) (by decide +kernel)) (fun _ _ _ _ _ => (dg_name (i := 2) sc_period.nd rfl)) (fun _ _ _ _ _ => dts_nil) (fun _ _ _ _ _ => (dp_len T.b_len (da_cons (dp_var (i := 2)) da_nil)))) da_nil)) (dp_mth0 h_CupRow_round_length hr (by first | decide | omega) (dp_var (i := 0)) ))))
theorem b_state_count (h_require_cups : CalR P w K mg base "require_cups" 1 (F_require_cups cs) [] 1) (h_require_count : CalR P w K mg base "require_count" 2 (F_require_count cs) [] 2) (h_CupRow_min_members : MetR P w K mg base cs.CupRow "min_members" 1 (F_CupRow_min_members cs) [] 1) (h_CupRow_round_length : MetR P w K mg base cs.CupRow "round_length" 1 (F_CupRow_round_length cs) [] 1) (T : Tt K mg cs) : ∀ (cdv : Value) (A : Around) (outer : List PySem.Env) (s : Shared) (H : Hp) (E : XK), R.Room 2 (A.deeper (envOfC "state_count" (defScope s_state_count) s.heap.objs.size f cdv)) → PSs (cxOf CX0 P w K mg base N_state_count "state_count" (defScope s_state_count) f cdv A outer s H E).nox (defBody s_state_count) (LS K exT [] (m_state_count cs)) := fun cdv A outer s H E hr => (dss_cons (ds_drop (dp_cal h_require_cups hr (by first | decide | omega) (da_cons (dp_var (i := 0)) da_nil))) (dss_cons (ds_drop (dp_cal h_require_count hr (by first | decide | omega) (da_cons (dp_var (i := 1)) (da_cons (dp_mth0 h_CupRow_min_members hr (by first | decide | omega) (dp_var (i := 0)) ) da_nil)))) (dss_cons (ds_asg (i := 2) sc_state_count.nd rfl (dp_fz (dp_mth0 h_CupRow_round_length hr (by first | decide | omega) (dp_var (i := 0)) ))) (dss_cons (ds_for PassesOwn.never rfl (di_rng2 T.b_range dp_int (dp_add (dp_var (i := 1)) dp_int)) (dg_name (i := 3) sc_state_count.nd rfl) (dss_one (ds_aug_mul (i := 2) sc_state_count.nd rfl (dp_var (i := 3))))) (dss_one (ds_ret (dp_var (i := 2))))))))
theorem b_law_script_value  (T : Tt K mg cs) : ∀ (cdv : Value) (A : Around) (outer : List PySem.Env) (s : Shared) (H : Hp) (E : XK), R.Room 0 (A.deeper (envOfC "_law_script_value" (defScope s_law_script_value) s.heap.objs.size f cdv)) → PSs (cxOf CX0 P w K mg base N_law_script_value "_law_script_value" (defScope s_law_script_value) f cdv A outer s H E).nox (defBody s_law_script_value) (LS K exT [] (m_law_script_value cs)) := fun cdv A outer s H E hr => (dss_cons (ds_if (dt_lt (dp_var (i := 1)) (dp_len T.b_len (da_cons (dp_var (i := 0)) da_nil))) (dss_one (ds_ret (dp_ix (dp_var (i := 0)) (dp_var (i := 1))))) dss_nil) (dss_one (ds_ret dp_int)))
theorem b_law_mix  (T : Tt K mg cs) : ∀ (cdv : Value) (A : Around) (outer : List PySem.Env) (s : Shared) (H : Hp) (E : XK), R.Room 0 (A.deeper (envOfC "_law_mix" (defScope s_law_mix) s.heap.objs.size f cdv)) → PSs (cxOf CX0 P w K mg base N_law_mix "_law_mix" (defScope s_law_mix) f cdv A outer s H E).nox (defBody s_law_mix) (LS K exT [] (m_law_mix cs)) := fun cdv A outer s H E hr => (dss_cons (ds_asg (i := 2) sc_law_mix.nd rfl (dp_fz (dp_add (dp_mod (dp_int1 T.b_int (da_cons (dp_var (i := 0)) da_nil)) dp_int) (dp_mul (dp_div (dp_var (i := 0)) dp_int) dp_int)))) (dss_cons (ds_asg (i := 2) sc_law_mix.nd rfl (dp_fz (dp_mod (dp_int1 T.b_int (da_cons (dp_mul (dp_add (dp_add (dp_var (i := 2)) (dp_mul dp_int (dp_var (i := 1)))) dp_int) dp_int) da_nil)) dp_int))) (dss_cons (ds_asg (i := 2) sc_law_mix.nd rfl (dp_fz (dp_mod (dp_int1 T.b_int (da_cons (dp_mul (dp_var (i := 2)) (dp_add (dp_add (dp_div (dp_var (i := 2)) dp_int) dp_int) (dp_var (i := 1)))) da_nil)) dp_int))) (dss_one (ds_ret (dp_mod (dp_int1 T.b_int (da_cons (dp_mul (dp_var (i := 2)) (dp_add (dp_div (dp_var (i := 2)) dp_int) dp_int)) da_nil)) dp_int))))))
theorem b_law_draw_source (h_law_mix : CalR P w K mg base "_law_mix" 2 (F_law_mix cs) [] 1) (h_law_script_value : CalR P w K mg base "_law_script_value" 2 (F_law_script_value cs) [] 1) (T : Tt K mg cs) : ∀ (cdv : Value) (A : Around) (outer : List PySem.Env) (s : Shared) (H : Hp) (E : XK), R.Room 1 (A.deeper (envOfC "_law_draw_source" (defScope s_law_draw_source) s.heap.objs.size f cdv)) → PSs (cxOf CX0 P w K mg base N_law_draw_source "_law_draw_source" (defScope s_law_draw_source) f cdv A outer s H E).nox (defBody s_law_draw_source) (LS K exT [] (m_law_draw_source cs)) := fun cdv A outer s H E hr => (dss_cons (ds_if (dt_lt (dp_var (i := 1)) (dp_len T.b_len (da_cons (dp_var (i := 0)) da_nil))) (dss_one (ds_ret (dp_src (dp_lst (da_cons (dp_ix (dp_var (i := 0)) (dp_var (i := 1))) (da_cons (dp_ix (dp_var (i := 0)) (dp_var (i := 1))) (da_cons dp_int da_nil))))))) dss_nil) (dss_cons (ds_asg (i := 2) sc_law_draw_source.nd rfl (dp_fz (dp_cal h_law_mix hr (by first | decide | omega) (da_cons (dp_cal h_law_script_value hr (by first | decide | omega) (da_cons (dp_var (i := 0)) (da_cons dp_int da_nil))) (da_cons (dp_add dp_int (dp_var (i := 1))) da_nil))))) (dss_one (ds_ret (dp_src (dp_lst (da_cons (dp_var (i := 2)) (da_cons (dp_var (i := 2)) (da_cons dp_int da_nil)))))))))
theorem b_law_draw (h_law_mix : CalR P w K mg base "_law_mix" 2 (F_law_mix cs) [] 1) (T : Tt K mg cs) : ∀ (cdv : Value) (A : Around) (outer : List PySem.Env) (s : Shared) (H : Hp) (E : XK), R.Room 1 (A.deeper (envOfC "_law_draw" (defScope s_law_draw) s.heap.objs.size f cdv)) → PSs (cxOf CX0 P w K mg base N_law_draw "_law_draw" (defScope s_law_draw) f cdv A outer s H E).nox (defBody s_law_draw) (LS K exT [] (m_law_draw cs)) := fun cdv A outer s H E hr => (dss_cons (ds_if (dt_ge (dp_ix (dp_var (i := 0)) dp_int) (dp_pow dp_int dp_int)) (dss_cons (ds_asg (i := 2) sc_law_draw.nd rfl (dp_fz (dp_mod (dp_int1 T.b_int (da_cons (dp_ix (dp_var (i := 0)) dp_int) da_nil)) (dp_var (i := 1))))) (dss_cons (ds_setVol (dp_var (i := 0)) dp_int (dp_div (dp_ix (dp_var (i := 0)) dp_int) (dp_var (i := 1)))) (dss_one (ds_ret (dp_var (i := 2)))))) dss_nil) (dss_cons (ds_setVol (dp_var (i := 0)) dp_int (dp_add (dp_ix (dp_var (i := 0)) dp_int) dp_int)) (dss_one (ds_ret (dp_mod (dp_int1 T.b_int (da_cons (dp_cal h_law_mix hr (by first | decide | omega) (da_cons (dp_ix (dp_var (i := 0)) dp_int) (da_cons (dp_ix (dp_var (i := 0)) dp_int) da_nil))) da_nil)) (dp_var (i := 1)))))))
theorem b_law_draw_cups (h_law_draw : CalR P w K mg base "_law_draw" 2 (F_law_draw cs) [] 2) (T : Tt K mg cs) : ∀ (cdv : Value) (A : Around) (outer : List PySem.Env) (s : Shared) (H : Hp) (E : XK), R.Room 2 (A.deeper (envOfC "_law_draw_cups" (defScope s_law_draw_cups) s.heap.objs.size f cdv)) → PSs (cxOf CX0 P w K mg base N_law_draw_cups "_law_draw_cups" (defScope s_law_draw_cups) f cdv A outer s H E).nox (defBody s_law_draw_cups) (LS K exT [] (m_law_draw_cups cs)) := fun cdv A outer s H E hr => (dss_cons (ds_asg (i := 4) sc_law_draw_cups.nd rfl (dp_lst da_nil)) (dss_cons (ds_asg (i := 5) sc_law_draw_cups.nd rfl (dp_fz (dp_var (i := 3)))) (dss_cons (ds_for PassesOwn.never rfl (di_rng1 T.b_range (dp_add dp_int (dp_cal h_law_draw hr (by first | decide | omega) (da_cons (dp_var (i := 0)) (da_cons (dp_var (i := 1)) da_nil))))) (dg_name (i := 6) sc_law_draw_cups.nd rfl) (dss_cons (ds_asg (i := 7) sc_law_draw_cups.nd rfl (dp_fz (dp_add dp_int (dp_min2 rfl T.b_min (da_cons (dp_var (i := 5)) (da_cons (dp_cal h_law_draw hr (by first | decide | omega) (da_cons (dp_var (i := 0)) (da_cons (dp_ix (dp_lst (da_cons dp_int (da_cons dp_int (da_cons (dp_var (i := 2)) da_nil)))) (dp_cal h_law_draw hr (by first | decide | omega) (da_cons (dp_var (i := 0)) (da_cons dp_int da_nil)))) da_nil))) da_nil)))))) (dss_cons (ds_append (dpl_name (i := 4)) (dp_var (i := 7))) (dss_one (ds_asg (i := 5) sc_law_draw_cups.nd rfl (dp_fz (dp_sub (dp_var (i := 5)) (dp_sub (dp_var (i := 7)) dp_int)))))))) (dss_cons (ds_asg (i := 8) sc_law_draw_cups.nd rfl (dp_fz (dp_cal h_law_draw hr (by first | decide | omega) (da_cons (dp_var (i := 0)) (da_cons dp_int da_nil))))) (dss_one (ds_fz (h := (ds_ret (dp_tup (da_cons (dp_var (i := 4)) (da_cons (dp_lc (own := [("_law_size", 7)]) rfl sc_law_draw_cups.nd (di_list (dp_sl (dp_var (i := 4)) do_none (do_some (dp_neg dp_int)))) (blkOk_by (own := [("_law_size", 7)]) (N := N_law_draw_cups) (sc := defScope s_law_draw_cups) (by decide +kernel)) (fun _ _ _ _ _ => (dg_name (i := 7) sc_law_draw_cups.nd rfl)) (fun _ _ _ _ _ => dts_nil) (fun _ _ _ _ _ => (dp_ix (dp_lst (da_cons dp_int (da_cons (dp_sub (dp_var (i := 7)) dp_int) (da_cons (dp_cal h_law_draw hr (by first | decide | omega) (da_cons (dp_var (i := 0)) (da_cons (dp_var (i := 7)) da_nil))) da_nil)))) (dp_var (i := 8))))) da_nil)))))))))))
def hb_law_outcome : List Stmt := match defBody s_law_outcome with | .Try _ [.ExceptHandler _ _ b _] _ _ _ :: _ => b | _ => []
theorem su_law_outcome {k : Nat} (EI : ErrI K (adC cs) 7 k) (T : Tt K mg cs) : ∀ (cdv : Value) (A : Around) (outer : List PySem.Env) (s : Shared) (H : Hp) (r dd : Addr) (oe : Obj) (pn : List (Addr × Obj)), Zc (.ref (adC cs k)) (dOf k dd) oe → (∃ vs, oe.data = .fields vs) → R.Room 0 (A.deeper (envOfC "_law_outcome" (defScope s_law_outcome) s.heap.objs.size f cdv)) → PSs ((cxOf CX0 P w K mg base N_law_outcome "_law_outcome" (defScope s_law_outcome) f cdv A outer s H fun _ _ _ => False).nox.suite r ((r, oe) :: pn)) hb_law_outcome (LS K exT [] (ms_law_outcome cs k r dd)) := fun cdv A outer s H r dd oe pn hz hf hr => (dss_cons (ds_asg (i := 2) sc_law_outcome.nd rfl (dp_lst (da_cons (dp_isE (cV := .ref cs.InvalidCups) (i := 1) EI.c hz hf T.b_isinstance (EI.is 0 (by decide)) (fun u h => h) (by exact pe_glob (v := .ref cs.InvalidCups) rfl T.g_InvalidCups rfl (by decide)) (pe_var (i := 1) rfl (by first | exact Or.inl rfl | exact Or.inr (Or.inl rfl) | exact Or.inr (Or.inr rfl)) (by decide) (by decide))) (da_cons (dp_isE (cV := .ref cs.InvalidState) (i := 1) EI.c hz hf T.b_isinstance (EI.is 1 (by decide)) (fun u h => h) (by exact pe_glob (v := .ref cs.InvalidState) rfl T.g_InvalidState rfl (by decide)) (pe_var (i := 1) rfl (by first | exact Or.inl rfl | exact Or.inr (Or.inl rfl) | exact Or.inr (Or.inr rfl)) (by decide) (by decide))) (da_cons (dp_isE (cV := .ref cs.InvalidStep) (i := 1) EI.c hz hf T.b_isinstance (EI.is 2 (by decide)) (fun u h => h) (by exact pe_glob (v := .ref cs.InvalidStep) rfl T.g_InvalidStep rfl (by decide)) (pe_var (i := 1) rfl (by first | exact Or.inl rfl | exact Or.inr (Or.inl rfl) | exact Or.inr (Or.inr rfl)) (by decide) (by decide))) da_nil))))) (dss_cons (ds_asg (i := 2) sc_law_outcome.nd rfl (dp_add (dp_var (i := 2)) (dp_lst (da_cons (dp_isE (cV := .ref cs.InvalidEvents) (i := 1) EI.c hz hf T.b_isinstance (EI.is 3 (by decide)) (fun u h => h) (by exact pe_glob (v := .ref cs.InvalidEvents) rfl T.g_InvalidEvents rfl (by decide)) (pe_var (i := 1) rfl (by first | exact Or.inl rfl | exact Or.inr (Or.inl rfl) | exact Or.inr (Or.inr rfl)) (by decide) (by decide))) (da_cons (dp_isE (cV := .ref cs.InvalidMember) (i := 1) EI.c hz hf T.b_isinstance (EI.is 4 (by decide)) (fun u h => h) (by exact pe_glob (v := .ref cs.InvalidMember) rfl T.g_InvalidMember rfl (by decide)) (pe_var (i := 1) rfl (by first | exact Or.inl rfl | exact Or.inr (Or.inl rfl) | exact Or.inr (Or.inr rfl)) (by decide) (by decide))) (da_cons (dp_isE (cV := .ref cs.InvalidCup) (i := 1) EI.c hz hf T.b_isinstance (EI.is 5 (by decide)) (fun u h => h) (by exact pe_glob (v := .ref cs.InvalidCup) rfl T.g_InvalidCup rfl (by decide)) (pe_var (i := 1) rfl (by first | exact Or.inl rfl | exact Or.inr (Or.inl rfl) | exact Or.inr (Or.inr rfl)) (by decide) (by decide))) da_nil)))))) (dss_cons (ds_append (dpl_name (i := 2)) (dp_isE (cV := .ref cs.Incomparable) (i := 1) EI.c hz hf T.b_isinstance (EI.is 6 (by decide)) (fun u h => h) (by exact pe_glob (v := .ref cs.Incomparable) rfl T.g_Incomparable rfl (by decide)) (pe_var (i := 1) rfl (by first | exact Or.inl rfl | exact Or.inr (Or.inl rfl) | exact Or.inr (Or.inr rfl)) (by decide) (by decide)))) (dss_cons (ds_if (PW.pt (dw_or (dt_ne (by have hu := hu_R hr; exact hu) (dp_count (dp_var (i := 2)) dp_bl) dp_int) (dw_or1 (dt_not (dt_val (dp_isE (cV := .ty "ValueError") (i := 1) EI.c hz hf T.b_isinstance EI.ve (fun u h => h) (by exact pe_bltn (v := .ty "ValueError") rfl T.b_ValueError (by decide +kernel) rfl (by decide) (by decide)) (pe_var (i := 1) rfl (by first | exact Or.inl rfl | exact Or.inr (Or.inl rfl) | exact Or.inr (Or.inr rfl)) (by decide) (by decide)))))))) (dss_one (ds_ret dp_str)) dss_nil) (dss_cons (ds_if (dt_val (dp_ix (dp_var (i := 2)) dp_int)) (dss_one (ds_ret (dp_xfK (i := 1) EI.c EI.nf hz hf (pe_var (i := 1) rfl (by first | exact Or.inl rfl | exact Or.inr (Or.inl rfl) | exact Or.inr (Or.inr rfl)) (by decide) (by decide))))) dss_nil) (dss_one (ds_ret (dp_ix (dp_lst (da_cons dp_str (da_cons dp_str (da_cons dp_str (da_cons dp_str (da_cons dp_str (da_cons dp_str (da_cons dp_str da_nil)))))))) (dp_indexB (dp_var (i := 2)) dp_bl)))))))))
theorem b_law_invalid_sizes (h_law_draw : CalR P w K mg base "_law_draw" 2 (F_law_draw cs) [] 2) (T : Tt K mg cs) : ∀ (cdv : Value) (A : Around) (outer : List PySem.Env) (s : Shared) (H : Hp) (E : XK), R.Room 2 (A.deeper (envOfC "_law_invalid_sizes" (defScope s_law_invalid_sizes) s.heap.objs.size f cdv)) → PSs (cxOf CX0 P w K mg base N_law_invalid_sizes "_law_invalid_sizes" (defScope s_law_invalid_sizes) f cdv A outer s H E).nox (defBody s_law_invalid_sizes) (LS K exT [] (m_law_invalid_sizes cs)) := fun cdv A outer s H E hr => (dss_cons (ds_asg (i := 2) sc_law_invalid_sizes.nd rfl (dp_fz (dp_cal h_law_draw hr (by first | decide | omega) (da_cons (dp_var (i := 0)) (da_cons (dp_len T.b_len (da_cons (dp_var (i := 1)) da_nil)) da_nil))))) (dss_cons (ds_asg (i := 3) sc_law_invalid_sizes.nd rfl (dp_fz (dp_lst (da_cons dp_non (da_cons (dp_tup da_nil) (da_cons (dp_tuple T.b_tuple (da_cons (dp_var (i := 1)) da_nil)) (da_cons dp_dE (da_cons dp_str (da_cons dp_int (da_cons dp_bl (da_cons (dp_lst da_nil) (da_cons (dp_mul (dp_lst (da_cons dp_int da_nil)) dp_int) (da_cons (dp_mul (dp_lst (da_cons dp_int da_nil)) dp_int) (da_cons (dp_lst (da_cons dp_int (da_cons dp_int (da_cons dp_int (da_cons dp_int da_nil))))) (da_cons (dp_mul (dp_lst (da_cons dp_int da_nil)) dp_int) (da_cons (dp_add (dp_mul (dp_lst (da_cons dp_int da_nil)) dp_int) (dp_lst (da_cons dp_int da_nil))) da_nil)))))))))))))))) (dss_cons (ds_asg (i := 4) sc_law_invalid_sizes.nd rfl (dp_fz (dp_lst (da_cons dp_int (da_cons (dp_neg dp_int) (da_cons dp_int (da_cons dp_non (da_cons dp_bl (da_cons dp_str (da_cons (dp_lst (da_cons dp_int da_nil)) (da_cons (dp_tup (da_cons dp_int da_nil)) (da_cons (dp_pow dp_int dp_int) (da_cons dp_bl (da_cons (dp_neg (dp_pow dp_int dp_int)) da_nil)))))))))))))) (dss_cons (ds_if (dt_eq (hu_R hr) (dp_cal h_law_draw hr (by first | decide | omega) (da_cons (dp_var (i := 0)) (da_cons dp_int da_nil))) dp_int) (dss_one (ds_ret (dp_fz (dp_ix (dp_var (i := 3)) (dp_cal h_law_draw hr (by first | decide | omega) (da_cons (dp_var (i := 0)) (da_cons (dp_len T.b_len (da_cons (dp_var (i := 3)) da_nil)) da_nil))))))) dss_nil) (dss_one (ds_ret (dp_fz (dp_add (dp_add (dp_sl (dp_var (i := 1)) do_none (do_some (dp_var (i := 2)))) (dp_lst (da_cons (dp_ix (dp_var (i := 4)) (dp_cal h_law_draw hr (by first | decide | omega) (da_cons (dp_var (i := 0)) (da_cons (dp_len T.b_len (da_cons (dp_var (i := 4)) da_nil)) da_nil)))) da_nil))) (dp_sl (dp_var (i := 1)) (do_some (dp_add (dp_var (i := 2)) dp_int)) do_none)))))))))
theorem b_law_invalid_indices (h_law_draw : CalR P w K mg base "_law_draw" 2 (F_law_draw cs) [] 2) (T : Tt K mg cs) : ∀ (cdv : Value) (A : Around) (outer : List PySem.Env) (s : Shared) (H : Hp) (E : XK), R.Room 2 (A.deeper (envOfC "_law_invalid_indices" (defScope s_law_invalid_indices) s.heap.objs.size f cdv)) → PSs (cxOf CX0 P w K mg base N_law_invalid_indices "_law_invalid_indices" (defScope s_law_invalid_indices) f cdv A outer s H E).nox (defBody s_law_invalid_indices) (LS K exT [] (m_law_invalid_indices cs)) := fun cdv A outer s H E hr => (dss_cons (ds_asg (i := 3) sc_law_invalid_indices.nd rfl (dp_fz (dp_lst (da_cons (dp_tup da_nil) (da_cons (dp_tuple T.b_tuple (da_cons (dp_var (i := 2)) da_nil)) (da_cons dp_dE (da_cons dp_str (da_cons dp_int (da_cons dp_bl (da_cons (dp_add (dp_var (i := 2)) (dp_lst (da_cons dp_int da_nil))) (da_cons (dp_lst (da_cons (dp_var (i := 2)) da_nil)) da_nil))))))))))) (dss_cons (ds_if (dt_eq (hu_R hr) (dp_var (i := 2)) (dp_lst da_nil)) (dss_one (ds_ret (dp_fz (dp_ix (dp_var (i := 3)) (dp_cal h_law_draw hr (by first | decide | omega) (da_cons (dp_var (i := 0)) (da_cons (dp_len T.b_len (da_cons (dp_var (i := 3)) da_nil)) da_nil))))))) dss_nil) (dss_cons (ds_asg (i := 4) sc_law_invalid_indices.nd rfl (dp_fz (dp_cal h_law_draw hr (by first | decide | omega) (da_cons (dp_var (i := 0)) (da_cons (dp_len T.b_len (da_cons (dp_var (i := 2)) da_nil)) da_nil))))) (dss_cons (ds_asg (i := 5) sc_law_invalid_indices.nd rfl (dp_fz (dp_lst (da_cons (dp_ix (dp_var (i := 1)) (dp_var (i := 4))) (da_cons (dp_neg dp_int) (da_cons dp_non (da_cons dp_bl (da_cons dp_str (da_cons (dp_lst (da_cons dp_int da_nil)) (da_cons (dp_tup (da_cons dp_int da_nil)) (da_cons (dp_pow dp_int dp_int) (da_cons dp_bl (da_cons (dp_add (dp_ix (dp_var (i := 1)) (dp_var (i := 4))) dp_int) da_nil))))))))))))) (dss_cons (ds_if (dt_eq (hu_R hr) (dp_cal h_law_draw hr (by first | decide | omega) (da_cons (dp_var (i := 0)) (da_cons dp_int da_nil))) dp_int) (dss_one (ds_ret (dp_fz (dp_ix (dp_add (dp_var (i := 3)) (dp_lst (da_cons (dp_sl (dp_var (i := 2)) (do_some dp_int) do_none) (da_cons (dp_lst da_nil) da_nil)))) (dp_cal h_law_draw hr (by first | decide | omega) (da_cons (dp_var (i := 0)) (da_cons (dp_add (dp_len T.b_len (da_cons (dp_var (i := 3)) da_nil)) dp_int) da_nil))))))) dss_nil) (dss_one (ds_ret (dp_fz (dp_add (dp_add (dp_sl (dp_var (i := 2)) do_none (do_some (dp_var (i := 4)))) (dp_lst (da_cons (dp_ix (dp_var (i := 5)) (dp_cal h_law_draw hr (by first | decide | omega) (da_cons (dp_var (i := 0)) (da_cons (dp_len T.b_len (da_cons (dp_var (i := 5)) da_nil)) da_nil)))) da_nil))) (dp_sl (dp_var (i := 2)) (do_some (dp_add (dp_var (i := 4)) dp_int)) do_none))))))))))
theorem b_law_outcomes (h_X_next_state : CalX P w K mg base (adC cs) "next_state" 2 (F_X_next_state cs) [] 4) (h_X_counter_value : CalX P w K mg base (adC cs) "counter_value" 2 (F_X_counter_value cs) [] 4) (h_X_state_before : CalX P w K mg base (adC cs) "state_before" 3 (F_X_state_before cs) [] 4) (h_X_Simulation_init_k : MakKX P w K mg base (adC cs) "Simulation" cs.Simulation 4 (F_X_Simulation_init cs) 2 ["events"] 4) (h_X_block_order : CalX P w K mg base (adC cs) "block_order" 3 (F_X_block_order cs) [] 4) (h_X_round_order : CalX P w K mg base (adC cs) "round_order" 2 (F_X_round_order cs) [] 4) (h_X_round_cycles : CalX P w K mg base (adC cs) "round_cycles" 2 (F_X_round_cycles cs) [] 63) (h_X_period : CalX P w K mg base (adC cs) "period" 2 (F_X_period cs) [] 64) (h_X_state_count : CalX P w K mg base (adC cs) "state_count" 2 (F_X_state_count cs) [] 4) (h_X_orbit_count : CalX P w K mg base (adC cs) "orbit_count" 2 (F_X_orbit_count cs) [] 65) (h_X_simplify : CalX P w K mg base (adC cs) "simplify" 1 (F_X_simplify cs) [] 4) (h_X_first_difference : CalX P w K mg base (adC cs) "first_difference" 3 (F_X_first_difference cs) [] 4) (h_CupRow_init_1 : MakR P w K mg base "CupRow" cs.CupRow 3 (F_CupRow_init cs) [.non] 3) (h_law_outcome : OutC P w K mg base (adC cs) "_law_outcome" wd_law_outcome ks_law_outcome) (hL : MakerOk K mg base f "_law_outcomes") (T : Tt K mg cs) : ∀ (cdv : Value), CodeAt K f cdv "_law_outcomes" → ∀ (A : Around) (outer : List PySem.Env) (s : Shared) (H : Hp) (E : XK), R.Room 67 (A.deeper (envOfC "_law_outcomes" (defScope s_law_outcomes) s.heap.objs.size f cdv)) → PSs (cxOf CX0 P w K mg base N_law_outcomes "_law_outcomes" (defScope s_law_outcomes) f cdv A outer s H E).nox (defBody s_law_outcomes) (LS K exT [] (m_law_outcomes cs)) := fun cdv hc A outer s H E hr => by
  obtain ⟨cL, PL, rfl, TB, hT⟩ := hL cdv hc
  exact (dss_lams (ls := [(lst0 (asgE (nthS (defBody s_law_outcomes) 0))), (arg0 (expE (nthS (defBody s_law_outcomes) 1))), (arg0 (expE (nthS (defBody s_law_outcomes) 2))), (arg0 (expE (nthS (defBody s_law_outcomes) 3))), (arg0 (expE (nthS (defBody s_law_outcomes) 4))), (arg0 (expE (nthS (defBody s_law_outcomes) 5))), (arg0 (expE (nthS (defBody s_law_outcomes) 6))), (arg0 (expE (nthS (defBody s_law_outcomes) 7))), (arg0 (expE (nthS (defBody s_law_outcomes) 8))), (arg0 (expE (nthS (defBody s_law_outcomes) 9))), (arg0 (expE (nthS (defBody s_law_outcomes) 10))), (arg0 (expE (nthS (defBody s_law_outcomes) 11))), (arg0 (expE (nthS (defBody s_law_outcomes) 12)))]) (dss_cons (ds_asg (i := 1) sc_law_outcomes.nd rfl (dp_lst (da_cons (dp_lamO TB rfl hT (by exact LamX.lamS_by (show LamX.lamSB (defScope s_law_outcomes) _ = true by decide +kernel)) rfl) da_nil))) (dss_cons (ds_append (dpl_name (i := 1)) (dp_lamO TB rfl hT (by exact LamX.lamS_by (show LamX.lamSB (defScope s_law_outcomes) _ = true by decide +kernel)) rfl)) (dss_cons (ds_append (dpl_name (i := 1)) (dp_lamO TB rfl hT (by exact LamX.lamS_by (show LamX.lamSB (defScope s_law_outcomes) _ = true by decide +kernel)) rfl)) (dss_cons (ds_append (dpl_name (i := 1)) (dp_lamO TB rfl hT (by exact LamX.lamS_by (show LamX.lamSB (defScope s_law_outcomes) _ = true by decide +kernel)) rfl)) (dss_cons (ds_append (dpl_name (i := 1)) (dp_lamO TB rfl hT (by exact LamX.lamS_by (show LamX.lamSB (defScope s_law_outcomes) _ = true by decide +kernel)) rfl)) (dss_cons (ds_append (dpl_name (i := 1)) (dp_lamO TB rfl hT (by exact LamX.lamS_by (show LamX.lamSB (defScope s_law_outcomes) _ = true by decide +kernel)) rfl)) (dss_cons (ds_append (dpl_name (i := 1)) (dp_lamO TB rfl hT (by exact LamX.lamS_by (show LamX.lamSB (defScope s_law_outcomes) _ = true by decide +kernel)) rfl)) (dss_cons (ds_append (dpl_name (i := 1)) (dp_lamO TB rfl hT (by exact LamX.lamS_by (show LamX.lamSB (defScope s_law_outcomes) _ = true by decide +kernel)) rfl)) (dss_cons (ds_append (dpl_name (i := 1)) (dp_lamO TB rfl hT (by exact LamX.lamS_by (show LamX.lamSB (defScope s_law_outcomes) _ = true by decide +kernel)) rfl)) (dss_cons (ds_append (dpl_name (i := 1)) (dp_lamO TB rfl hT (by exact LamX.lamS_by (show LamX.lamSB (defScope s_law_outcomes) _ = true by decide +kernel)) rfl)) (dss_cons (ds_append (dpl_name (i := 1)) (dp_lamO TB rfl hT (by exact LamX.lamS_by (show LamX.lamSB (defScope s_law_outcomes) _ = true by decide +kernel)) rfl)) (dss_cons (ds_append (dpl_name (i := 1)) (dp_lamO TB rfl hT (by exact LamX.lamS_by (show LamX.lamSB (defScope s_law_outcomes) _ = true by decide +kernel)) rfl)) (dss_cons (ds_append (dpl_name (i := 1)) (dp_lamO TB rfl hT (by exact LamX.lamS_by (show LamX.lamSB (defScope s_law_outcomes) _ = true by decide +kernel)) rfl)) (dss_one (ds_ret (dp_lcO (k := 65) (j := 2) (n := 13) (ms := nthM [(mCall 2 (F_X_next_state cs) (mCons (mVar 0) (mCons (mC .non) mNil)) []), (mCall 2 (F_X_counter_value cs) (mCons (mVar 0) (mCons (mC .non) mNil)) []), (mCall 3 (F_X_state_before cs) (mCons (mVar 0) (mCons (mC .non) (mCons (mC .non) mNil))) []), (mMakeKX 4 cs.Simulation (F_X_Simulation_init cs) 2 1 (mCons (mVar 0) (mCons (mC .non) mNil)) (mCons (mC (.int 5)) mNil)), (mCall 3 (F_X_block_order cs) (mCons (mVar 0) (mCons (mC .non) (mCons (mC .non) mNil))) []), (mCall 2 (F_X_round_order cs) (mCons (mVar 0) (mCons (mC .non) mNil)) []), (mCall 2 (F_X_round_cycles cs) (mCons (mVar 0) (mCons (mC .non) mNil)) []), (mCall 2 (F_X_period cs) (mCons (mVar 0) (mCons (mC .non) mNil)) []), (mCall 2 (F_X_state_count cs) (mCons (mVar 0) (mCons (mC .non) mNil)) []), (mCall 2 (F_X_orbit_count cs) (mCons (mVar 0) (mCons (mC .non) mNil)) []), (mCall 1 (F_X_simplify cs) (mCons (mVar 0) mNil) []), (mCall 3 (F_X_first_difference cs) (mCons (mVar 0) (mCons (mC .non) (mCons (mC .non) mNil))) []), (mCall 3 (F_X_first_difference cs) (mCons (mMake 3 cs.CupRow (F_CupRow_init cs) (mCons (mLst (mCons (mC (.int 2)) mNil)) mNil) [.non]) (mCons (mVar 0) (mCons (mC .non) mNil))) [])]) h_law_outcome rfl sc_law_outcomes.nd (di_list (dp_var (i := 1))) (blkOk_by (own := [("_law_call", 2)]) (N := N_law_outcomes) (sc := defScope s_law_outcomes) (by decide +kernel)) (fun _ _ _ _ _ => (dg_name (i := 2) sc_law_outcomes.nd rfl)) hr (by first | decide | omega) (fun i hi => match i, hi with | 0, _ => LamX.lamS_by (show LamX.lamSB (defScope s_law_outcomes) (lamC (lst0 (asgE (nthS (defBody s_law_outcomes) 0)))) = true by decide +kernel) | 1, _ => LamX.lamS_by (show LamX.lamSB (defScope s_law_outcomes) (lamC (arg0 (expE (nthS (defBody s_law_outcomes) 1)))) = true by decide +kernel) | 2, _ => LamX.lamS_by (show LamX.lamSB (defScope s_law_outcomes) (lamC (arg0 (expE (nthS (defBody s_law_outcomes) 2)))) = true by decide +kernel) | 3, _ => LamX.lamS_by (show LamX.lamSB (defScope s_law_outcomes) (lamC (arg0 (expE (nthS (defBody s_law_outcomes) 3)))) = true by decide +kernel) | 4, _ => LamX.lamS_by (show LamX.lamSB (defScope s_law_outcomes) (lamC (arg0 (expE (nthS (defBody s_law_outcomes) 4)))) = true by decide +kernel) | 5, _ => LamX.lamS_by (show LamX.lamSB (defScope s_law_outcomes) (lamC (arg0 (expE (nthS (defBody s_law_outcomes) 5)))) = true by decide +kernel) | 6, _ => LamX.lamS_by (show LamX.lamSB (defScope s_law_outcomes) (lamC (arg0 (expE (nthS (defBody s_law_outcomes) 6)))) = true by decide +kernel) | 7, _ => LamX.lamS_by (show LamX.lamSB (defScope s_law_outcomes) (lamC (arg0 (expE (nthS (defBody s_law_outcomes) 7)))) = true by decide +kernel) | 8, _ => LamX.lamS_by (show LamX.lamSB (defScope s_law_outcomes) (lamC (arg0 (expE (nthS (defBody s_law_outcomes) 8)))) = true by decide +kernel) | 9, _ => LamX.lamS_by (show LamX.lamSB (defScope s_law_outcomes) (lamC (arg0 (expE (nthS (defBody s_law_outcomes) 9)))) = true by decide +kernel) | 10, _ => LamX.lamS_by (show LamX.lamSB (defScope s_law_outcomes) (lamC (arg0 (expE (nthS (defBody s_law_outcomes) 10)))) = true by decide +kernel) | 11, _ => LamX.lamS_by (show LamX.lamSB (defScope s_law_outcomes) (lamC (arg0 (expE (nthS (defBody s_law_outcomes) 11)))) = true by decide +kernel) | 12, _ => LamX.lamS_by (show LamX.lamSB (defScope s_law_outcomes) (lamC (arg0 (expE (nthS (defBody s_law_outcomes) 12)))) = true by decide +kernel) | k + 13, h => absurd h (by omega)) (fun i hi => match i, hi with | 0, _ => fun _ _ _ _ _ => rfl | 1, _ => fun _ _ _ _ _ => rfl | 2, _ => fun _ _ _ _ _ => rfl | 3, _ => fun _ _ _ _ _ => rfl | 4, _ => fun _ _ _ _ _ => rfl | 5, _ => fun _ _ _ _ _ => rfl | 6, _ => fun _ _ _ _ _ => rfl | 7, _ => fun _ _ _ _ _ => rfl | 8, _ => fun _ _ _ _ _ => rfl | 9, _ => fun _ _ _ _ _ => rfl | 10, _ => fun _ _ _ _ _ => rfl | 11, _ => fun _ _ _ _ _ => rfl | 12, _ => fun _ _ _ _ _ => rfl | k + 13, h => absurd h (by omega)) (fun i hi => match i, hi with | 0, _ => (fun A outer s H E f c1 hr => by exact (dp_calX h_X_next_state hr (by first | decide | omega) (takes_of rfl rfl rfl rfl) (da_cons (dp_var (i := 0)) (da_cons dp_non da_nil)))) | 1, _ => (fun A outer s H E f c1 hr => by exact (dp_calX h_X_counter_value hr (by first | decide | omega) (takes_of rfl rfl rfl rfl) (da_cons (dp_var (i := 0)) (da_cons dp_non da_nil)))) | 2, _ => (fun A outer s H E f c1 hr => by exact (dp_calX h_X_state_before hr (by first | decide | omega) (takes_of rfl rfl rfl rfl) (da_cons (dp_var (i := 0)) (da_cons dp_non (da_cons dp_non da_nil))))) | 3, _ => (fun A outer s H E f c1 hr => by exact (dp_makkX h_X_Simulation_init_k hr (by first | decide | omega) (takes_of rfl rfl rfl rfl) (da_cons (dp_var (i := 0)) (da_cons dp_non da_nil)) (dk_cons dp_int dk_nil))) | 4, _ => (fun A outer s H E f c1 hr => by exact (dp_calX h_X_block_order hr (by first | decide | omega) (takes_of rfl rfl rfl rfl) (da_cons (dp_var (i := 0)) (da_cons dp_non (da_cons dp_non da_nil))))) | 5, _ => (fun A outer s H E f c1 hr => by exact (dp_calX h_X_round_order hr (by first | decide | omega) (takes_of rfl rfl rfl rfl) (da_cons (dp_var (i := 0)) (da_cons dp_non da_nil)))) | 6, _ => (fun A outer s H E f c1 hr => by exact (dp_calX h_X_round_cycles hr (by first | decide | omega) (takes_of rfl rfl rfl rfl) (da_cons (dp_var (i := 0)) (da_cons dp_non da_nil)))) | 7, _ => (fun A outer s H E f c1 hr => by exact (dp_calX h_X_period hr (by first | decide | omega) (takes_of rfl rfl rfl rfl) (da_cons (dp_var (i := 0)) (da_cons dp_non da_nil)))) | 8, _ => (fun A outer s H E f c1 hr => by exact (dp_calX h_X_state_count hr (by first | decide | omega) (takes_of rfl rfl rfl rfl) (da_cons (dp_var (i := 0)) (da_cons dp_non da_nil)))) | 9, _ => (fun A outer s H E f c1 hr => by exact (dp_calX h_X_orbit_count hr (by first | decide | omega) (takes_of rfl rfl rfl rfl) (da_cons (dp_var (i := 0)) (da_cons dp_non da_nil)))) | 10, _ => (fun A outer s H E f c1 hr => by exact (dp_calX h_X_simplify hr (by first | decide | omega) (takes_of rfl rfl rfl rfl) (da_cons (dp_var (i := 0)) da_nil))) | 11, _ => (fun A outer s H E f c1 hr => by exact (dp_calX h_X_first_difference hr (by first | decide | omega) (takes_of rfl rfl rfl rfl) (da_cons (dp_var (i := 0)) (da_cons dp_non (da_cons dp_non da_nil))))) | 12, _ => (fun A outer s H E f c1 hr => by exact (dp_calX h_X_first_difference hr (by first | decide | omega) (takes_of rfl rfl rfl rfl) (da_cons (dp_mk h_CupRow_init_1 hr (by first | decide | omega) (da_cons (dp_lst (da_cons dp_int da_nil)) da_nil)) (da_cons (dp_var (i := 0)) (da_cons dp_non da_nil))))) | k + 13, h => absurd h (by omega)))))))))))))))))))
theorem b_law (h_law_draw_source : CalR P w K mg base "_law_draw_source" 2 (F_law_draw_source cs) [] 2) (h_law_draw_cups : CalR P w K mg base "_law_draw_cups" 4 (F_law_draw_cups cs) [] 3) (h_law_invalid_indices : CalR P w K mg base "_law_invalid_indices" 3 (F_law_invalid_indices cs) [] 3) (h_law_invalid_sizes : CalR P w K mg base "_law_invalid_sizes" 2 (F_law_invalid_sizes cs) [] 3) (h_X_CupRow_init_k : MakKX P w K mg base (adC cs) "CupRow" cs.CupRow 3 (F_X_CupRow_init cs) 1 ["forward"] 3) (h_X_CupRow_init_1 : MakX P w K mg base (adC cs) "CupRow" cs.CupRow 3 (F_X_CupRow_init cs) [.non] 3) (h_law_draw : CalR P w K mg base "_law_draw" 2 (F_law_draw cs) [] 2) (h_law_outcomes : CalR P w K mg base "_law_outcomes" 1 (F_law_outcomes cs) [] 68) (h_law_outcome : OutC P w K mg base (adC cs) "_law_outcome" wd_law_outcome ks_law_outcome) (hL : MakerOk K mg base f "law") (T : Tt K mg cs) : ∀ (cdv : Value), CodeAt K f cdv "law" → ∀ (A : Around) (outer : List PySem.Env) (s : Shared) (H : Hp) (E : XK), R.Room 68 (A.deeper (envOfC "law" (defScope s_law) s.heap.objs.size f cdv)) → PSs (cxOf CX0 P w K mg base N_law "law" (defScope s_law) f cdv A outer s H E).nox (defBody s_law) (LS K exT [] (m_law cs)) := fun cdv hc A outer s H E hr => by
  obtain ⟨cL, PL, rfl, TB, hT⟩ := hL cdv hc
  exact (dss_cons (ds_for PassesOwn.never rfl (di_rng1 T.b_range (dp_max2 rfl T.b_max (da_cons dp_int (da_cons (dp_min2 rfl T.b_min (da_cons dp_int (da_cons (dp_len T.b_len (da_cons (dp_var (i := 0)) da_nil)) da_nil))) da_nil)))) (dg_name (i := 1) sc_law.nd rfl) (dss_cons (ds_asg (i := 2) sc_law.nd rfl (dp_fz (dp_cal h_law_draw_source hr (by first | decide | omega) (da_cons (dp_var (i := 0)) (da_cons (dp_var (i := 1)) da_nil))))) (dss_cons (ds_asgG (dp_fz (dp_cal h_law_draw_cups hr (by first | decide | omega) (da_cons (dp_var (i := 2)) (da_cons dp_int (da_cons dp_int (da_cons dp_int da_nil)))))) (dg_tup rfl (dgs_cons (dg_name (i := 3) sc_law.nd rfl) (dgs_cons (dg_name (i := 4) sc_law.nd rfl) dgs_nil)))) (dss_cons (ds_for PassesOwn.never rfl (di_rng1 T.b_range dp_int) (dg_name (i := 5) sc_law.nd rfl) (dss_cons (ds_asgG (dp_fz (dp_tup (da_cons (dp_cal h_law_invalid_sizes hr (by first | decide | omega) (da_cons (dp_var (i := 2)) (da_cons (dp_var (i := 3)) da_nil))) (da_cons (dp_cal h_law_invalid_indices hr (by first | decide | omega) (da_cons (dp_var (i := 2)) (da_cons (dp_var (i := 3)) (da_cons (dp_var (i := 4)) da_nil)))) da_nil)))) (dg_tup rfl (dgs_cons (dg_name (i := 6) sc_law.nd rfl) (dgs_cons (dg_name (i := 7) sc_law.nd rfl) dgs_nil)))) (dss_cons (ds_asg (i := 8) sc_law.nd rfl (dp_fz (dp_reprU hr T.b_repr (da_cons (dp_tup (da_cons (dp_var (i := 6)) (da_cons (dp_var (i := 7)) (da_cons (dp_var (i := 3)) da_nil)))) da_nil)))) (dss_cons (ds_asg (i := 9) sc_law.nd rfl (dp_lst (da_cons (dp_out (k := 66) h_law_outcome TB rfl hT hr (by first | decide | omega) (by exact LamX.lamS_by (show LamX.lamSB (defScope s_law) _ = true by decide +kernel)) rfl (fun _ _ _ _ _ => rfl) (fun A outer s H E f c1 hr => by exact (dp_makkX h_X_CupRow_init_k hr (by first | decide | omega) (takes_of rfl rfl rfl rfl) (da_cons (dp_var (i := 6)) da_nil) (dk_cons (dp_var (i := 7)) dk_nil)))) da_nil))) (dss_cons (ds_append (dpl_name (i := 9)) (dp_out (k := 66) h_law_outcome TB rfl hT hr (by first | decide | omega) (by exact LamX.lamS_by (show LamX.lamSB (defScope s_law) _ = true by decide +kernel)) rfl (fun _ _ _ _ _ => rfl) (fun A outer s H E f c1 hr => by exact (dp_makX h_X_CupRow_init_1 hr (by first | decide | omega) (takes_of rfl rfl rfl rfl) (da_cons (dp_var (i := 6)) da_nil))))) (dss_cons (ds_append (dpl_name (i := 9)) (dp_out (k := 66) h_law_outcome TB rfl hT hr (by first | decide | omega) (by exact LamX.lamS_by (show LamX.lamSB (defScope s_law) _ = true by decide +kernel)) rfl (fun _ _ _ _ _ => rfl) (fun A outer s H E f c1 hr => by exact (dp_makkX h_X_CupRow_init_k hr (by first | decide | omega) (takes_of rfl rfl rfl rfl) (da_cons (dp_var (i := 3)) da_nil) (dk_cons (dp_var (i := 7)) dk_nil))))) (dss_one (ds_if (PW.pt (dw_or (dt_ne (hu_R hr) (dp_var (i := 9)) (dp_lst (da_cons dp_str (da_cons dp_str (da_cons dp_str da_nil))))) (dw_or1 (dt_neX (dp_reprU hr T.b_repr (da_cons (dp_tup (da_cons (dp_var (i := 6)) (da_cons (dp_var (i := 7)) (da_cons (dp_var (i := 3)) da_nil)))) da_nil)) (dp_var (i := 8)))))) (dss_one (ds_ret dp_bl)) dss_nil)))))))) (dss_cons (ds_asg (i := 9) sc_law.nd rfl (dp_lst (da_cons (dp_out (k := 66) h_law_outcome TB rfl hT hr (by first | decide | omega) (by exact LamX.lamS_by (show LamX.lamSB (defScope s_law) _ = true by decide +kernel)) rfl (fun _ _ _ _ _ => rfl) (fun A outer s H E f c1 hr => by exact (dp_makkX h_X_CupRow_init_k hr (by first | decide | omega) (takes_of rfl rfl rfl rfl) (da_cons (dp_var (i := 3)) da_nil) (dk_cons (dp_var (i := 4)) dk_nil)))) da_nil))) (dss_cons (ds_append (dpl_name (i := 9)) (dp_out (k := 66) h_law_outcome TB rfl hT hr (by first | decide | omega) (by exact LamX.lamS_by (show LamX.lamSB (defScope s_law) _ = true by decide +kernel)) rfl (fun _ _ _ _ _ => rfl) (fun A outer s H E f c1 hr => by exact (dp_makX h_X_CupRow_init_1 hr (by first | decide | omega) (takes_of rfl rfl rfl rfl) (da_cons (dp_mul (dp_lst (da_cons dp_int da_nil)) dp_int) da_nil))))) (dss_cons (ds_append (dpl_name (i := 9)) (dp_out (k := 66) h_law_outcome TB rfl hT hr (by first | decide | omega) (by exact LamX.lamS_by (show LamX.lamSB (defScope s_law) _ = true by decide +kernel)) rfl (fun _ _ _ _ _ => rfl) (fun A outer s H E f c1 hr => by exact (dp_makkX h_X_CupRow_init_k hr (by first | decide | omega) (takes_of rfl rfl rfl rfl) (da_cons (dp_mul (dp_lst (da_cons dp_int da_nil)) dp_int) da_nil) (dk_cons (dp_mul (dp_lst (da_cons dp_int da_nil)) dp_int) dk_nil))))) (dss_cons (ds_if (dt_ne (hu_R hr) (dp_var (i := 9)) (dp_mul (dp_lst (da_cons dp_str da_nil)) dp_int)) (dss_one (ds_ret dp_bl)) dss_nil) (dss_cons (ds_asg (i := 10) sc_law.nd rfl (dp_fz (dp_ix (dp_lst (da_cons dp_non (da_cons (dp_var (i := 3)) (da_cons (dp_tup (da_cons (dp_var (i := 3)) (da_cons (dp_var (i := 4)) da_nil))) (da_cons dp_str (da_cons dp_int (da_cons dp_bl (da_cons dp_dE (da_cons (dp_lst da_nil) da_nil))))))))) (dp_cal h_law_draw hr (by first | decide | omega) (da_cons (dp_var (i := 2)) (da_cons dp_int da_nil)))))) (dss_one (ds_if (dt_ne (hu_R hr) (dp_cal h_law_outcomes hr (by first | decide | omega) (da_cons (dp_var (i := 10)) da_nil)) (dp_mul (dp_lst (da_cons dp_str da_nil)) dp_int)) (dss_one (ds_ret dp_bl)) dss_nil))))))))))) (dss_one (ds_ret dp_bl)))
theorem b_G_are_forward_indices (h_G_is_integer_1 : CalR P w K mg base "is_integer" 2 (F_G_is_integer cs) [(.int 0)] 1) (T : Tt K mg cs) : ∀ (cdv : Value) (A : Around) (outer : List PySem.Env) (s : Shared) (H : Hp) (E : XK), R.Room 1 (A.deeper (envOfC "are_forward_indices" (defScope s_G_are_forward_indices) s.heap.objs.size f cdv)) → PSs (cxOf CX0 P w K mg base N_G_are_forward_indices "are_forward_indices" (defScope s_G_are_forward_indices) f cdv A outer s H E).nox (defBody s_G_are_forward_indices) (LS K exT [] (m_G_are_forward_indices cs)) := fun cdv A outer s H E hr => (dss_cons (ds_if (PW.pt (dw_or (dt_not (dt_val (dp_is (n := "list") T.b_isinstance T.b_list (by decide) (by decide +kernel) (dp_var (i := 0))))) (dw_or1 (dt_ne (hu_R hr) (dp_len T.b_len (da_cons (dp_var (i := 0)) da_nil)) (dp_sub (dp_len T.b_len (da_cons (dp_var (i := 1)) da_nil)) dp_int))))) (dss_one (ds_ret dp_bl)) dss_nil) (dss_one (ds_ret (dp_all rfl T.b_all (da_cons (dp_lc (own := [("index", 2), ("size", 3)]) rfl sc_G_are_forward_indices.nd (di_zip T.b_zip (dp_var (i := 0)) (dp_var (i := 1))) (blkOk_by (own := [("index", 2), ("size", 3)]) (N := N_G_are_forward_indices) (sc := defScope s_G_are_forward_indices) (by decide +kernel)) (fun _ _ _ _ _ => (dg_tup rfl (dgs_cons (dg_name (i := 2) sc_G_are_forward_indices.nd rfl) (dgs_cons (dg_name (i := 3) sc_G_are_forward_indices.nd rfl) dgs_nil)))) (fun _ _ _ _ _ => dts_nil) (fun _ _ _ _ _ => (dp_and (dp_cal h_G_is_integer_1 hr (by first | decide | omega) (da_cons (dp_var (i := 2)) da_nil)) (dp_one (dp_lt (dp_var (i := 2)) (dp_var (i := 3))))))) da_nil)))))
theorem b_G_are_sizes (h_G_is_integer : CalR P w K mg base "is_integer" 2 (F_G_is_integer cs) [] 1) (T : Tt K mg cs) : ∀ (cdv : Value) (A : Around) (outer : List PySem.Env) (s : Shared) (H : Hp) (E : XK), R.Room 1 (A.deeper (envOfC "are_sizes" (defScope s_G_are_sizes) s.heap.objs.size f cdv)) → PSs (cxOf CX0 P w K mg base N_G_are_sizes "are_sizes" (defScope s_G_are_sizes) f cdv A outer s H E).nox (defBody s_G_are_sizes) (LS K exT [] (m_G_are_sizes cs)) := fun cdv A outer s H E hr => (dss_cons (ds_if (PW.pt (dw_or (dt_not (dt_val (dp_is (n := "list") T.b_isinstance T.b_list (by decide) (by decide +kernel) (dp_var (i := 0))))) (dw_or1 (dt_not (dt_chain I_le I_le dp_int (dp_len T.b_len (da_cons (dp_var (i := 0)) da_nil)) (dp_globI T.c_MAX_CUPS)))))) (dss_one (ds_ret dp_bl)) dss_nil) (dss_cons (ds_if (dt_not (dt_val (dp_all rfl T.b_all (da_cons (dp_lc (own := [("size", 1)]) rfl sc_G_are_sizes.nd (di_list (dp_var (i := 0))) (blkOk_by (own := [("size", 1)]) (N := N_G_are_sizes) (sc := defScope s_G_are_sizes) (by decide +kernel)) (fun _ _ _ _ _ => (dg_name (i := 1) sc_G_are_sizes.nd rfl)) (fun _ _ _ _ _ => dts_nil) (fun _ _ _ _ _ => (dp_and (dp_cal h_G_is_integer hr (by first | decide | omega) (da_cons (dp_var (i := 1)) (da_cons dp_int da_nil))) (dp_one (dp_le (dp_var (i := 1)) (dp_globI T.c_MAX_SIZE)))))) da_nil)))) (dss_one (ds_ret dp_bl)) dss_nil) (dss_one (ds_ret (dp_le (dp_sub (dp_sum rfl T.b_sum (da_cons (dp_var (i := 0)) da_nil)) (dp_len T.b_len (da_cons (dp_var (i := 0)) da_nil))) (dp_globI T.c_MAX_EXTRA))))))
theorem b_G_is_integer  (T : Tt K mg cs) : ∀ (cdv : Value) (A : Around) (outer : List PySem.Env) (s : Shared) (H : Hp) (E : XK), R.Room 0 (A.deeper (envOfC "is_integer" (defScope s_G_is_integer) s.heap.objs.size f cdv)) → PSs (cxOf CX0 P w K mg base N_G_is_integer "is_integer" (defScope s_G_is_integer) f cdv A outer s H E).nox (defBody s_G_is_integer) (LS K exT [] (m_G_is_integer cs)) := fun cdv A outer s H E hr => (dss_one (ds_ret (dp_and (dp_is (n := "int") T.b_isinstance T.b_int (by decide) (by decide +kernel) (dp_var (i := 0))) (dp_and (dp_not (dp_is (n := "bool") T.b_isinstance T.b_bool (by decide) (by decide +kernel) (dp_var (i := 0)))) (dp_one (dp_ge (dp_var (i := 0)) (dp_var (i := 1))))))))
theorem b_X_CupRow_init (h_G_are_sizes : CalR P w K mg base "are_sizes" 1 (F_G_are_sizes cs) [] 2) (h_InvalidCups_ini : IniC P w K mg base "InvalidCups" cs.InvalidCups "part" 1) (h_G_are_forward_indices : CalR P w K mg base "are_forward_indices" 2 (F_G_are_forward_indices cs) [] 2) (T : Tt K mg cs) : ∀ (cdv : Value) (A : Around) (outer : List PySem.Env) (s : Shared) (H : Hp) (E : XK), R.Room 2 (A.deeper (envOfC "CupRow.__init__" (defScope s_X_CupRow_init) s.heap.objs.size f cdv)) → PSs (cxOf (L2.CX P w) P w K mg base N_X_CupRow_init "CupRow.__init__" (defScope s_X_CupRow_init) f cdv A outer s H E) (defBody s_X_CupRow_init) (LS K (exK (adC cs) E) [0] (m_X_CupRow_init cs)) := fun cdv A outer s H E hr => (dss_cons (ds_if (dt_not (dt_val (dp_cal h_G_are_sizes hr (by first | decide | omega) (da_cons (dp_var (i := 1)) da_nil)))) (dss_one (ds_raiseF (ad := adC cs) (k := 8) h_InvalidCups_ini hr (by first | decide | omega) rfl (takes_of rfl rfl rfl rfl))) dss_nil) (dss_cons (ds_asg (i := 3) sc_X_CupRow_init.nd rfl (dp_fz (dp_if (dt_isN (dp_var (i := 2))) (dp_mul (dp_lst (da_cons dp_int da_nil)) (dp_sub (dp_len T.b_len (da_cons (dp_var (i := 1)) da_nil)) dp_int)) (dp_var (i := 2))))) (dss_cons (ds_if (dt_not (dt_val (dp_cal h_G_are_forward_indices hr (by first | decide | omega) (da_cons (dp_var (i := 3)) (da_cons (dp_var (i := 1)) da_nil))))) (dss_one (ds_raiseF (ad := adC cs) (k := 9) h_InvalidCups_ini hr (by first | decide | omega) rfl (takes_of rfl rfl rfl rfl))) dss_nil) (dss_cons ds_never (dss_cons ds_never (dss_cons ds_never (dss_one ds_never)))))))
theorem b_X_Simulation_init (h_X_require_cups : CalX P w K mg base (adC cs) "require_cups" 1 (F_X_require_cups cs) [] 3) (T : Tt K mg cs) : ∀ (cdv : Value) (A : Around) (outer : List PySem.Env) (s : Shared) (H : Hp) (E : XK), R.Room 3 (A.deeper (envOfC "Simulation.__init__" (defScope s_X_Simulation_init) s.heap.objs.size f cdv)) → PSs (cxOf (L2.CX P w) P w K mg base N_X_Simulation_init "Simulation.__init__" (defScope s_X_Simulation_init) f cdv A outer s H E) (defBody s_X_Simulation_init) (LS K (exK (adC cs) E) [0] (m_X_Simulation_init cs)) := fun cdv A outer s H E hr => (dss_cons (ds_dropE (dp_calX h_X_require_cups hr (by first | decide | omega) (takes_of rfl rfl rfl rfl) (da_cons (dp_var (i := 1)) da_nil))) (dss_cons ds_never (dss_cons ds_never (dss_cons ds_never (dss_cons ds_never (dss_cons ds_never (dss_cons ds_never (dss_cons ds_never (dss_cons ds_never (dss_one (ds_kill (i := 2) ds_never)))))))))))
theorem b_X_block_order (h_X_require_cups : CalX P w K mg base (adC cs) "require_cups" 1 (F_X_require_cups cs) [] 3) (T : Tt K mg cs) : ∀ (cdv : Value) (A : Around) (outer : List PySem.Env) (s : Shared) (H : Hp) (E : XK), R.Room 3 (A.deeper (envOfC "block_order" (defScope s_X_block_order) s.heap.objs.size f cdv)) → PSs (cxOf (L2.CX P w) P w K mg base N_X_block_order "block_order" (defScope s_X_block_order) f cdv A outer s H E) (defBody s_X_block_order) (LS K (exK (adC cs) E) [] (m_X_block_order cs)) := fun cdv A outer s H E hr => (dss_cons (ds_dropE (dp_calX h_X_require_cups hr (by first | decide | omega) (takes_of rfl rfl rfl rfl) (da_cons (dp_var (i := 0)) da_nil))) (dss_cons ds_never (dss_cons ds_never (dss_cons ds_never (dss_one ds_never)))))
theorem b_X_counter_value (h_X_require_cups : CalX P w K mg base (adC cs) "require_cups" 1 (F_X_require_cups cs) [] 3) (T : Tt K mg cs) : ∀ (cdv : Value) (A : Around) (outer : List PySem.Env) (s : Shared) (H : Hp) (E : XK), R.Room 3 (A.deeper (envOfC "counter_value" (defScope s_X_counter_value) s.heap.objs.size f cdv)) → PSs (cxOf (L2.CX P w) P w K mg base N_X_counter_value "counter_value" (defScope s_X_counter_value) f cdv A outer s H E) (defBody s_X_counter_value) (LS K (exK (adC cs) E) [] (m_X_counter_value cs)) := fun cdv A outer s H E hr => (dss_cons (ds_dropE (dp_calX h_X_require_cups hr (by first | decide | omega) (takes_of rfl rfl rfl rfl) (da_cons (dp_var (i := 0)) da_nil))) (dss_cons ds_never (dss_one ds_never)))
theorem b_X_first_difference (h_X_require_cups : CalX P w K mg base (adC cs) "require_cups" 1 (F_X_require_cups cs) [] 3) (T : Tt K mg cs) : ∀ (cdv : Value) (A : Around) (outer : List PySem.Env) (s : Shared) (H : Hp) (E : XK), R.Room 3 (A.deeper (envOfC "first_difference" (defScope s_X_first_difference) s.heap.objs.size f cdv)) → PSs (cxOf (L2.CX P w) P w K mg base N_X_first_difference "first_difference" (defScope s_X_first_difference) f cdv A outer s H E) (defBody s_X_first_difference) (LS K (exK (adC cs) E) [] (m_X_first_difference cs)) := fun cdv A outer s H E hr => (dss_cons (ds_dropE (dp_calX h_X_require_cups hr (by first | decide | omega) (takes_of rfl rfl rfl rfl) (da_cons (dp_var (i := 0)) da_nil))) (dss_cons (ds_dropE (dp_calX h_X_require_cups hr (by first | decide | omega) (takes_of rfl rfl rfl rfl) (da_cons (dp_var (i := 1)) da_nil))) (dss_cons ds_never (dss_cons ds_never (dss_cons ds_never (dss_cons ds_never (dss_cons ds_never (dss_one ds_never))))))))
theorem b_X_next_state (h_X_require_cups : CalX P w K mg base (adC cs) "require_cups" 1 (F_X_require_cups cs) [] 3) (T : Tt K mg cs) : ∀ (cdv : Value) (A : Around) (outer : List PySem.Env) (s : Shared) (H : Hp) (E : XK), R.Room 3 (A.deeper (envOfC "next_state" (defScope s_X_next_state) s.heap.objs.size f cdv)) → PSs (cxOf (L2.CX P w) P w K mg base N_X_next_state "next_state" (defScope s_X_next_state) f cdv A outer s H E) (defBody s_X_next_state) (LS K (exK (adC cs) E) [] (m_X_next_state cs)) := fun cdv A outer s H E hr => (dss_cons (ds_dropE (dp_calX h_X_require_cups hr (by first | decide | omega) (takes_of rfl rfl rfl rfl) (da_cons (dp_var (i := 0)) da_nil))) (dss_cons ds_never (dss_cons ds_never (dss_one ds_never))))
theorem b_X_orbit_count (h_state_count : CalR P w K mg base "state_count" 2 (F_state_count cs) [] 3) (h_period : CalR P w K mg base "period" 2 (F_period cs) [] 64) (h_X_state_count : CalX P w K mg base (adC cs) "state_count" 2 (F_X_state_count cs) [] 4) (T : Tt K mg cs) : ∀ (cdv : Value) (A : Around) (outer : List PySem.Env) (s : Shared) (H : Hp) (E : XK), R.Room 64 (A.deeper (envOfC "orbit_count" (defScope s_X_orbit_count) s.heap.objs.size f cdv)) → PSs (cxOf (L2.CX P w) P w K mg base N_X_orbit_count "orbit_count" (defScope s_X_orbit_count) f cdv A outer s H E) (defBody s_X_orbit_count) (LS K (exK (adC cs) E) [] (m_X_orbit_count cs)) := fun cdv A outer s H E hr => (dss_one (ds_orS (ds_ret (dp_div (dp_cal h_state_count hr (by first | decide | omega) (da_cons (dp_var (i := 0)) (da_cons (dp_var (i := 1)) da_nil))) (dp_cal h_period hr (by first | decide | omega) (da_cons (dp_var (i := 0)) (da_cons (dp_var (i := 1)) da_nil))))) (ds_errRet (er_div (er_of (dp_calX h_X_state_count hr (by first | decide | omega) (takes_of rfl rfl rfl rfl) (da_cons (dp_var (i := 0)) (da_cons (dp_var (i := 1)) da_nil)))) (dp_cal h_period hr (by first | decide | omega) (da_cons (dp_var (i := 0)) (da_cons (dp_var (i := 1)) da_nil)))))))
theorem b_X_period (h_common_multiple : CalR P w K mg base "common_multiple" 1 (F_common_multiple cs) [] 2) (h_round_cycles : CalR P w K mg base "round_cycles" 2 (F_round_cycles cs) [] 63) (h_CupRow_round_length : MetR P w K mg base cs.CupRow "round_length" 1 (F_CupRow_round_length cs) [] 1) (h_X_round_cycles : CalX P w K mg base (adC cs) "round_cycles" 2 (F_X_round_cycles cs) [] 63) (T : Tt K mg cs) : ∀ (cdv : Value) (A : Around) (outer : List PySem.Env) (s : Shared) (H : Hp) (E : XK), R.Room 63 (A.deeper (envOfC "period" (defScope s_X_period) s.heap.objs.size f cdv)) → PSs (cxOf (L2.CX P w) P w K mg base N_X_period "period" (defScope s_X_period) f cdv A outer s H E) (defBody s_X_period) (LS K (exK (adC cs) E) [] (m_X_period cs)) := fun cdv A outer s H E hr => (dss_one (ds_orS (ds_ret (dp_mul (dp_cal h_common_multiple hr (by first | decide | omega) (da_cons (dp_lc (own := [("cycle", 2)]) rfl sc_X_period.nd (di_list (dp_cal h_round_cycles hr (by first | decide | omega) (da_cons (dp_var (i := 0)) (da_cons (dp_var (i := 1)) da_nil)))) (blkOk_by (own := [("cycle", 2)]) (N := N_X_period) (sc := defScope s_X_period) (by decide +kernel)) (fun _ _ _ _ _ => (dg_name (i := 2) sc_X_period.nd rfl)) (fun _ _ _ _ _ => dts_nil) (fun _ _ _ _ _ => (dp_len T.b_len (da_cons (dp_var (i := 2)) da_nil)))) da_nil)) (dp_mth0 h_CupRow_round_length hr (by first | decide | omega) (dp_var (i := 0)) ))) (ds_errRet (er_mul (er_cal h_common_multiple hr (by first | decide | omega) (er_lc (own := [("cycle", 2)]) rfl sc_X_period.nd (er_of (dp_calX h_X_round_cycles hr (by first | decide | omega) (takes_of rfl rfl rfl rfl) (da_cons (dp_var (i := 0)) (da_cons (dp_var (i := 1)) da_nil)))) (blkOk_by (own := [("cycle", 2)]) (N := N_X_period) (sc := defScope s_X_period) (by decide +kernel)) (fun _ _ _ _ _ => (dg_name (i := 2) sc_X_period.nd rfl)) (fun _ _ _ _ _ => dts_nil) (fun _ _ _ _ _ => (dp_len T.b_len (da_cons (dp_var (i := 2)) da_nil))))) (dp_mth0 h_CupRow_round_length hr (by first | decide | omega) (dp_var (i := 0)) )))))
theorem b_X_require_cups (h_InvalidCups_ini : IniC P w K mg base "InvalidCups" cs.InvalidCups "part" 1) (T : Tt K mg cs) : ∀ (cdv : Value) (A : Around) (outer : List PySem.Env) (s : Shared) (H : Hp) (E : XK), R.Room 2 (A.deeper (envOfC "require_cups" (defScope s_X_require_cups) s.heap.objs.size f cdv)) → PSs (cxOf (L2.CX P w) P w K mg base N_X_require_cups "require_cups" (defScope s_X_require_cups) f cdv A outer s H E) (defBody s_X_require_cups) (LS K (exK (adC cs) E) [] (m_X_require_cups cs)) := fun cdv A outer s H E hr => (dss_one (ds_if (dt_not (dt_val (dp_isCA T.b_isinstance T.g_CupRow T.is_CupRow (dp_var (i := 0))))) (dss_one (ds_raiseF (ad := adC cs) (k := 7) h_InvalidCups_ini hr (by first | decide | omega) rfl (takes_of rfl rfl rfl rfl))) dss_nil))
theorem b_X_round_cycles (h_cycles_of : CalR P w K mg base "cycles_of" 1 (F_cycles_of cs) [] 1) (h_round_order : CalR P w K mg base "round_order" 2 (F_round_order cs) [] 62) (h_X_round_order : CalX P w K mg base (adC cs) "round_order" 2 (F_X_round_order cs) [] 4) (T : Tt K mg cs) : ∀ (cdv : Value) (A : Around) (outer : List PySem.Env) (s : Shared) (H : Hp) (E : XK), R.Room 62 (A.deeper (envOfC "round_cycles" (defScope s_X_round_cycles) s.heap.objs.size f cdv)) → PSs (cxOf (L2.CX P w) P w K mg base N_X_round_cycles "round_cycles" (defScope s_X_round_cycles) f cdv A outer s H E) (defBody s_X_round_cycles) (LS K (exK (adC cs) E) [] (m_X_round_cycles cs)) := fun cdv A outer s H E hr => (dss_one (ds_orS (ds_ret (dp_cal h_cycles_of hr (by first | decide | omega) (da_cons (dp_cal h_round_order hr (by first | decide | omega) (da_cons (dp_var (i := 0)) (da_cons (dp_var (i := 1)) da_nil))) da_nil))) (ds_errRet (er_cal h_cycles_of hr (by first | decide | omega) (er_of (dp_calX h_X_round_order hr (by first | decide | omega) (takes_of rfl rfl rfl rfl) (da_cons (dp_var (i := 0)) (da_cons (dp_var (i := 1)) da_nil))))))))
theorem b_X_round_order (h_X_require_cups : CalX P w K mg base (adC cs) "require_cups" 1 (F_X_require_cups cs) [] 3) (T : Tt K mg cs) : ∀ (cdv : Value) (A : Around) (outer : List PySem.Env) (s : Shared) (H : Hp) (E : XK), R.Room 3 (A.deeper (envOfC "round_order" (defScope s_X_round_order) s.heap.objs.size f cdv)) → PSs (cxOf (L2.CX P w) P w K mg base N_X_round_order "round_order" (defScope s_X_round_order) f cdv A outer s H E) (defBody s_X_round_order) (LS K (exK (adC cs) E) [] (m_X_round_order cs)) := fun cdv A outer s H E hr => (dss_cons (ds_dropE (dp_calX h_X_require_cups hr (by first | decide | omega) (takes_of rfl rfl rfl rfl) (da_cons (dp_var (i := 0)) da_nil))) (dss_cons ds_never (dss_one ds_never)))
theorem b_X_simplify (h_X_require_cups : CalX P w K mg base (adC cs) "require_cups" 1 (F_X_require_cups cs) [] 3) (T : Tt K mg cs) : ∀ (cdv : Value) (A : Around) (outer : List PySem.Env) (s : Shared) (H : Hp) (E : XK), R.Room 3 (A.deeper (envOfC "simplify" (defScope s_X_simplify) s.heap.objs.size f cdv)) → PSs (cxOf (L2.CX P w) P w K mg base N_X_simplify "simplify" (defScope s_X_simplify) f cdv A outer s H E) (defBody s_X_simplify) (LS K (exK (adC cs) E) [] (m_X_simplify cs)) := fun cdv A outer s H E hr => (dss_cons (ds_dropE (dp_calX h_X_require_cups hr (by first | decide | omega) (takes_of rfl rfl rfl rfl) (da_cons (dp_var (i := 0)) da_nil))) (dss_cons ds_never (dss_one ds_never)))
theorem b_X_state_before (h_X_require_cups : CalX P w K mg base (adC cs) "require_cups" 1 (F_X_require_cups cs) [] 3) (T : Tt K mg cs) : ∀ (cdv : Value) (A : Around) (outer : List PySem.Env) (s : Shared) (H : Hp) (E : XK), R.Room 3 (A.deeper (envOfC "state_before" (defScope s_X_state_before) s.heap.objs.size f cdv)) → PSs (cxOf (L2.CX P w) P w K mg base N_X_state_before "state_before" (defScope s_X_state_before) f cdv A outer s H E) (defBody s_X_state_before) (LS K (exK (adC cs) E) [] (m_X_state_before cs)) := fun cdv A outer s H E hr => (dss_cons (ds_dropE (dp_calX h_X_require_cups hr (by first | decide | omega) (takes_of rfl rfl rfl rfl) (da_cons (dp_var (i := 0)) da_nil))) (dss_cons ds_never (dss_cons ds_never (dss_cons ds_never (dss_one ds_never)))))
theorem b_X_state_count (h_X_require_cups : CalX P w K mg base (adC cs) "require_cups" 1 (F_X_require_cups cs) [] 3) (T : Tt K mg cs) : ∀ (cdv : Value) (A : Around) (outer : List PySem.Env) (s : Shared) (H : Hp) (E : XK), R.Room 3 (A.deeper (envOfC "state_count" (defScope s_X_state_count) s.heap.objs.size f cdv)) → PSs (cxOf (L2.CX P w) P w K mg base N_X_state_count "state_count" (defScope s_X_state_count) f cdv A outer s H E) (defBody s_X_state_count) (LS K (exK (adC cs) E) [] (m_X_state_count cs)) := fun cdv A outer s H E hr => (dss_cons (ds_dropE (dp_calX h_X_require_cups hr (by first | decide | omega) (takes_of rfl rfl rfl rfl) (da_cons (dp_var (i := 0)) da_nil))) (dss_cons ds_never (dss_cons ds_never (dss_cons ds_never (dss_one ds_never)))))
end
section
variable {P : Program} {w : World} {K : PySem.W.Frag} {mg : PySem.Str → Option Value} {base : Heap} {cs : Cs}
theorem rec_ok (T : Tt K mg cs) {fE fF : Addr} {fdE fdF : FuncData} (FE : FunD K "entering" "Blocks.entering" (defArgs s_Blocks_entering) (defBody s_Blocks_entering) (defScope s_Blocks_entering) [] [] fE fdE)
    (FF : FunD K "filling" "Blocks.filling" (defArgs s_Blocks_filling) (defBody s_Blocks_filling) (defScope s_Blocks_filling) [] [] fF fdF) (mE : Meth K cs.Blocks "entering" fE) (mF : Meth K cs.Blocks "filling" fF) (bE : Binds K fdE P_Blocks_entering []) (bF : Binds K fdF P_Blocks_filling []) :
    ∀ b, MetR P w K mg base cs.Blocks "entering" 3 (F_Blocks_entering cs b) [] (2 * b + 1) ∧ MetR P w K mg base cs.Blocks "filling" 3 (F_Blocks_filling cs b) [] (2 * b) := by
  have okE : ∀ b k, MetR P w K mg base cs.Blocks "filling" 3 (F_Blocks_filling cs b) [] k → MetR P w K mg base cs.Blocks "entering" 3 (F_Blocks_entering cs b) [] (k + 1) := fun b k h =>
    ⟨fE, fdE, P_Blocks_entering, [], [], T.k_Blocks, mE, fn_R FE sc_Blocks_entering rfl (b_Blocks_entering (f := fE) h T) (fun ss Q _ q => wp_Blocks_entering cs b ss Q q), bE, .nil, fun _ => .nil⟩
  have okF : ∀ b k, MetR P w K mg base cs.Blocks "entering" 3 (F_Blocks_entering cs b) [] k → MetR P w K mg base cs.Blocks "filling" 3 (F_Blocks_filling cs (b + 1)) [] (k + 1) := fun b k h =>
    ⟨fF, fdF, P_Blocks_filling, [], [], T.k_Blocks, mF, fn_R FF sc_Blocks_filling rfl (b_Blocks_filling (f := fF) (b := b + 1) h T) (fun ss Q _ q => wp_Blocks_filling cs (b + 1) ss Q q), bF, .nil, fun _ => .nil⟩
  intro b
  induction b with
  | zero =>
    have h0 : MetR P w K mg base cs.Blocks "filling" 3 (F_Blocks_filling cs 0) [] 0 := ⟨fF, fdF, P_Blocks_filling, [], [], T.k_Blocks, mF, ⟨fun vs H Q E h => h.1, fun A outer s H args us vs Q E _ _ _ _ h => by
      obtain ⟨_, _, ss, _, _, _, _, _, hF, _⟩ := h
      obtain ⟨sz, fw, c, n, _, _, hb, _⟩ := hF
      omega⟩, bF, .nil, fun _ => .nil⟩
    exact ⟨okE 0 0 h0, h0⟩
  | succ b ih => exact ⟨okE (b + 1) _ (okF b _ ih.1), okF b _ ih.1⟩
end

abbrev csK (K : PySem.W.Frag) : Cs := ⟨He.ga K "CupLadderError", He.ga K "InvalidCups", He.ga K "InvalidState", He.ga K "InvalidStep", He.ga K "InvalidEvents", He.ga K "InvalidMember", He.ga K "InvalidCup", He.ga K "Incomparable", He.ga K "CupRow", He.ga K "Blocks", He.ga K "Simulation"⟩
theorem ob_eq (s : PySem.W.SharedT) : ob s = hk.obs s.abs := R.obsY_eq (HandSHeadRun.getT_eq s)
theorem facts {P : Program} {w : World} {K : PySem.W.Frag} {h : Heap} {mg : PySem.Str → Option Value} {f : Addr} (X : K.In h) (G : h.Ns mainGlobals mg) (hfa : mg ("law" : PySem.Str) = some (.ref f)) (cX : He.SaysX fa fn [] tf (R.exB isl esl ksl tf oxl) w h K) : ∃ (cs : Cs) (fd : FuncData), (∀ (s : Shared) (v : Value), BindsTo s fd ⟨[v], []⟩ [("_law_script", v)]) ∧ ∀ base : Heap, K.In base → base.Ns mainGlobals mg → (∀ p ∈ tf.map (He.cT K), LamX.TabB base mg p.1 p.2) → R.FnOk P w K mg base CX0 69 f fd ["_law_script"] (spR K 1 (F_law cs).io) := by
  have c := cX.t.d
  have ci := exB_is cX.more
  obtain ⟨fd0, FD0⟩ := c.def_ 0 (d := dD_common_divisor) rfl
  obtain ⟨fd1, FD1⟩ := c.def_ 1 (d := dD_common_multiple) rfl
  obtain ⟨fd2, FD2⟩ := c.def_ 2 (d := dD_InvalidCups_init) rfl
  obtain ⟨fd3, FD3⟩ := c.def_ 3 (d := dD_is_integer) rfl
  obtain ⟨fd4, FD4⟩ := c.def_ 4 (d := dD_are_sizes) rfl
  obtain ⟨fd5, FD5⟩ := c.def_ 5 (d := dD_are_forward_indices) rfl
  obtain ⟨fd6, FD6⟩ := c.def_ 6 (d := dD_CupRow_init) rfl
  obtain ⟨fd7, FD7⟩ := c.def_ 7 (d := dD_CupRow_round_length) rfl
  obtain ⟨fd8, FD8⟩ := c.def_ 8 (d := dD_CupRow_min_members) rfl
  obtain ⟨fd9, FD9⟩ := c.def_ 9 (d := dD_require_cups) rfl
  obtain ⟨fd10, FD10⟩ := c.def_ 10 (d := dD_cycles_of) rfl
  obtain ⟨fd11, FD11⟩ := c.def_ 11 (d := dD_Blocks_init) rfl
  obtain ⟨fd12, FD12⟩ := c.def_ 12 (d := dD_Blocks_entering) rfl
  obtain ⟨fd13, FD13⟩ := c.def_ 13 (d := dD_Blocks_filling) rfl
  obtain ⟨fd14, FD14⟩ := c.def_ 14 (d := dD_Blocks_whole_round) rfl
  obtain ⟨fd15, FD15⟩ := c.def_ 15 (d := dD_require_count) rfl
  obtain ⟨fd16, FD16⟩ := c.def_ 16 (d := dD_round_order) rfl
  obtain ⟨fd17, FD17⟩ := c.def_ 17 (d := dD_round_cycles) rfl
  obtain ⟨fd18, FD18⟩ := c.def_ 18 (d := dD_period) rfl
  obtain ⟨fd19, FD19⟩ := c.def_ 19 (d := dD_state_count) rfl
  obtain ⟨fd20, FD20⟩ := c.def_ 20 (d := dD_law_script_value) rfl
  obtain ⟨fd21, FD21⟩ := c.def_ 21 (d := dD_law_mix) rfl
  obtain ⟨fd22, FD22⟩ := c.def_ 22 (d := dD_law_draw_source) rfl
  obtain ⟨fd23, FD23⟩ := c.def_ 23 (d := dD_law_draw) rfl
  obtain ⟨fd24, FD24⟩ := c.def_ 24 (d := dD_law_draw_cups) rfl
  obtain ⟨fd25, FD25⟩ := c.def_ 25 (d := dD_law_outcome) rfl
  obtain ⟨fd26, FD26⟩ := c.def_ 26 (d := dD_law_invalid_sizes) rfl
  obtain ⟨fd27, FD27⟩ := c.def_ 27 (d := dD_law_invalid_indices) rfl
  obtain ⟨fd28, FD28⟩ := c.def_ 28 (d := dD_law_outcomes) rfl
  obtain ⟨fd29, FD29⟩ := c.def_ 29 (d := dD_law) rfl
  obtain ⟨fd30, FD30⟩ := c.def_ 30 (d := dD_G_are_forward_indices) rfl
  obtain ⟨fd31, FD31⟩ := c.def_ 31 (d := dD_G_are_sizes) rfl
  obtain ⟨fd32, FD32⟩ := c.def_ 32 (d := dD_G_is_integer) rfl
  obtain ⟨fd33, FD33⟩ := c.def_ 33 (d := dD_X_Simulation_init) rfl
  obtain ⟨fd34, FD34⟩ := c.def_ 34 (d := dD_X_block_order) rfl
  obtain ⟨fd35, FD35⟩ := c.def_ 35 (d := dD_X_counter_value) rfl
  obtain ⟨fd36, FD36⟩ := c.def_ 36 (d := dD_X_first_difference) rfl
  obtain ⟨fd37, FD37⟩ := c.def_ 37 (d := dD_X_next_state) rfl
  obtain ⟨fd38, FD38⟩ := c.def_ 38 (d := dD_X_orbit_count) rfl
  obtain ⟨fd39, FD39⟩ := c.def_ 39 (d := dD_X_period) rfl
  obtain ⟨fd40, FD40⟩ := c.def_ 40 (d := dD_X_require_cups) rfl
  obtain ⟨fd41, FD41⟩ := c.def_ 41 (d := dD_X_round_cycles) rfl
  obtain ⟨fd42, FD42⟩ := c.def_ 42 (d := dD_X_round_order) rfl
  obtain ⟨fd43, FD43⟩ := c.def_ 43 (d := dD_X_simplify) rfl
  obtain ⟨fd44, FD44⟩ := c.def_ 44 (d := dD_X_state_before) rfl
  obtain ⟨fd45, FD45⟩ := c.def_ 45 (d := dD_X_state_count) rfl
  have T : Tt K mg (csK K) := ⟨He.free_ok X G (c.fact 11 (f := .free "ValueError") rfl),
    He.free_ok X G (c.fact 12 (f := .free "all") rfl),
    He.free_ok X G (c.fact 13 (f := .free "bool") rfl),
    He.free_ok X G (c.fact 14 (f := .free "int") rfl),
    He.free_ok X G (c.fact 15 (f := .free "isinstance") rfl),
    He.free_ok X G (c.fact 16 (f := .free "len") rfl),
    He.free_ok X G (c.fact 17 (f := .free "list") rfl),
    He.free_ok X G (c.fact 18 (f := .free "max") rfl),
    He.free_ok X G (c.fact 19 (f := .free "min") rfl),
    He.free_ok X G (c.fact 20 (f := .free "range") rfl),
    He.free_ok X G (c.fact 21 (f := .free "repr") rfl),
    He.free_ok X G (c.fact 22 (f := .free "sum") rfl),
    He.free_ok X G (c.fact 23 (f := .free "tuple") rfl),
    He.free_ok X G (c.fact 24 (f := .free "zip") rfl),
    He.int_ok X G (c.fact 25 (f := .int "MAX_CUPS" 30) rfl),
    He.int_ok X G (c.fact 26 (f := .int "MAX_EXTRA" 30) rfl),
    He.int_ok X G (c.fact 27 (f := .int "MAX_MEMBERS" 40) rfl),
    He.int_ok X G (c.fact 28 (f := .int "MAX_SIZE" 9) rfl),
    He.glo_ok X G (c.fact 8 (f := .glo "CupRow") rfl),
    He.glo_ok X G (c.fact 7 (f := .glo "Incomparable") rfl),
    He.glo_ok X G (c.fact 6 (f := .glo "InvalidCup") rfl),
    He.glo_ok X G (c.fact 1 (f := .glo "InvalidCups") rfl),
    He.glo_ok X G (c.fact 4 (f := .glo "InvalidEvents") rfl),
    He.glo_ok X G (c.fact 5 (f := .glo "InvalidMember") rfl),
    He.glo_ok X G (c.fact 2 (f := .glo "InvalidState") rfl),
    He.glo_ok X G (c.fact 3 (f := .glo "InvalidStep") rfl),
    isB_ok (List.all_eq_true.mp ci "CupRow" (by decide)) (He.cls_ok (c.fact 29 (f := .cls "CupRow") rfl)),
    He.cls_ok (c.fact 30 (f := .cls "Blocks") rfl),
    He.cls_ok (c.fact 29 (f := .cls "CupRow") rfl),
    He.noat_ok (c.fact 31 (f := .noat "Blocks" "cups") rfl),
    He.noat_ok (c.fact 32 (f := .noat "Blocks" "orders") rfl),
    He.noat_ok (c.fact 33 (f := .noat "Blocks" "visits") rfl),
    He.noat_ok (c.fact 34 (f := .noat "CupRow" "forward_tuple") rfl),
    He.noat_ok (c.fact 35 (f := .noat "CupRow" "size_tuple") rfl),
    He.noat_ok (c.fact 36 (f := .noat "CupRow" "weights") rfl)⟩
  have e := hfa.symm.trans (He.glo_ok X G (c.fact 74 (f := .glo "law") rfl))
  cases e
  have bL := FunD.bindsA (ps := ["_law_script"]) FD29 fun _ _ _ _ _ _ us hl => match us, hl with | [_], _ => rfl
  refine ⟨csK K, fd29, fun s v => bL s [v] rfl, fun base _ _ hTB => ?_⟩
  have hA : ∀ j, j < 12 → He.ga K (esl.getD j "") = adC (csK K) j := fun j hj => match j, hj with | 0, _ => rfl | 1, _ => rfl | 2, _ => rfl | 3, _ => rfl | 4, _ => rfl | 5, _ => rfl | 6, _ => rfl | 7, _ => rfl | 8, _ => rfl | 9, _ => rfl | 10, _ => rfl | 11, _ => rfl | n + 12, h => absurd h (by show ¬ (n + 12 < 12); omega)
  have hE : ∀ k ∈ ks_law_outcome, ErrI K (adC (csK K)) 7 k := fun k m => (exB_err cX.more (k := k) m).congr (hA k ((show ∀ k ∈ ks_law_outcome, k < 12 by decide) k m)) (fun j hj => hA j (by omega))
  have h_law_outcome : OutC P w K mg base (adC (csK K)) "_law_outcome" wd_law_outcome ks_law_outcome := ⟨_, _, _, _, _, _, _, _, _, _, _, _, _, _, _, _, _, _, _, _, _, _, _, ⟨FD25, He.glo_ok X G (c.fact 38 (f := .glo "_law_outcome") rfl), (FunD.bindsN (ps := P_law_outcome) FD25 fun _ _ _ _ _ _ us hl => match us, hl with | [_], _ => rfl), sc_law_outcome, rfl, .inl rfl, by decide, by decide, rfl, rfl, rfl, by decide, He.glo_ok X G (c.fact 0 (f := .glo "CupLadderError") rfl), List.forall_mem_cons.mpr ⟨He.exm_ok (c.fact 37 (f := .exm "InvalidCups" "CupLadderError" true) rfl), List.forall_mem_cons.mpr ⟨He.exm_ok (c.fact 37 (f := .exm "InvalidCups" "CupLadderError" true) rfl), List.forall_mem_cons.mpr ⟨He.exm_ok (c.fact 37 (f := .exm "InvalidCups" "CupLadderError" true) rfl), fun _ m => (by cases m)⟩⟩⟩, fun k m => su_law_outcome (hE k m) T, rd_law_outcome (csK K), rfl⟩⟩
  have ok_law_mix : R.FnOk P w K mg base CX0 1 _ fd21 P_law_mix (spR K 2 (F_law_mix (csK K)).io) := fn_R FD21 sc_law_mix rfl (b_law_mix  T) (fun ss Q _ q => wp_law_mix (csK K) ss Q q)
  have h_law_mix : CalR P w K mg base "_law_mix" 2 (F_law_mix (csK K)) [] 1 := by
      exact ⟨_, fd21, P_law_mix, [], [], ok_law_mix, He.glo_ok X G (c.fact 39 (f := .glo "_law_mix") rfl), FD21.kp, (FunD.bindsN (ps := P_law_mix) FD21 fun _ _ _ _ _ _ us hl => match us, hl with | [_, _], _ => rfl), .nil, fun _ => .nil⟩
  have ok_law_script_value : R.FnOk P w K mg base CX0 1 _ fd20 P_law_script_value (spR K 2 (F_law_script_value (csK K)).io) := fn_R FD20 sc_law_script_value rfl (b_law_script_value  T) (fun ss Q _ q => wp_law_script_value (csK K) ss Q q)
  have h_law_script_value : CalR P w K mg base "_law_script_value" 2 (F_law_script_value (csK K)) [] 1 := by
      exact ⟨_, fd20, P_law_script_value, [], [], ok_law_script_value, He.glo_ok X G (c.fact 40 (f := .glo "_law_script_value") rfl), FD20.kp, (FunD.bindsN (ps := P_law_script_value) FD20 fun _ _ _ _ _ _ us hl => match us, hl with | [_, _], _ => rfl), .nil, fun _ => .nil⟩
  have ok_law_draw_source : R.FnOk P w K mg base CX0 2 _ fd22 P_law_draw_source (spR K 2 (F_law_draw_source (csK K)).io) := fn_R FD22 sc_law_draw_source rfl (b_law_draw_source h_law_mix h_law_script_value T) (fun ss Q _ q => wp_law_draw_source (csK K) ss Q q)
  have h_law_draw_source : CalR P w K mg base "_law_draw_source" 2 (F_law_draw_source (csK K)) [] 2 := by
      exact ⟨_, fd22, P_law_draw_source, [], [], ok_law_draw_source, He.glo_ok X G (c.fact 41 (f := .glo "_law_draw_source") rfl), FD22.kp, (FunD.bindsN (ps := P_law_draw_source) FD22 fun _ _ _ _ _ _ us hl => match us, hl with | [_, _], _ => rfl), .nil, fun _ => .nil⟩
  have ok_law_draw : R.FnOk P w K mg base CX0 2 _ fd23 P_law_draw (spR K 2 (F_law_draw (csK K)).io) := fn_R FD23 sc_law_draw rfl (b_law_draw h_law_mix T) (fun ss Q _ q => wp_law_draw (csK K) ss Q q)
  have h_law_draw : CalR P w K mg base "_law_draw" 2 (F_law_draw (csK K)) [] 2 := by
      exact ⟨_, fd23, P_law_draw, [], [], ok_law_draw, He.glo_ok X G (c.fact 42 (f := .glo "_law_draw") rfl), FD23.kp, (FunD.bindsN (ps := P_law_draw) FD23 fun _ _ _ _ _ _ us hl => match us, hl with | [_, _], _ => rfl), .nil, fun _ => .nil⟩
  have ok_law_draw_cups : R.FnOk P w K mg base CX0 3 _ fd24 P_law_draw_cups (spR K 4 (F_law_draw_cups (csK K)).io) := fn_R FD24 sc_law_draw_cups rfl (b_law_draw_cups h_law_draw T) (fun ss Q _ q => wp_law_draw_cups (csK K) ss Q q)
  have h_law_draw_cups : CalR P w K mg base "_law_draw_cups" 4 (F_law_draw_cups (csK K)) [] 3 := by
      exact ⟨_, fd24, P_law_draw_cups, [], [], ok_law_draw_cups, He.glo_ok X G (c.fact 43 (f := .glo "_law_draw_cups") rfl), FD24.kp, (FunD.bindsN (ps := P_law_draw_cups) FD24 fun _ _ _ _ _ _ us hl => match us, hl with | [_, _, _, _], _ => rfl), .nil, fun _ => .nil⟩
  have ok_law_invalid_indices : R.FnOk P w K mg base CX0 3 _ fd27 P_law_invalid_indices (spR K 3 (F_law_invalid_indices (csK K)).io) := fn_R FD27 sc_law_invalid_indices rfl (b_law_invalid_indices h_law_draw T) (fun ss Q _ q => wp_law_invalid_indices (csK K) ss Q q)
  have h_law_invalid_indices : CalR P w K mg base "_law_invalid_indices" 3 (F_law_invalid_indices (csK K)) [] 3 := by
      exact ⟨_, fd27, P_law_invalid_indices, [], [], ok_law_invalid_indices, He.glo_ok X G (c.fact 44 (f := .glo "_law_invalid_indices") rfl), FD27.kp, (FunD.bindsN (ps := P_law_invalid_indices) FD27 fun _ _ _ _ _ _ us hl => match us, hl with | [_, _, _], _ => rfl), .nil, fun _ => .nil⟩
  have ok_law_invalid_sizes : R.FnOk P w K mg base CX0 3 _ fd26 P_law_invalid_sizes (spR K 2 (F_law_invalid_sizes (csK K)).io) := fn_R FD26 sc_law_invalid_sizes rfl (b_law_invalid_sizes h_law_draw T) (fun ss Q _ q => wp_law_invalid_sizes (csK K) ss Q q)
  have h_law_invalid_sizes : CalR P w K mg base "_law_invalid_sizes" 2 (F_law_invalid_sizes (csK K)) [] 3 := by
      exact ⟨_, fd26, P_law_invalid_sizes, [], [], ok_law_invalid_sizes, He.glo_ok X G (c.fact 45 (f := .glo "_law_invalid_sizes") rfl), FD26.kp, (FunD.bindsN (ps := P_law_invalid_sizes) FD26 fun _ _ _ _ _ _ us hl => match us, hl with | [_, _], _ => rfl), .nil, fun _ => .nil⟩
  have ok_G_is_integer : R.FnOk P w K mg base CX0 1 _ fd32 P_G_is_integer (spR K 2 (F_G_is_integer (csK K)).io) := fn_R FD32 sc_G_is_integer rfl (b_G_is_integer  T) (fun ss Q _ q => wp_G_is_integer (csK K) ss Q q)
  have h_G_is_integer_1 : CalR P w K mg base "is_integer" 2 (F_G_is_integer (csK K)) [(.int 0)] 1 := by
      obtain ⟨ds, dv, bb⟩ := FunD.binds1 (ps := P_G_is_integer) FD32 1 0 (by simp [He.DefD.dvs]) rfl fun _ _ _ _ _ _ _ us its hl hi => match us, hl, its, hi with | [_], _, [_], _ => ⟨_, rfl, rfl⟩
      exact ⟨_, fd32, P_G_is_integer, ds, _, ok_G_is_integer, He.glo_ok X G (c.fact 46 (f := .glo "is_integer") rfl), FD32.kp, bb, dv, fun _ => (.cons (.int _) .nil)⟩
  have h_G_is_integer : CalR P w K mg base "is_integer" 2 (F_G_is_integer (csK K)) [] 1 := by
      obtain ⟨ds, dv, bb⟩ := FunD.binds1 (ps := P_G_is_integer) FD32 2 1 (by simp [He.DefD.dvs]) rfl fun _ _ _ _ _ _ _ us its hl hi => match us, hl, its, hi with | [_, _], _, [_], _ => ⟨_, rfl, rfl⟩
      exact ⟨_, fd32, P_G_is_integer, ds, _, ok_G_is_integer, He.glo_ok X G (c.fact 46 (f := .glo "is_integer") rfl), FD32.kp, bb, dv, fun _ => .nil⟩
  have ok_G_are_sizes : R.FnOk P w K mg base CX0 2 _ fd31 P_G_are_sizes (spR K 1 (F_G_are_sizes (csK K)).io) := fn_R FD31 sc_G_are_sizes rfl (b_G_are_sizes h_G_is_integer T) (fun ss Q _ q => wp_G_are_sizes (csK K) ss Q q)
  have h_G_are_sizes : CalR P w K mg base "are_sizes" 1 (F_G_are_sizes (csK K)) [] 2 := by
      exact ⟨_, fd31, P_G_are_sizes, [], [], ok_G_are_sizes, He.glo_ok X G (c.fact 47 (f := .glo "are_sizes") rfl), FD31.kp, (FunD.bindsN (ps := P_G_are_sizes) FD31 fun _ _ _ _ _ _ us hl => match us, hl with | [_], _ => rfl), .nil, fun _ => .nil⟩
  have h_InvalidCups_ini : IniC P w K mg base "InvalidCups" (csK K).InvalidCups "part" 1 := by
      have ix := iniB_ok (exB_ox cX.more (p := ("InvalidCups", "part")) (by decide)).1
      exact ⟨He.glo_ok X G (c.fact 1 (f := .glo "InvalidCups") rfl), ix.1, _, fd2, "self", ix.2.2.1, ix.2.2.2, fn_ini FD2 sc_InvalidCups_init (basB_ok (He.glo_ok X G (c.fact 0 (f := .glo "CupLadderError") rfl)) (exB_ox cX.more (p := ("InvalidCups", "part")) (by decide)).2) ix.1 ix.2.1 (.inl rfl) (.inl rfl) rfl (fun _ => rfl), (FunD.bindsN (ps := P_InvalidCups_init) FD2 fun _ _ _ _ _ _ us hl => match us, hl with | [_, _], _ => rfl)⟩
  have ok_G_are_forward_indices : R.FnOk P w K mg base CX0 2 _ fd30 P_G_are_forward_indices (spR K 2 (F_G_are_forward_indices (csK K)).io) := fn_R FD30 sc_G_are_forward_indices rfl (b_G_are_forward_indices h_G_is_integer_1 T) (fun ss Q _ q => wp_G_are_forward_indices (csK K) ss Q q)
  have h_G_are_forward_indices : CalR P w K mg base "are_forward_indices" 2 (F_G_are_forward_indices (csK K)) [] 2 := by
      exact ⟨_, fd30, P_G_are_forward_indices, [], [], ok_G_are_forward_indices, He.glo_ok X G (c.fact 48 (f := .glo "are_forward_indices") rfl), FD30.kp, (FunD.bindsN (ps := P_G_are_forward_indices) FD30 fun _ _ _ _ _ _ us hl => match us, hl with | [_, _], _ => rfl), .nil, fun _ => .nil⟩
  have ok_is_integer : R.FnOk P w K mg base CX0 1 _ fd3 P_is_integer (spR K 2 (F_is_integer (csK K)).io) := fn_R FD3 sc_is_integer rfl (b_is_integer  T) (fun ss Q _ q => wp_is_integer (csK K) ss Q q)
  have h_is_integer : CalR P w K mg base "is_integer" 2 (F_is_integer (csK K)) [] 1 := by
      obtain ⟨ds, dv, bb⟩ := FunD.binds1 (ps := P_is_integer) FD3 2 1 (by simp [He.DefD.dvs]) rfl fun _ _ _ _ _ _ _ us its hl hi => match us, hl, its, hi with | [_, _], _, [_], _ => ⟨_, rfl, rfl⟩
      exact ⟨_, fd3, P_is_integer, ds, _, ok_is_integer, He.glo_ok X G (c.fact 46 (f := .glo "is_integer") rfl), FD3.kp, bb, dv, fun _ => .nil⟩
  have h_is_integer_1 : CalR P w K mg base "is_integer" 2 (F_is_integer (csK K)) [(.int 0)] 1 := by
      obtain ⟨ds, dv, bb⟩ := FunD.binds1 (ps := P_is_integer) FD3 1 0 (by simp [He.DefD.dvs]) rfl fun _ _ _ _ _ _ _ us its hl hi => match us, hl, its, hi with | [_], _, [_], _ => ⟨_, rfl, rfl⟩
      exact ⟨_, fd3, P_is_integer, ds, _, ok_is_integer, He.glo_ok X G (c.fact 46 (f := .glo "is_integer") rfl), FD3.kp, bb, dv, fun _ => (.cons (.int _) .nil)⟩
  have ok_are_sizes : R.FnOk P w K mg base CX0 2 _ fd4 P_are_sizes (spR K 1 (F_are_sizes (csK K)).io) := fn_R FD4 sc_are_sizes rfl (b_are_sizes h_is_integer T) (fun ss Q _ q => wp_are_sizes (csK K) ss Q q)
  have h_are_sizes : CalR P w K mg base "are_sizes" 1 (F_are_sizes (csK K)) [] 2 := by
      exact ⟨_, fd4, P_are_sizes, [], [], ok_are_sizes, He.glo_ok X G (c.fact 47 (f := .glo "are_sizes") rfl), FD4.kp, (FunD.bindsN (ps := P_are_sizes) FD4 fun _ _ _ _ _ _ us hl => match us, hl with | [_], _ => rfl), .nil, fun _ => .nil⟩
  have ok_are_forward_indices : R.FnOk P w K mg base CX0 2 _ fd5 P_are_forward_indices (spR K 2 (F_are_forward_indices (csK K)).io) := fn_R FD5 sc_are_forward_indices rfl (b_are_forward_indices h_is_integer_1 T) (fun ss Q _ q => wp_are_forward_indices (csK K) ss Q q)
  have h_are_forward_indices : CalR P w K mg base "are_forward_indices" 2 (F_are_forward_indices (csK K)) [] 2 := by
      exact ⟨_, fd5, P_are_forward_indices, [], [], ok_are_forward_indices, He.glo_ok X G (c.fact 48 (f := .glo "are_forward_indices") rfl), FD5.kp, (FunD.bindsN (ps := P_are_forward_indices) FD5 fun _ _ _ _ _ _ us hl => match us, hl with | [_, _], _ => rfl), .nil, fun _ => .nil⟩
  have ok_CupRow_init : R.FnOk P w K mg base CX0 3 _ fd6 P_CupRow_init (spR K 3 (F_CupRow_init (csK K))) := fn_R FD6 sc_CupRow_init rfl (b_CupRow_init h_are_sizes h_are_forward_indices T) (fun ss Q _ q => wp_CupRow_init (csK K) ss Q q)
  have h_CupRow_init_1 : MakR P w K mg base "CupRow" (csK K).CupRow 3 (F_CupRow_init (csK K)) [.non] 3 := by
      obtain ⟨ds, dv, bb⟩ := FunD.binds0 (ps := P_CupRow_init) FD6 2 (by simp [He.DefD.kws]) rfl fun _ _ _ _ _ _ us ks hl hi => match us, hl, ks, hi with | [_, _], _, [_], _ => ⟨_, _, _, _, _, _, rfl, rfl, rfl⟩
      exact ⟨_, fd6, P_CupRow_init, ds, _, He.mkr_ok (c.fact 49 (f := .mkr "CupRow") rfl), ok_CupRow_init, He.glo_ok X G (c.fact 8 (f := .glo "CupRow") rfl), bb, dv, fun _ => (.cons .non .nil)⟩
  have ok_X_CupRow_init : R.FnOk P w K mg base (L2.CX P w) 3 _ fd6 P_X_CupRow_init (spX K (adC (csK K)) 3 (F_X_CupRow_init (csK K))) := fn_or (F1 := (F_E_CupRow_init (csK K))) (F2 := (F_CupRow_init (csK K))) (fn_RX FD6 sc_X_CupRow_init rfl (b_X_CupRow_init h_G_are_sizes h_InvalidCups_ini h_G_are_forward_indices T) (fun ss Q _ q => wp_X_CupRow_init (csK K) ss Q q)) ok_CupRow_init (by decide) (by decide)
  have h_X_CupRow_init_k : MakKX P w K mg base (adC (csK K)) "CupRow" (csK K).CupRow 3 (F_X_CupRow_init (csK K)) 1 ["forward"] 3 := by
      obtain ⟨mv, bb⟩ := FunD.kbinds0 (ps := P_X_CupRow_init) FD6 2 ["forward"] [] (fun us _ ws => us ++ ws) (by simp [He.DefD.kws]) (fun _ m => by cases m) (fun r1 _ r3 => r1.append r3) fun _ _ _ _ _ _ us mv ws hl hm hw => match us, hl, mv, hm, ws, hw with | [_, _], _, [], _, [_], _ => rfl
      exact ⟨_, fd6, P_X_CupRow_init, _, He.mkr_ok (c.fact 49 (f := .mkr "CupRow") rfl), ok_X_CupRow_init, He.glo_ok X G (c.fact 8 (f := .glo "CupRow") rfl), bb⟩
  have h_X_CupRow_init_1 : MakX P w K mg base (adC (csK K)) "CupRow" (csK K).CupRow 3 (F_X_CupRow_init (csK K)) [.non] 3 := by
      obtain ⟨ds, dv, bb⟩ := FunD.binds0 (ps := P_X_CupRow_init) FD6 2 (by simp [He.DefD.kws]) rfl fun _ _ _ _ _ _ us ks hl hi => match us, hl, ks, hi with | [_, _], _, [_], _ => ⟨_, _, _, _, _, _, rfl, rfl, rfl⟩
      exact ⟨_, fd6, P_X_CupRow_init, ds, _, He.mkr_ok (c.fact 49 (f := .mkr "CupRow") rfl), ok_X_CupRow_init, He.glo_ok X G (c.fact 8 (f := .glo "CupRow") rfl), bb, dv, fun _ => (.cons .non .nil)⟩
  have ok_X_require_cups : R.FnOk P w K mg base (L2.CX P w) 3 _ fd40 P_X_require_cups (spX K (adC (csK K)) 1 (F_X_require_cups (csK K)).io) := fn_RX FD40 sc_X_require_cups rfl (b_X_require_cups h_InvalidCups_ini T) (fun ss Q _ q => wp_X_require_cups (csK K) ss Q q)
  have h_X_require_cups : CalX P w K mg base (adC (csK K)) "require_cups" 1 (F_X_require_cups (csK K)) [] 3 := by
      exact ⟨_, fd40, P_X_require_cups, [], [], ok_X_require_cups, He.glo_ok X G (c.fact 50 (f := .glo "require_cups") rfl), FD40.kp, (FunD.bindsN (ps := P_X_require_cups) FD40 fun _ _ _ _ _ _ us hl => match us, hl with | [_], _ => rfl), .nil, fun _ => .nil⟩
  have ok_X_next_state : R.FnOk P w K mg base (L2.CX P w) 4 _ fd37 P_X_next_state (spX K (adC (csK K)) 2 (F_X_next_state (csK K)).io) := fn_RX FD37 sc_X_next_state rfl (b_X_next_state h_X_require_cups T) (fun ss Q _ q => wp_X_next_state (csK K) ss Q q)
  have h_X_next_state : CalX P w K mg base (adC (csK K)) "next_state" 2 (F_X_next_state (csK K)) [] 4 := by
      exact ⟨_, fd37, P_X_next_state, [], [], ok_X_next_state, He.glo_ok X G (c.fact 51 (f := .glo "next_state") rfl), FD37.kp, (FunD.bindsN (ps := P_X_next_state) FD37 fun _ _ _ _ _ _ us hl => match us, hl with | [_, _], _ => rfl), .nil, fun _ => .nil⟩
  have ok_X_counter_value : R.FnOk P w K mg base (L2.CX P w) 4 _ fd35 P_X_counter_value (spX K (adC (csK K)) 2 (F_X_counter_value (csK K)).io) := fn_RX FD35 sc_X_counter_value rfl (b_X_counter_value h_X_require_cups T) (fun ss Q _ q => wp_X_counter_value (csK K) ss Q q)
  have h_X_counter_value : CalX P w K mg base (adC (csK K)) "counter_value" 2 (F_X_counter_value (csK K)) [] 4 := by
      exact ⟨_, fd35, P_X_counter_value, [], [], ok_X_counter_value, He.glo_ok X G (c.fact 52 (f := .glo "counter_value") rfl), FD35.kp, (FunD.bindsN (ps := P_X_counter_value) FD35 fun _ _ _ _ _ _ us hl => match us, hl with | [_, _], _ => rfl), .nil, fun _ => .nil⟩
  have ok_X_state_before : R.FnOk P w K mg base (L2.CX P w) 4 _ fd44 P_X_state_before (spX K (adC (csK K)) 3 (F_X_state_before (csK K)).io) := fn_RX FD44 sc_X_state_before rfl (b_X_state_before h_X_require_cups T) (fun ss Q _ q => wp_X_state_before (csK K) ss Q q)
  have h_X_state_before : CalX P w K mg base (adC (csK K)) "state_before" 3 (F_X_state_before (csK K)) [] 4 := by
      exact ⟨_, fd44, P_X_state_before, [], [], ok_X_state_before, He.glo_ok X G (c.fact 53 (f := .glo "state_before") rfl), FD44.kp, (FunD.bindsN (ps := P_X_state_before) FD44 fun _ _ _ _ _ _ us hl => match us, hl with | [_, _, _], _ => rfl), .nil, fun _ => .nil⟩
  have ok_X_Simulation_init : R.FnOk P w K mg base (L2.CX P w) 4 _ fd33 P_X_Simulation_init (spX K (adC (csK K)) 4 (F_X_Simulation_init (csK K))) := fn_RX FD33 sc_X_Simulation_init rfl (b_X_Simulation_init h_X_require_cups T) (fun ss Q _ q => wp_X_Simulation_init (csK K) ss Q q)
  have h_X_Simulation_init_k : MakKX P w K mg base (adC (csK K)) "Simulation" (csK K).Simulation 4 (F_X_Simulation_init (csK K)) 2 ["events"] 4 := by
      obtain ⟨mv, bb⟩ := FunD.kbinds0 (ps := P_X_Simulation_init) FD33 3 ["events"] [] (fun us _ ws => us ++ ws) (by simp [He.DefD.kws]) (fun _ m => by cases m) (fun r1 _ r3 => r1.append r3) fun _ _ _ _ _ _ us mv ws hl hm hw => match us, hl, mv, hm, ws, hw with | [_, _, _], _, [], _, [_], _ => rfl
      exact ⟨_, fd33, P_X_Simulation_init, _, He.mkr_ok (c.fact 54 (f := .mkr "Simulation") rfl), ok_X_Simulation_init, He.glo_ok X G (c.fact 10 (f := .glo "Simulation") rfl), bb⟩
  have ok_X_block_order : R.FnOk P w K mg base (L2.CX P w) 4 _ fd34 P_X_block_order (spX K (adC (csK K)) 3 (F_X_block_order (csK K)).io) := fn_RX FD34 sc_X_block_order rfl (b_X_block_order h_X_require_cups T) (fun ss Q _ q => wp_X_block_order (csK K) ss Q q)
  have h_X_block_order : CalX P w K mg base (adC (csK K)) "block_order" 3 (F_X_block_order (csK K)) [] 4 := by
      exact ⟨_, fd34, P_X_block_order, [], [], ok_X_block_order, He.glo_ok X G (c.fact 55 (f := .glo "block_order") rfl), FD34.kp, (FunD.bindsN (ps := P_X_block_order) FD34 fun _ _ _ _ _ _ us hl => match us, hl with | [_, _, _], _ => rfl), .nil, fun _ => .nil⟩
  have ok_X_round_order : R.FnOk P w K mg base (L2.CX P w) 4 _ fd42 P_X_round_order (spX K (adC (csK K)) 2 (F_X_round_order (csK K)).io) := fn_RX FD42 sc_X_round_order rfl (b_X_round_order h_X_require_cups T) (fun ss Q _ q => wp_X_round_order (csK K) ss Q q)
  have h_X_round_order : CalX P w K mg base (adC (csK K)) "round_order" 2 (F_X_round_order (csK K)) [] 4 := by
      exact ⟨_, fd42, P_X_round_order, [], [], ok_X_round_order, He.glo_ok X G (c.fact 56 (f := .glo "round_order") rfl), FD42.kp, (FunD.bindsN (ps := P_X_round_order) FD42 fun _ _ _ _ _ _ us hl => match us, hl with | [_, _], _ => rfl), .nil, fun _ => .nil⟩
  have ok_cycles_of : R.FnOk P w K mg base CX0 1 _ fd10 P_cycles_of (spR K 1 (F_cycles_of (csK K)).io) := fn_R FD10 sc_cycles_of rfl (b_cycles_of  T) (fun ss Q _ q => wp_cycles_of (csK K) ss Q q)
  have h_cycles_of : CalR P w K mg base "cycles_of" 1 (F_cycles_of (csK K)) [] 1 := by
      exact ⟨_, fd10, P_cycles_of, [], [], ok_cycles_of, He.glo_ok X G (c.fact 57 (f := .glo "cycles_of") rfl), FD10.kp, (FunD.bindsN (ps := P_cycles_of) FD10 fun _ _ _ _ _ _ us hl => match us, hl with | [_], _ => rfl), .nil, fun _ => .nil⟩
  have ok_require_cups : R.FnOk P w K mg base CX0 1 _ fd9 P_require_cups (spR K 1 (F_require_cups (csK K)).io) := fn_R FD9 sc_require_cups rfl (b_require_cups  T) (fun ss Q _ q => wp_require_cups (csK K) ss Q q)
  have h_require_cups : CalR P w K mg base "require_cups" 1 (F_require_cups (csK K)) [] 1 := by
      exact ⟨_, fd9, P_require_cups, [], [], ok_require_cups, He.glo_ok X G (c.fact 50 (f := .glo "require_cups") rfl), FD9.kp, (FunD.bindsN (ps := P_require_cups) FD9 fun _ _ _ _ _ _ us hl => match us, hl with | [_], _ => rfl), .nil, fun _ => .nil⟩
  have ok_require_count : R.FnOk P w K mg base CX0 2 _ fd15 P_require_count (spR K 2 (F_require_count (csK K)).io) := fn_R FD15 sc_require_count rfl (b_require_count h_is_integer T) (fun ss Q _ q => wp_require_count (csK K) ss Q q)
  have h_require_count : CalR P w K mg base "require_count" 2 (F_require_count (csK K)) [] 2 := by
      exact ⟨_, fd15, P_require_count, [], [], ok_require_count, He.glo_ok X G (c.fact 58 (f := .glo "require_count") rfl), FD15.kp, (FunD.bindsN (ps := P_require_count) FD15 fun _ _ _ _ _ _ us hl => match us, hl with | [_, _], _ => rfl), .nil, fun _ => .nil⟩
  have ok_CupRow_min_members : R.FnOk P w K mg base CX0 1 _ fd8 P_CupRow_min_members (spR K 1 (F_CupRow_min_members (csK K)).io) := fn_R FD8 sc_CupRow_min_members rfl (b_CupRow_min_members  T) (fun ss Q _ q => wp_CupRow_min_members (csK K) ss Q q)
  have h_CupRow_min_members : MetR P w K mg base (csK K).CupRow "min_members" 1 (F_CupRow_min_members (csK K)) [] 1 := by
      exact ⟨_, fd8, P_CupRow_min_members, [], [], T.k_CupRow, He.meth_ok (c.fact 59 (f := .meth "CupRow" "min_members") rfl), ok_CupRow_min_members, (FunD.bindsN (ps := P_CupRow_min_members) FD8 fun _ _ _ _ _ _ us hl => match us, hl with | [_], _ => rfl), .nil, fun _ => .nil⟩
  have hrec := fun b => rec_ok (P := P) (w := w) (base := base) T FD12 FD13 (He.meth_ok (c.fact 60 (f := .meth "Blocks" "entering") rfl)) (He.meth_ok (c.fact 61 (f := .meth "Blocks" "filling") rfl)) (FunD.bindsN (ps := P_Blocks_entering) FD12 fun _ _ _ _ _ _ us hl => match us, hl with | [_, _, _], _ => rfl) (FunD.bindsN (ps := P_Blocks_filling) FD13 fun _ _ _ _ _ _ us hl => match us, hl with | [_, _, _], _ => rfl) b
  have h_Blocks_filling : MetR P w K mg base (csK K).Blocks "filling" 3 (F_Blocks_filling (csK K) 30) [] 60 := (hrec 30).2
  have ok_Blocks_whole_round : R.FnOk P w K mg base CX0 61 _ fd14 P_Blocks_whole_round (spR K 2 (F_Blocks_whole_round (csK K)).io) := fn_R FD14 sc_Blocks_whole_round rfl (b_Blocks_whole_round h_Blocks_filling T) (fun ss Q _ q => wp_Blocks_whole_round (csK K) ss Q q)
  have h_Blocks_whole_round : MetR P w K mg base (csK K).Blocks "whole_round" 2 (F_Blocks_whole_round (csK K)) [] 61 := by
      exact ⟨_, fd14, P_Blocks_whole_round, [], [], T.k_Blocks, He.meth_ok (c.fact 62 (f := .meth "Blocks" "whole_round") rfl), ok_Blocks_whole_round, (FunD.bindsN (ps := P_Blocks_whole_round) FD14 fun _ _ _ _ _ _ us hl => match us, hl with | [_, _], _ => rfl), .nil, fun _ => .nil⟩
  have ok_Blocks_init : R.FnOk P w K mg base CX0 1 _ fd11 P_Blocks_init (spR K 2 (F_Blocks_init (csK K))) := fn_R FD11 sc_Blocks_init rfl (b_Blocks_init  T) (fun ss Q _ q => wp_Blocks_init (csK K) ss Q q)
  have h_Blocks_init : MakR P w K mg base "Blocks" (csK K).Blocks 2 (F_Blocks_init (csK K)) [] 1 := by
      exact ⟨_, fd11, P_Blocks_init, [], [], He.mkr_ok (c.fact 63 (f := .mkr "Blocks") rfl), ok_Blocks_init, He.glo_ok X G (c.fact 9 (f := .glo "Blocks") rfl), (FunD.bindsN (ps := P_Blocks_init) FD11 fun _ _ _ _ _ _ us hl => match us, hl with | [_, _], _ => rfl), .nil, fun _ => .nil⟩
  have ok_round_order : R.FnOk P w K mg base CX0 62 _ fd16 P_round_order (spR K 2 (F_round_order (csK K)).io) := fn_R FD16 sc_round_order rfl (b_round_order h_require_cups h_require_count h_CupRow_min_members h_Blocks_whole_round h_Blocks_init T) (fun ss Q _ q => wp_round_order (csK K) ss Q q)
  have h_round_order : CalR P w K mg base "round_order" 2 (F_round_order (csK K)) [] 62 := by
      exact ⟨_, fd16, P_round_order, [], [], ok_round_order, He.glo_ok X G (c.fact 56 (f := .glo "round_order") rfl), FD16.kp, (FunD.bindsN (ps := P_round_order) FD16 fun _ _ _ _ _ _ us hl => match us, hl with | [_, _], _ => rfl), .nil, fun _ => .nil⟩
  have ok_X_round_cycles : R.FnOk P w K mg base (L2.CX P w) 63 _ fd41 P_X_round_cycles (spX K (adC (csK K)) 2 (F_X_round_cycles (csK K)).io) := fn_RX FD41 sc_X_round_cycles rfl (b_X_round_cycles h_cycles_of h_round_order h_X_round_order T) (fun ss Q _ q => wp_X_round_cycles (csK K) ss Q q)
  have h_X_round_cycles : CalX P w K mg base (adC (csK K)) "round_cycles" 2 (F_X_round_cycles (csK K)) [] 63 := by
      exact ⟨_, fd41, P_X_round_cycles, [], [], ok_X_round_cycles, He.glo_ok X G (c.fact 64 (f := .glo "round_cycles") rfl), FD41.kp, (FunD.bindsN (ps := P_X_round_cycles) FD41 fun _ _ _ _ _ _ us hl => match us, hl with | [_, _], _ => rfl), .nil, fun _ => .nil⟩
  have ok_common_divisor : R.FnOk P w K mg base CX0 1 _ fd0 P_common_divisor (spR K 2 (F_common_divisor (csK K)).io) := fn_R FD0 sc_common_divisor rfl (b_common_divisor  T) (fun ss Q _ q => wp_common_divisor (csK K) ss Q q)
  have h_common_divisor : CalR P w K mg base "common_divisor" 2 (F_common_divisor (csK K)) [] 1 := by
      exact ⟨_, fd0, P_common_divisor, [], [], ok_common_divisor, He.glo_ok X G (c.fact 65 (f := .glo "common_divisor") rfl), FD0.kp, (FunD.bindsN (ps := P_common_divisor) FD0 fun _ _ _ _ _ _ us hl => match us, hl with | [_, _], _ => rfl), .nil, fun _ => .nil⟩
  have ok_common_multiple : R.FnOk P w K mg base CX0 2 _ fd1 P_common_multiple (spR K 1 (F_common_multiple (csK K)).io) := fn_R FD1 sc_common_multiple rfl (b_common_multiple h_common_divisor T) (fun ss Q _ q => wp_common_multiple (csK K) ss Q q)
  have h_common_multiple : CalR P w K mg base "common_multiple" 1 (F_common_multiple (csK K)) [] 2 := by
      exact ⟨_, fd1, P_common_multiple, [], [], ok_common_multiple, He.glo_ok X G (c.fact 66 (f := .glo "common_multiple") rfl), FD1.kp, (FunD.bindsN (ps := P_common_multiple) FD1 fun _ _ _ _ _ _ us hl => match us, hl with | [_], _ => rfl), .nil, fun _ => .nil⟩
  have ok_round_cycles : R.FnOk P w K mg base CX0 63 _ fd17 P_round_cycles (spR K 2 (F_round_cycles (csK K)).io) := fn_R FD17 sc_round_cycles rfl (b_round_cycles h_cycles_of h_round_order T) (fun ss Q _ q => wp_round_cycles (csK K) ss Q q)
  have h_round_cycles : CalR P w K mg base "round_cycles" 2 (F_round_cycles (csK K)) [] 63 := by
      exact ⟨_, fd17, P_round_cycles, [], [], ok_round_cycles, He.glo_ok X G (c.fact 64 (f := .glo "round_cycles") rfl), FD17.kp, (FunD.bindsN (ps := P_round_cycles) FD17 fun _ _ _ _ _ _ us hl => match us, hl with | [_, _], _ => rfl), .nil, fun _ => .nil⟩
  have ok_CupRow_round_length : R.FnOk P w K mg base CX0 1 _ fd7 P_CupRow_round_length (spR K 1 (F_CupRow_round_length (csK K)).io) := fn_R FD7 sc_CupRow_round_length rfl (b_CupRow_round_length  T) (fun ss Q _ q => wp_CupRow_round_length (csK K) ss Q q)
  have h_CupRow_round_length : MetR P w K mg base (csK K).CupRow "round_length" 1 (F_CupRow_round_length (csK K)) [] 1 := by
      exact ⟨_, fd7, P_CupRow_round_length, [], [], T.k_CupRow, He.meth_ok (c.fact 67 (f := .meth "CupRow" "round_length") rfl), ok_CupRow_round_length, (FunD.bindsN (ps := P_CupRow_round_length) FD7 fun _ _ _ _ _ _ us hl => match us, hl with | [_], _ => rfl), .nil, fun _ => .nil⟩
  have ok_X_period : R.FnOk P w K mg base (L2.CX P w) 64 _ fd39 P_X_period (spX K (adC (csK K)) 2 (F_X_period (csK K)).io) := fn_RX FD39 sc_X_period rfl (b_X_period h_common_multiple h_round_cycles h_CupRow_round_length h_X_round_cycles T) (fun ss Q _ q => wp_X_period (csK K) ss Q q)
  have h_X_period : CalX P w K mg base (adC (csK K)) "period" 2 (F_X_period (csK K)) [] 64 := by
      exact ⟨_, fd39, P_X_period, [], [], ok_X_period, He.glo_ok X G (c.fact 68 (f := .glo "period") rfl), FD39.kp, (FunD.bindsN (ps := P_X_period) FD39 fun _ _ _ _ _ _ us hl => match us, hl with | [_, _], _ => rfl), .nil, fun _ => .nil⟩
  have ok_X_state_count : R.FnOk P w K mg base (L2.CX P w) 4 _ fd45 P_X_state_count (spX K (adC (csK K)) 2 (F_X_state_count (csK K)).io) := fn_RX FD45 sc_X_state_count rfl (b_X_state_count h_X_require_cups T) (fun ss Q _ q => wp_X_state_count (csK K) ss Q q)
  have h_X_state_count : CalX P w K mg base (adC (csK K)) "state_count" 2 (F_X_state_count (csK K)) [] 4 := by
      exact ⟨_, fd45, P_X_state_count, [], [], ok_X_state_count, He.glo_ok X G (c.fact 69 (f := .glo "state_count") rfl), FD45.kp, (FunD.bindsN (ps := P_X_state_count) FD45 fun _ _ _ _ _ _ us hl => match us, hl with | [_, _], _ => rfl), .nil, fun _ => .nil⟩
  have ok_state_count : R.FnOk P w K mg base CX0 3 _ fd19 P_state_count (spR K 2 (F_state_count (csK K)).io) := fn_R FD19 sc_state_count rfl (b_state_count h_require_cups h_require_count h_CupRow_min_members h_CupRow_round_length T) (fun ss Q _ q => wp_state_count (csK K) ss Q q)
  have h_state_count : CalR P w K mg base "state_count" 2 (F_state_count (csK K)) [] 3 := by
      exact ⟨_, fd19, P_state_count, [], [], ok_state_count, He.glo_ok X G (c.fact 69 (f := .glo "state_count") rfl), FD19.kp, (FunD.bindsN (ps := P_state_count) FD19 fun _ _ _ _ _ _ us hl => match us, hl with | [_, _], _ => rfl), .nil, fun _ => .nil⟩
  have ok_period : R.FnOk P w K mg base CX0 64 _ fd18 P_period (spR K 2 (F_period (csK K)).io) := fn_R FD18 sc_period rfl (b_period h_common_multiple h_round_cycles h_CupRow_round_length T) (fun ss Q _ q => wp_period (csK K) ss Q q)
  have h_period : CalR P w K mg base "period" 2 (F_period (csK K)) [] 64 := by
      exact ⟨_, fd18, P_period, [], [], ok_period, He.glo_ok X G (c.fact 68 (f := .glo "period") rfl), FD18.kp, (FunD.bindsN (ps := P_period) FD18 fun _ _ _ _ _ _ us hl => match us, hl with | [_, _], _ => rfl), .nil, fun _ => .nil⟩
  have ok_X_orbit_count : R.FnOk P w K mg base (L2.CX P w) 65 _ fd38 P_X_orbit_count (spX K (adC (csK K)) 2 (F_X_orbit_count (csK K)).io) := fn_RX FD38 sc_X_orbit_count rfl (b_X_orbit_count h_state_count h_period h_X_state_count T) (fun ss Q _ q => wp_X_orbit_count (csK K) ss Q q)
  have h_X_orbit_count : CalX P w K mg base (adC (csK K)) "orbit_count" 2 (F_X_orbit_count (csK K)) [] 65 := by
      exact ⟨_, fd38, P_X_orbit_count, [], [], ok_X_orbit_count, He.glo_ok X G (c.fact 70 (f := .glo "orbit_count") rfl), FD38.kp, (FunD.bindsN (ps := P_X_orbit_count) FD38 fun _ _ _ _ _ _ us hl => match us, hl with | [_, _], _ => rfl), .nil, fun _ => .nil⟩
  have ok_X_simplify : R.FnOk P w K mg base (L2.CX P w) 4 _ fd43 P_X_simplify (spX K (adC (csK K)) 1 (F_X_simplify (csK K)).io) := fn_RX FD43 sc_X_simplify rfl (b_X_simplify h_X_require_cups T) (fun ss Q _ q => wp_X_simplify (csK K) ss Q q)
  have h_X_simplify : CalX P w K mg base (adC (csK K)) "simplify" 1 (F_X_simplify (csK K)) [] 4 := by
      exact ⟨_, fd43, P_X_simplify, [], [], ok_X_simplify, He.glo_ok X G (c.fact 71 (f := .glo "simplify") rfl), FD43.kp, (FunD.bindsN (ps := P_X_simplify) FD43 fun _ _ _ _ _ _ us hl => match us, hl with | [_], _ => rfl), .nil, fun _ => .nil⟩
  have ok_X_first_difference : R.FnOk P w K mg base (L2.CX P w) 4 _ fd36 P_X_first_difference (spX K (adC (csK K)) 3 (F_X_first_difference (csK K)).io) := fn_RX FD36 sc_X_first_difference rfl (b_X_first_difference h_X_require_cups T) (fun ss Q _ q => wp_X_first_difference (csK K) ss Q q)
  have h_X_first_difference : CalX P w K mg base (adC (csK K)) "first_difference" 3 (F_X_first_difference (csK K)) [] 4 := by
      exact ⟨_, fd36, P_X_first_difference, [], [], ok_X_first_difference, He.glo_ok X G (c.fact 72 (f := .glo "first_difference") rfl), FD36.kp, (FunD.bindsN (ps := P_X_first_difference) FD36 fun _ _ _ _ _ _ us hl => match us, hl with | [_, _, _], _ => rfl), .nil, fun _ => .nil⟩
  have ok_law_outcomes : R.FnOk P w K mg base CX0 68 _ fd28 P_law_outcomes (spR K 1 (F_law_outcomes (csK K)).io) := fn_RL FD28 sc_law_outcomes rfl (b_law_outcomes h_X_next_state h_X_counter_value h_X_state_before h_X_Simulation_init_k h_X_block_order h_X_round_order h_X_round_cycles h_X_period h_X_state_count h_X_orbit_count h_X_simplify h_X_first_difference h_CupRow_init_1 h_law_outcome (maker_ok (p := ("_law_outcomes", none)) (hTB _ (List.mem_map.mpr ⟨_, (by decide +kernel), rfl⟩)) (exB_lk cX.more (p := ("_law_outcomes", none)) (by decide +kernel))) T) (fun ss Q _ q => wp_law_outcomes (csK K) ss Q q)
  have h_law_outcomes : CalR P w K mg base "_law_outcomes" 1 (F_law_outcomes (csK K)) [] 68 := by
      exact ⟨_, fd28, P_law_outcomes, [], [], ok_law_outcomes, He.glo_ok X G (c.fact 73 (f := .glo "_law_outcomes") rfl), FD28.kp, (FunD.bindsN (ps := P_law_outcomes) FD28 fun _ _ _ _ _ _ us hl => match us, hl with | [_], _ => rfl), .nil, fun _ => .nil⟩
  have ok_law : R.FnOk P w K mg base CX0 69 _ fd29 P_law (spR K 1 (F_law (csK K)).io) := fn_RL FD29 sc_law rfl (b_law h_law_draw_source h_law_draw_cups h_law_invalid_indices h_law_invalid_sizes h_X_CupRow_init_k h_X_CupRow_init_1 h_law_draw h_law_outcomes h_law_outcome (maker_ok (p := ("law", none)) (hTB _ (List.mem_map.mpr ⟨_, (by decide +kernel), rfl⟩)) (exB_lk cX.more (p := ("law", none)) (by decide +kernel))) T) (fun ss Q _ q => wp_law (csK K) ss Q q)
  exact ok_law
end Cl
open PySem PySem.W PySem.Calls PyProof.Rows
theorem PySem.Challenge.cw_cupladder_k02_invalid_cup_rows_holds : PySem.Challenge.rw_cupladder_k02_invalid_cup_rows.Holds := by
  w_on; o_law
  refine HandSHeadRun.head_any (r := OpenLaw.row PySem.Challenge.rw_cupladder_k02_invalid_cup_rows) (q := view (OpenLaw.row PySem.Challenge.rw_cupladder_k02_invalid_cup_rows).prog [75]) (H := Cl.hk) (ob := Cl.ob) (M := 9000) (loose := Cl.names) (d := HandSHeadRun.topDef (OpenLaw.row PySem.Challenge.rw_cupladder_k02_invalid_cup_rows).prog 75) (kwd := []) Cl.ob_eq
    (by kernel_rfl) (fun s => by kernel_rfl) Cl.run (by kernel_rfl) (by kernel_rfl) (by kernel_rfl) (by rfl) (by first | assumption | decide +kernel) (by decide +kernel) ⟨rfl, rfl, rfl, rfl, rfl, by decide +kernel⟩ ?hw ?hc
  case hw => w_witness2
  case hc =>
    refine R.walk_ofG (l := PySem.Challenge.rw_cupladder_k02_invalid_cup_rows) (n := 63) (k := 69) (x := "_law_script") (CX := fun _ => L2.CX0) rfl (by decide) (by kernel_rfl) ⟨⟨rfl, by decide, by decide⟩, rfl⟩ ?F (fun _ _ _ _ _ z => z)
    intro w mg fa h Y G hmg0
    obtain ⟨K, KX, cX⟩ := Y
    have hmg : mg ("law" : PySem.Str) = some (.ref fa) := by
      have e : (HandSHeadRun.topDef (OpenLaw.row PySem.Challenge.rw_cupladder_k02_invalid_cup_rows).prog 75).name = ("law" : PySem.Str) := by kernel_rfl
      rw [← e]
      exact hmg0
    obtain ⟨cs, fd, hb, hF⟩ := Cl.facts (P := (PySem.Challenge.rw_cupladder_k02_invalid_cup_rows).prog) (w := w) KX G hmg cX
    exact ⟨K, fd, R.spR K 1 (Cl.F_law cs).io, Cl.tf.map (He.cT K), KX, fun b => R.tabs_at KX cX b, hb, fun H a ns hl hO hS => R.sp_end (fun P q e => by obtain ⟨p, hp, rfl⟩ := R.exB_tab cX.more e; exact hO p hp) hS fun Q q => ⟨ns, rfl, hl, q⟩, hF⟩


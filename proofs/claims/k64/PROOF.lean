import PyProof.Rows.All
import Wide.All
import OpenK.AllK
import Wide.FinOn
import PySem.Challenge.RW_cupladder_k64_error_classes
import KE.KStateDown
import Lean
import HandS.ForMost
import HandS.WordsExc
import HandS.Defaults
import HandS.IsInst
import HandS.Wide
import HandS.DictTup
import HandS.Zip
import HandS.Set
import HandS.Strs
import HandS.OwnEq
import HandS.MakeKw
import HandS.Flow
import HandS.Flt
import HandS.Conv
import HandS.MakeKwOnly
import HandS.WordsDict
import KE.KTupSum
import KE.KDictZip
import HandS.Head0
import HandS.Head1
import HandS.Head2
import HandS.HeadEnd
import HandS.HeadHook1
import HandS.HeadHook2
import HandS.Style
import HandS.RaiseMore
import HandS.Iter
import KE.GoesEnum
import HandS.Remove
import HandS.SortKw
import HandS.TupAny
import HandS.NoneIn
import HandS.SetKeys
import KE.DataMinMax
import HandS.More
import HandS.Lambda
import HandS.EndTab
import HandS.HeadHook3
import HandS.HeadHook4
import HandS.ExcIs
import HandS.TryOnly
import KE.KSortKeySt
import HandS.ExcInit
import HandS.ExcField
import KE.SortData
import HandS.ExcValue
set_option Elab.async false
set_option linter.all false
set_option maxRecDepth 100000
set_option maxHeartbeats 4000000
namespace R
open PySem PySem.Spec PyProof.Rows L2
def lamMakers : List Str := ["_law_outcomes", "law", "_law_check_steps", "_law_check", "_law_check_errors", "_law_latest_first", "_law_right", "_law_simulations_checked", "_law_queues_checked", "_law_names_right", "_law_events_right"]
def tabEntry (K : PySem.W.Frag) : Addr × Obj → Option (Addr × Str)
  | (_, ⟨_, _, .fields vs, _⟩) => match (vs[1]? : Option Value), vs.getD 11 .none with
    | some (.str q _), .ref P => if lamMakers.contains q && (K.lookup P).isNone then some (P, q ++ ".<locals>." ++ "<lambda>") else none
    | _, _ => none
  | _ => none
def lamTab (K : PySem.W.Frag) : List (Addr × Str) := K.filterMap (tabEntry K)
def tyNs : List String := ["NoneType", "bool", "int", "str", "list", "tuple", "dict"]
def isB (K : PySem.W.Frag) (x : Str) : Bool := He.eqO (PySem.W.findIn K (.ref (He.ga K x)) "__class__") (some (some (.builtin "object.__class__"))) && (He.eqO (PySem.W.specialIn K (.builtin "object.__class__") "__get__") (some (some (.builtin "getset_descriptor.__get__"))) &&
  (decide (PySem.W.takesIn K (.builtin "object.__class__") = some true) && (decide (PySem.W.mroIn K (He.ga K x) (.type "object") = some true) && (He.eqO (PySem.W.findIn K (.ref (He.ga K x)) "__ne__") (some (some (.builtin "object.__ne__"))) &&
  tyNs.all fun t => decide (PySem.W.kitOne K (.type t) (.ref (He.ga K x)) = some false) && decide (PySem.W.subIn K (.type t) (.ref (He.ga K x)) = some false)))))
def errB (K : PySem.W.Frag) (D : Addr) : Bool := He.eqO (PySem.W.findIn K (.ref D) "__getattribute__") (some (some (.builtin "BaseException.__getattribute__"))) && (He.eqO (PySem.W.findIn K (.ref D) "__getattr__") (some none) && (decide (PySem.W.subIn K (.ref D) (.type "BaseException") = some true) && (PySem.W.hasDictIn K D &&
  (He.eqO (PySem.W.findIn K (.ref D) "__class__") (some (some (.builtin "object.__class__"))) && (He.eqO (PySem.W.specialIn K (.builtin "object.__class__") "__get__") (some (some (.builtin "getset_descriptor.__get__"))) && (decide (PySem.W.takesIn K (.builtin "object.__class__") = some true) && decide (PySem.W.mroIn K D (.type "object") = some true)))))))
def fldOf : Nat → Option (Str × Str)
  | 7 => some ("part", "cups")
  | 8 => some ("part", "sizes")
  | 9 => some ("part", "forward")
  | 10 => some ("what", "cups")
  | 11 => some ("what", "members")
  | _ => none
def clsK (k : Nat) : Nat := if k = 7 ∨ k = 8 ∨ k = 9 then 0 else if k = 10 ∨ k = 11 then 6 else k
def errIB (K : PySem.W.Frag) (ad : Nat → Addr) (n k : Nat) : Bool := errB K (ad k) && (((List.range n).all (fun j => decide (PySem.W.kitOne K (.ref (ad k)) (.ref (ad j)) = some (clsK k == j))) && decide (PySem.W.kitOne K (.ref (ad k)) (.type "ValueError") = some true)) && (match fldOf k with
  | some p => He.eqO (PySem.W.findIn K (.ref (ad k)) p.1) (some none)
  | none => true))
def iniB (K : PySem.W.Frag) (C : Addr) (f : Str) : Bool := (match K.lookup C with
  | some ⟨.type "type", _, .cls cd, sl⟩ => (match cd.mro, sl.toList with
    | .ref C2 :: bm, [_, _, _, _, some (.builtin n), _] => C2 == C && (n == "ValueError.__new__" && (!cd.hasDel && (cd.hasDict && PySem.HandSPX.refsVE bm)))
    | _, _ => false)
  | _ => false) && (He.eqO (PySem.W.findIn K (.ref C) "__setattr__") (some (some (.builtin "object.__setattr__"))) && (decide (PySem.W.subIn K (.ref C) (.type "BaseException") = some true) && (decide (PySem.W.typeIn K (.ref C) = some (.type "type")) && (PySem.W.keepIn K (.ref C) && (He.eqO (PySem.W.findIn K (.ref C) f) (some none) &&
  (He.eqO (PySem.W.findIn K (.ref C) "__init__") (some (some (.ref (He.ma K C "__init__")))) && decide (PySem.W.typeIn K (.ref (He.ma K C "__init__")) = some (.type "function"))))))))
def basB (K : PySem.W.Frag) (D : Addr) : Bool := PySem.W.keepIn K (.ref D) && (He.eqO (PySem.W.specialIn K (.ref D) "__getattribute__") (some (some (.builtin "type.__getattribute__"))) && (PySem.W.readsIn K D (.type "type") && (match PySem.W.findCls K (.ref D) (.type "type") "__init__" with
  | some (.val (.builtin n)) => n == "ValueError.__init__"
  | _ => false)))
def exB (is es : List Str) (ks : List Nat) (tf : List He.Defn) (ox : List (Str × Str)) (K : PySem.W.Frag) : Bool := is.all (isB K) && (ks.all (errIB K (fun k => He.ga K (es.getD k "")) 7) && ((lamTab K).all (fun e => tf.any fun p => (He.cT K p).2 == e.1) && ((tf.all fun p => decide ((lamTab K).lookup (He.cT K p).2 = some ((p.1 ++ ".<locals>.") ++ "<lambda>"))) && ox.all fun p => iniB K (He.ga K p.1) p.2 && basB K (He.ga K "CupLadderError"))))
end R
namespace R
open PySem PySem.Spec PyProof.Rows L2
def asY (g : Addr → Option Obj) (n : Nat) : List Addr := He.asD g n ++ [PySem.cStatics]
def obsY (n : Nat) (fa : List He.Fa) (fn : List He.DefD) (ts : List He.Tab) (tf : List He.Defn) (ex : PySem.W.Frag → Bool) (g : Addr → Option Obj) : He.AlX := (He.obsT fa fn ts (He.frT g (asY g n)), ex (He.frT g (asY g n)) && He.tabsB g tf (He.frT g (asY g n)))
theorem saysY_of {n : Nat} {fa : List He.Fa} {fn : List He.DefD} {ts : List He.Tab} {tf : List He.Defn} {ex : PySem.W.Frag → Bool} {w : World} {h : Heap} (e : obsY n fa fn ts tf ex h.get? = He.valX fn ts w) : He.SaysX fa fn ts tf ex w h (He.frT h.get? (asY h.get? n)) := by
  obtain ⟨e1, e2⟩ := Prod.mk.inj e
  obtain ⟨h1, h2⟩ := Bool.and_eq_true_iff.mp e2
  have tab : ∀ p ∈ tf, PySem.W.codeHdIn (He.frT h.get? (asY h.get? n)) (He.cT (He.frT h.get? (asY h.get? n)) p).1 (He.cT (He.frT h.get? (asY h.get? n)) p).2 = true ∧ ∃ o, h.get? (He.cT (He.frT h.get? (asY h.get? n)) p).2 = some o ∧ He.emptyTab o = true := fun p m => by
    obtain ⟨a, b⟩ := Bool.and_eq_true_iff.mp (List.all_eq_true.mp h2 p m)
    refine ⟨a, ?_⟩
    split at b
    · exact ⟨_, by assumption, b⟩
    · cases b
  refine ⟨e1, h1, fun p m => (tab p m).1, fun p m => ?_, fun p m => ?_⟩
  · obtain ⟨_, o, q, z⟩ := tab p m
    exact He.frT_none q z
  · obtain ⟨_, o, q, z⟩ := tab p m
    rw [q, He.emptyTab_eq z]
def hookY (n : Nat) (fa : List He.Fa) (fn : List He.DefD) (ts : List He.Tab) (tf : List He.Defn) (ex : PySem.W.Frag → Bool) : PySem.W.Hook where
  α := He.AlX
  obs := fun s => obsY n fa fn ts tf ex s.heap.get?
  val := fun w => He.valX fn ts w
  says := fun w h => ∃ K : PySem.W.Frag, K.In h ∧ He.SaysX fa fn ts tf ex w h K
  of := fun _ _ e => ⟨_, He.frT_in, saysY_of e⟩
  keeps := fun _ _ _ ⟨K, hK, c⟩ k => ⟨K, PySem.W.Frag.In.keeps hK k, ⟨c.t, c.more, c.hd, c.out, fun p hp => k _ _ (c.empty p hp)⟩⟩
theorem obsY_eq {n : Nat} {fa : List He.Fa} {fn : List He.DefD} {ts : List He.Tab} {tf : List He.Defn} {ex : PySem.W.Frag → Bool} {g : Addr → Option Obj} {s : Shared} (h : ∀ a, g a = s.heap.get? a) : obsY n fa fn ts tf ex g = (hookY n fa fn ts tf ex).obs s := by
  have e : g = s.heap.get? := funext h
  rw [e] <;> rfl
end R
section
namespace Cl
open PySem PySem.Spec PyProof.Rows L2 R
def topS (i : Nat) : Stmt := PySem.Challenge.pw_cupladder_k64_error_classes.main.body.getD i (.Pass ⟨0, 0, 0, 0⟩)
abbrev s_InvalidCups_init : Stmt := inClass (topS 2) 0
abbrev s_Incomparable_init : Stmt := inClass (topS 8) 0
abbrev s_law_cell_at : Stmt := topS 10
abbrev s_law_mixed : Stmt := topS 11
abbrev s_law_source : Stmt := topS 12
abbrev s_law_draw : Stmt := topS 13
abbrev s_law_pick : Stmt := topS 14
abbrev s_law_marks : Stmt := topS 15
abbrev s_law_has_bases : Stmt := topS 16
abbrev s_law : Stmt := topS 17
section
variable {P : Program} {w : World} {K : PySem.W.Frag} {mg : PySem.Str → Option Value} {base : Heap} {f : Addr} {cs : Cs}


end
abbrev dD_InvalidCups_init : He.DefD := ⟨("InvalidCups", some "__init__"), "__init__", "InvalidCups.__init__", defArgs s_InvalidCups_init, defBody s_InvalidCups_init, defScope s_InvalidCups_init, [], []⟩
abbrev dD_Incomparable_init : He.DefD := ⟨("Incomparable", some "__init__"), "__init__", "Incomparable.__init__", defArgs s_Incomparable_init, defBody s_Incomparable_init, defScope s_Incomparable_init, [], []⟩
abbrev dD_law_cell_at : He.DefD := ⟨("_law_cell_at", none), "_law_cell_at", "_law_cell_at", defArgs s_law_cell_at, defBody s_law_cell_at, defScope s_law_cell_at, [], []⟩
abbrev dD_law_mixed : He.DefD := ⟨("_law_mixed", none), "_law_mixed", "_law_mixed", defArgs s_law_mixed, defBody s_law_mixed, defScope s_law_mixed, [], []⟩
abbrev dD_law_source : He.DefD := ⟨("_law_source", none), "_law_source", "_law_source", defArgs s_law_source, defBody s_law_source, defScope s_law_source, [], []⟩
abbrev dD_law_draw : He.DefD := ⟨("_law_draw", none), "_law_draw", "_law_draw", defArgs s_law_draw, defBody s_law_draw, defScope s_law_draw, [], []⟩
abbrev dD_law_pick : He.DefD := ⟨("_law_pick", none), "_law_pick", "_law_pick", defArgs s_law_pick, defBody s_law_pick, defScope s_law_pick, [], []⟩
abbrev dD_law_marks : He.DefD := ⟨("_law_marks", none), "_law_marks", "_law_marks", defArgs s_law_marks, defBody s_law_marks, defScope s_law_marks, [], []⟩
abbrev dD_law_has_bases : He.DefD := ⟨("_law_has_bases", none), "_law_has_bases", "_law_has_bases", defArgs s_law_has_bases, defBody s_law_has_bases, defScope s_law_has_bases, [], []⟩
abbrev dD_law : He.DefD := ⟨("law", none), "law", "law", defArgs s_law, defBody s_law, defScope s_law, [], []⟩
def fn : List He.DefD := [dD_InvalidCups_init, dD_Incomparable_init, dD_law_cell_at, dD_law_mixed, dD_law_source, dD_law_draw, dD_law_pick, dD_law_marks, dD_law_has_bases, dD_law]
def fa : List He.Fa := [.glo "CupLadderError", .glo "InvalidCups", .glo "InvalidState", .glo "InvalidStep", .glo "InvalidEvents", .glo "InvalidMember", .glo "InvalidCup", .glo "Incomparable", .free "ValueError", .free "enumerate", .free "int", .free "isinstance", .free "len", .free "max", .free "min", .free "range", .exc "InvalidCup", .exc "InvalidEvents", .exc "InvalidMember", .exc "InvalidState", .exc "InvalidStep", .glo "_law_mixed", .glo "_law_cell_at", .glo "_law_source", .glo "_law_draw", .glo "_law_pick", .glo "_law_marks", .glo "_law_has_bases", .glo "law"]
def names0 : List PySem.Str := ["CupLadderError", "InvalidCups", "InvalidState", "InvalidStep", "InvalidEvents", "InvalidMember", "InvalidCup", "Incomparable", "_law_cell_at", "_law_mixed", "_law_source", "_law_draw", "_law_pick", "_law_marks", "_law_has_bases"]
def names : List PySem.Str := names0
def isl : List PySem.Str := []
abbrev rowR : PySem.W.OpenRow := PySem.W.OpenLaw.row PySem.Challenge.rw_cupladder_k64_error_classes
def esl : List PySem.Str := ["InvalidCups", "InvalidState", "InvalidStep", "InvalidEvents", "InvalidMember", "InvalidCup", "Incomparable", "InvalidCups", "InvalidCups", "InvalidCups", "Incomparable", "Incomparable"]
def oxl : List (PySem.Str × PySem.Str) := [("InvalidCups", "part"), ("Incomparable", "what")]
def ksl : List Nat := [0, 1, 2, 3, 4, 5, 6]
def tf : List He.Defn := [("law", none)]
def moreB (K : PySem.W.Frag) : Bool := R.exB isl esl ksl tf oxl K && esl.all fun p => decide (PySem.W.kitOne K (.ref (He.ga K p)) (.ref (He.ga K "CupLadderError")) = some true)
abbrev hk : PySem.W.Hook := R.hookY 5 fa fn [] tf moreB
def ob (s : PySem.W.SharedT) : He.AlX := R.obsY 5 fa fn [] tf moreB (HandSHeadRun.getT s)
abbrev qv := PySem.W.view rowR.prog [17]
theorem run (w : World) : HandSHeadRun.RunEq rowR qv hk ob 9000 names w := by
  intro os
  kernel_rfl
end Cl
open PySem PySem.W PySem.Calls PyProof.Rows
end
namespace R
open PySem
inductive D where
  | non | bl (b : Bool) | int (i : Int) | str (s : Str)
  | lst (xs : List D) | tup (xs : List D)
  | rol (xs : List D)
  | ins (C : Nat) (ks : List Str) (vs : List D)
  | vol (k : Nat) (ps : List D)
  | dct (ks : List L2.Key) (ds : List D)
  | any
  | adr (a : Nat)
  | exn (k : Nat)
  | cod (q : Str)
  | obj (o : Nat → Nat → L2.HO) (p : Nat → L2.HO)
inductive OT where
  | leaf (d : D) | lst (ts : List OT) | tup (ts : List OT) | ins (C : Nat) (ks : List Str) (ts : List OT) | d0
  | dk (ks : List L2.Key) (ts : List OT)
  | xo (a d : Nat) (f v : Str)
inductive Rs where
  | fz (d : D) | nw (t : OT) | br (t : OT) | ex (t : OT)
abbrev Env := List (Option Rs)
abbrev DE := Env → (Rs → Prop) → Prop
abbrev DT := Env → (Bool → Prop) → Prop
abbrev DA := Env → (List Rs → Prop) → Prop
structure DK where
  nx : Env → Prop
  rt : Rs → Env → Prop
  bk : Env → Prop := fun _ => False
  ct : Env → Prop := fun _ => False
abbrev DS := Env → DK → Prop
abbrev DI := Env → (Bool → List Rs → Prop) → Prop
abbrev Spec := Env → (Rs → Env → Prop) → Prop

mutual
inductive Fz : OT → D → Prop where
  | leaf (d : D) : Fz (.leaf d) d
  | lst {ts : List OT} {ds : List D} : FzAll ts ds → Fz (.lst ts) (.lst ds)
  | tup {ts : List OT} {ds : List D} : FzAll ts ds → Fz (.tup ts) (.tup ds)
  | ins {C : Nat} {ks : List Str} {ts : List OT} {ds : List D} : FzAll ts ds → Fz (.ins C ks ts) (.ins C ks ds)
  | d0 (k : Nat) (ps : List D) : Fz .d0 (.vol (k + 1) ps)
  | dk {ks : List L2.Key} {ts : List OT} {ds : List D} : FzAll ts ds → Fz (.dk ks ts) (.dct ks ds)
inductive FzAll : List OT → List D → Prop where
  | nil : FzAll [] []
  | cons {t : OT} {d : D} {ts : List OT} {ds : List D} : Fz t d → FzAll ts ds → FzAll (t :: ts) (d :: ds)
end
theorem FzAll.leafs : ∀ ds : List D, FzAll (ds.map OT.leaf) ds
  | [] => .nil
  | d :: ds => .cons (.leaf d) (FzAll.leafs ds)
def OT.kids : OT → Option (List OT)
  | .leaf (.lst ds) => some (ds.map .leaf)
  | .leaf (.tup ds) => some (ds.map .leaf)
  | .leaf (.rol ds) => some (ds.map .leaf)
  | .lst ts => some ts
  | .tup ts => some ts
  | _ => none
def leaves : List OT → Option (List D)
  | [] => some []
  | .leaf d :: r => (leaves r).map (d :: ·)
  | _ :: _ => none
theorem leaves_map : ∀ ds : List D, leaves (ds.map OT.leaf) = some ds
  | [] => rfl
  | d :: r => by
    show (leaves (r.map OT.leaf)).map (d :: ·) = _
    rw [leaves_map r] <;> rfl
def Rs.t : Rs → OT
  | .fz d => .leaf d
  | .nw t => t
  | .br t => t
  | .ex t => t
def brOf : OT → Rs
  | .leaf d => .fz d
  | t => .br t
def exOf : OT → Rs
  | .leaf d => .fz d
  | t => .ex t
def nwOf : OT → Rs
  | .leaf d => .fz d
  | t => .nw t
def Rs.arg : Rs → Rs
  | .fz d => .fz d
  | .nw t => .ex t
  | .br t => .ex t
  | .ex t => .ex t
def Rs.rd : Rs → Rs
  | .fz d => .fz d
  | .nw t => .br t
  | .br t => .br t
  | .ex t => .ex t
def Rs.kid (r : Rs) (t : OT) : Rs := match r with
  | .ex _ => exOf t
  | _ => brOf t
def Rs.own : Rs → Prop
  | .fz _ => True
  | .nw _ => True
  | _ => False
def Rs.slot : Rs → Prop
  | .br _ => False
  | _ => True
def Rs.item : Rs → Option OT
  | .fz d => some (.leaf d)
  | .nw t => some t
  | _ => none
def items : List Rs → Option (List OT)
  | [] => some []
  | r :: rs => r.item.bind fun t => (items rs).map (t :: ·)
def Rs.els (r : Rs) (isL : Bool) : Option (List D) := match r with
  | .fz (.lst ds) => if isL then some ds else none
  | .fz (.tup ds) => if isL then none else some ds
  | .br (.lst ts) => if isL then leaves ts else none
  | .ex (.lst ts) => if isL then leaves ts else none
  | .br (.tup ts) => if isL then none else leaves ts
  | .ex (.tup ts) => if isL then none else leaves ts
  | _ => none
mutual
def OT.fzd : OT → Option D
  | .leaf d => some d
  | .lst ts => (fzdAll ts).map .lst
  | .tup ts => (fzdAll ts).map .tup
  | .ins C ks ts => (fzdAll ts).map (.ins C ks)
  | .d0 => none
  | .xo _ _ _ _ => none
  | .dk ks ts => (fzdAll ts).map (.dct ks)
def fzdAll : List OT → Option (List D)
  | [] => some []
  | t :: ts => t.fzd.bind fun d => (fzdAll ts).map (d :: ·)
end
mutual
theorem Fz.of : ∀ {t : OT} {d : D}, t.fzd = some d → Fz t d
  | .leaf d, e, h => by
    have h : some d = some e := h
    cases h
    exact .leaf d
  | .lst ts, e, h => by
    have h : (fzdAll ts).map .lst = some e := by rw [OT.fzd] at h; exact h
    cases q : fzdAll ts with
    | none => rw [q] at h; cases h
    | some ds => rw [q] at h; cases h; exact .lst (FzAll.of q)
  | .tup ts, e, h => by
    have h : (fzdAll ts).map .tup = some e := by rw [OT.fzd] at h; exact h
    cases q : fzdAll ts with
    | none => rw [q] at h; cases h
    | some ds => rw [q] at h; cases h; exact .tup (FzAll.of q)
  | .ins C ks ts, e, h => by
    have h : (fzdAll ts).map (.ins C ks) = some e := by rw [OT.fzd] at h; exact h
    cases q : fzdAll ts with
    | none => rw [q] at h; cases h
    | some ds => rw [q] at h; cases h; exact .ins (FzAll.of q)
  | .d0, _, h => by rw [OT.fzd] at h; cases h
  | .xo _ _ _ _, _, h => by rw [OT.fzd] at h; cases h
  | .dk ks ts, e, h => by
    have h : (fzdAll ts).map (.dct ks) = some e := by rw [OT.fzd] at h; exact h
    cases q : fzdAll ts with
    | none => rw [q] at h; cases h
    | some ds => rw [q] at h; cases h; exact .dk (FzAll.of q)
theorem FzAll.of : ∀ {ts : List OT} {ds : List D}, fzdAll ts = some ds → FzAll ts ds
  | [], _, h => by rw [fzdAll] at h; cases h; exact .nil
  | t :: ts, e, h => by
    rw [fzdAll] at h
    cases q : t.fzd with
    | none => rw [q] at h; cases h
    | some d =>
      rw [q] at h
      cases q2 : fzdAll ts with
      | none => rw [q2] at h; cases h
      | some ds => rw [q2] at h; cases h; exact .cons (Fz.of q) (FzAll.of q2)
end
theorem fzdAll_map : ∀ ds : List D, fzdAll (ds.map OT.leaf) = some ds
  | [] => by rw [List.map_nil, fzdAll]
  | d :: ds => by rw [List.map_cons, fzdAll, fzdAll_map ds, OT.fzd] <;> rfl
theorem fzd_lst (ds : List D) : (OT.lst (ds.map .leaf)).fzd = some (.lst ds) := by rw [OT.fzd, fzdAll_map] <;> rfl
theorem fzd_tup (ds : List D) : (OT.tup (ds.map .leaf)).fzd = some (.tup ds) := by rw [OT.fzd, fzdAll_map] <;> rfl
def Rs.ffz : Rs → Rs
  | .nw t => match t.fzd with
    | some d => .fz d
    | none => .nw t
  | r => r
def ixN' (n : Nat) (i : Int) : Option Nat := if 0 ≤ i then (if i < n then some i.toNat else none) else if -(n : Int) ≤ i then some (i + n).toNat else none
def at' {α : Type} (xs : List α) (i : Int) : Option α := (ixN' xs.length i).bind fun j => xs[j]?
theorem at_nat {α : Type} {xs : List α} {j : Nat} {v : α} (h : xs[j]? = some v) : at' xs (j : Int) = some v := by
  have hj : j < xs.length := (List.getElem?_eq_some_iff.mp h).1
  unfold at' ixN'
  rw [if_pos (by omega), if_pos (by omega)]
  simpa using h
theorem at_map {α β : Type} (f : α → β) (xs : List α) (i : Int) : at' (xs.map f) i = (at' xs i).map f := by
  unfold at'
  rw [List.length_map]
  cases ixN' xs.length i with
  | none => rfl
  | some j => simp
end R
namespace R
open PySem
def mVar (i : Nat) : DE := fun env Q => ∃ r, env[i]? = some (some r) ∧ Q r.rd
def mC (d : D) : DE := fun _ Q => Q (.fz d)
def i2 (C : Int → Int → Prop) (g : Int → Int → D) : Rs → Rs → (Rs → Prop) → Prop
  | .fz (.int i), .fz (.int j), Q => C i j ∧ Q (.fz (g i j))
  | _, _, _ => False
def mOp (R : Rs → Rs → (Rs → Prop) → Prop) (a b : DE) : DE := fun env Q => a env fun x => b env fun y => R x.ffz y.ffz Q
def mUn (R : Rs → (Rs → Prop) → Prop) (a : DE) : DE := fun env Q => a env fun x => R x.ffz Q
def oSub := i2 (fun _ _ => True) fun i j => .int (i - j)
def oMod := i2 (fun _ j => 0 < j) fun i j => .int (i % j)
def oDiv := i2 (fun _ j => 0 < j ∧ j.natAbs.log2 < 9000) fun i j => .int (i / j)
def oPow := i2 (fun i j => 0 ≤ j ∧ j ≤ 1000000 ∧ i.natAbs < 2 ^ 64) fun i j => .int (i ^ j.toNat)
def oLt := i2 (fun _ _ => True) fun i j => .bl (decide (i < j))
def oLe := i2 (fun _ _ => True) fun i j => .bl (decide (i ≤ j))
def oGt := i2 (fun _ _ => True) fun i j => .bl (decide (j < i))
def oGe := i2 (fun _ _ => True) fun i j => .bl (decide (j ≤ i))
def sizeL : Nat := 16777216
def oAdd : Rs → Rs → (Rs → Prop) → Prop
  | .fz (.int i), .fz (.int j), Q => Q (.fz (.int (i + j)))
  | .fz (.str i), .fz (.str j), Q => i.length + j.length ≤ sizeL ∧ Q (.fz (.str (i ++ j)))
  | x, y, Q => (∃ ds es, x.els true = some ds ∧ y.els true = some es ∧ ds.length + es.length ≤ sizeL ∧ Q (.nw (.lst ((ds ++ es).map .leaf)))) ∨
    ∃ ds es, x.els false = some ds ∧ y.els false = some es ∧ ds ≠ [] ∧ es ≠ [] ∧ ds.length + es.length ≤ sizeL ∧ Q (.nw (.tup ((ds ++ es).map .leaf)))
def oMul : Rs → Rs → (Rs → Prop) → Prop
  | .fz (.int i), .fz (.int j), Q => ((-(2 ^ 64) < i ∧ i < 2 ^ 64) ∨ (-(2 ^ 64) < j ∧ j < 2 ^ 64)) ∧ Q (.fz (.int (i * j)))
  | x, .fz (.int k), Q => ∃ ds, x.els true = some ds ∧ -(2 ^ 63) ≤ k ∧ k < 2 ^ 63 ∧ ds.length * k.toNat ≤ sizeL ∧ Q (.nw (.lst ((List.replicate k.toNat ds).flatten.map .leaf)))
  | _, _, _ => False
def oNeg : Rs → (Rs → Prop) → Prop
  | .fz (.int i), Q => Q (.fz (.int (-i)))
  | _, _ => False
def mT (a : DE) : DT := fun env Q => a env fun
  | .fz (.bl b) => Q b
  | _ => False
def mAnd (t u : DT) : DT := fun env Q => t env fun c => if c = true then u env Q else Q false
def mOr (t u : DT) : DT := fun env Q => t env fun c => if c = true then Q true else u env Q
def mNot (t : DT) : DT := fun env Q => t env fun c => Q (!c)
def mAndV (a b : DE) : DE := fun env Q => a env fun
  | .fz (.bl c) => if c = true then b env Q else Q (.fz (.bl false))
  | _ => False
def mOrV (a b : DE) : DE := fun env Q => a env fun
  | .fz (.bl c) => if c = true then Q (.fz (.bl true)) else b env Q
  | _ => False
def mNotV (a : DE) : DE := fun env Q => a env fun
  | .fz (.bl c) => Q (.fz (.bl (!c)))
  | _ => False
def mIf (t : DT) (a b : DE) : DE := fun env Q => t env fun c => if c = true then a env Q else b env Q
def mNil : DA := fun _ Q => Q []
def mCons (a : DE) (r : DA) : DA := fun env Q => a env fun x => r env fun xs => Q (x :: xs)
def mLst (a : DA) : DE := fun env Q => a env fun rs => ∃ ts, items rs = some ts ∧ ts.length ≤ sizeL ∧ Q (.nw (.lst ts))
def mTup (a : DA) : DE := fun env Q => a env fun rs => ∃ ts, items rs = some ts ∧ ts.length ≤ sizeL ∧ Q (.nw (.tup ts))
def mFz (a : DE) : DE := fun env Q => a env fun
  | .fz d => Q (.fz d)
  | .nw t => ∃ d, Fz t d ∧ Q (.fz d)
  | _ => False
def oIx : Rs → Rs → (Rs → Prop) → Prop
  | .fz (.lst ds), .fz (.int i), Q => ∃ d, at' ds i = some d ∧ Q (.fz d)
  | .fz (.tup ds), .fz (.int i), Q => ∃ d, at' ds i = some d ∧ Q (.fz d)
  | .fz (.rol ds), .fz (.int i), Q => ∃ d, at' ds i = some d ∧ Q (.fz d)
  | .fz (.str z), .fz (.int i), Q => z.length ≤ sizeL ∧ ∃ c, at' z.cps.toList i = some c ∧ Q (.fz (.str ⟨#[c]⟩))
  | .fz (.vol 0 _), .fz (.int i), Q => 0 ≤ i ∧ i < 3 ∧ ∀ x, Q (.fz (.int x))
  | r, .fz (.int i), Q => ∃ ts t, r.t.kids = some ts ∧ at' ts i = some t ∧ Q (r.kid t)
  | _, _, _ => False
end R
namespace R
open PySem
abbrev DO := Env → (Option Int → Prop) → Prop
def mNoP : DO := fun _ Q => Q none
def mPart (a : DE) : DO := fun env Q => a env fun
  | .fz (.int i) => Q (some i)
  | _ => False
def mB (R : List Rs → (Rs → Prop) → Prop) (a : DA) : DE := fun env Q => a env fun xs => R (xs.map Rs.ffz) Q
def oLen : List Rs → (Rs → Prop) → Prop
  | [.fz (.str z)], Q => z.length ≤ sizeL ∧ Q (.fz (.int z.length))
  | [r], Q => ∃ ts, r.t.kids = some ts ∧ Q (.fz (.int ts.length))
  | _, _ => False
def oInt1 : List Rs → (Rs → Prop) → Prop
  | [.fz (.int i)], Q => Q (.fz (.int i))
  | [.fz (.bl b)], Q => Q (.fz (.int (if b then 1 else 0)))
  | _, _ => False
def oMin2 : List Rs → (Rs → Prop) → Prop
  | [.fz (.int i), .fz (.int j)], Q => Q (.fz (.int (min i j)))
  | _, _ => False
def oMin3 : List Rs → (Rs → Prop) → Prop
  | [.fz (.int i), .fz (.int j), .fz (.int k)], Q => Q (.fz (.int (min (min i j) k)))
  | _, _ => False
def oMax2 : List Rs → (Rs → Prop) → Prop
  | [.fz (.int i), .fz (.int j)], Q => Q (.fz (.int (max i j)))
  | _, _ => False
def allOf {α : Type} (f : D → Option α) : List D → Option (List α)
  | [] => some []
  | d :: ds => (f d).bind fun x => (allOf f ds).map (x :: ·)
end R
namespace R
open PySem
def mSeq (a b : DS) : DS := fun env D => a env { D with nx := fun e => b e D }
def mNext : DS := fun env D => D.nx env
def mIfS (t : DT) (a b : DS) : DS := fun env D => t env fun c => if c = true then a env D else b env D
def mRet (a : DE) : DS := fun env D => a env fun r => r.own ∧ D.rt r env
def mRetN : DS := fun env D => D.rt (.fz .non) env
def mDrop (a : DE) : DS := fun env D => a env fun _ => D.nx env
def mBreak : DS := fun env D => D.bk env
def mCont : DS := fun env D => D.ct env
def mFzS (i : Nat) (a : DS) : DS := fun env D => ∃ t d, env[i]? = some (some (.nw t)) ∧ Fz t d ∧ a (env.set i (some (.fz d))) D
abbrev DG := Env → Rs → (Env → Prop) → Prop
def gN (i : Nat) : DG := fun env r Q => r.slot ∧ Q (env.set i (some r))
def gsN : List DG → List Rs → Env → (Env → Prop) → Prop
  | [], [], env, Q => Q env
  | g :: gs, r :: rs, env, Q => g env r fun e => gsN gs rs e Q
  | _, _, _, _ => False
def Rs.parts : Rs → Option (List Rs)
  | .fz (.tup ds) => some (ds.map .fz)
  | .nw (.tup ts) => some (ts.map nwOf)
  | .ex (.tup ts) => some (ts.map exOf)
  | _ => none
def gT (gs : List DG) : DG := fun env r Q => ∃ rs, r.parts = some rs ∧ rs.length = gs.length ∧ gsN gs rs env Q
def mAsgG (g : DG) (a : DE) : DS := fun env D => a env fun r => g env r D.nx
def Rs.stays : Rs → Bool
  | .fz _ => true
  | .ex _ => true
  | _ => false
def mItL (a : DE) : DI := fun env Q => a env fun r => ∃ ts, r.ffz.t.kids = some ts ∧ Q r.ffz.stays (ts.map (Rs.kid r.ffz))
def rng (lo : Int) (n : Nat) : List Rs := (List.range n).map fun (i : Nat) => Rs.fz (.int (lo + (i : Int)))
def mItR1 (a : DE) : DI := fun env Q => a env fun
  | .fz (.int n) => -(2 ^ 62) ≤ n ∧ n < 2 ^ 62 ∧ Q true (rng 0 n.toNat)
  | _ => False
def mFor (it : DI) (g : DG) (a : DS) : DS := fun env D => it env fun st xs => st = true ∧ ∃ Pv : Nat → Env → Prop, Pv 0 env ∧
  (∀ i r e, xs[i]? = some r → Pv i e → g e r fun e' => a e' { D with nx := Pv (i + 1), ct := Pv (i + 1), bk := D.nx }) ∧ ∀ e, Pv xs.length e → D.nx e
def Env.wipe (env : Env) : List Nat → Env
  | [] => env
  | i :: is => (Env.wipe env is).set i none
def Env.lent (env : Env) : Env := env.map (Option.map Rs.arg)
def mYes : DT := fun _ Q => Q true
def mLc (it : DI) (g : DG) (t : DT) (e : DE) (ws : List Nat) : DE := fun env Q => it env fun _ xs => ∃ Pv : Nat → List OT → Prop, Pv 0 [] ∧
  (∀ i r acc, xs[i]? = some r → Pv i acc → acc.length < sizeL ∧ g (Env.wipe (Env.lent env) ws) r.arg fun e1 => e1.length = env.length ∧ t e1 fun b => if b = true then e e1 fun y => ∃ ty, y.item = some ty ∧ Pv (i + 1) (acc ++ [ty]) else Pv (i + 1) acc) ∧
  ∀ acc, Pv xs.length acc → Q (.nw (.lst acc))
abbrev Spec1 := Env → (Rs → Prop) → Prop
def Spec1.io (F : Spec1) : Spec := fun ss Q => F ss fun r => Q r (ss.map fun _ => none)
def Rs.lend (r : Rs) : Rs := r.ffz.arg
def args (rs : List Rs) (dv : List D) : Env := rs.map (fun r => some r.lend) ++ dv.map fun d => some (.fz d)
def mCall (n : Nat) (F : Spec1) (a : DA) (dv : List D) : DE := fun env Q => a env fun rs => (args rs dv).length = n ∧ F (args rs dv) fun r => r.own ∧ Q r
def OT.inst : OT → Option (Nat × List Str × List OT)
  | .leaf (.ins C ks ds) => some (C, ks, ds.map .leaf)
  | .ins C ks ts => some (C, ks, ts)
  | _ => none
def assoc (f : Str) : List Str → List OT → Option OT
  | k :: ks, t :: ts => if k = f then some t else assoc f ks ts
  | _, _ => none
def mFld (C : Nat) (f : Str) (o : DE) : DE := fun env Q => o env fun x => ∃ ks ts t, x.ffz.t.inst = some (C, ks, ts) ∧ assoc f ks ts = some t ∧ Q (x.ffz.kid t)
def outs (pr : List Nat) (n : Nat) (e : Env) : Env := (List.range n).map fun i => if i ∈ pr then (e[i]?).join else none
abbrev DP := Env → (Nat → List Nat → Prop) → Prop
def OT.kid? : OT → Nat → Option OT
  | .lst ts, j => ts[j]?
  | .tup ts, j => ts[j]?
  | .ins _ _ ts, j => ts[j]?
  | .dk _ ts, j => ts[j]?
  | _, _ => none
def OT.set? : OT → Nat → OT → OT
  | .lst ts, j, c => .lst (ts.set j c)
  | .tup ts, j, c => .tup (ts.set j c)
  | .ins C ks ts, j, c => .ins C ks (ts.set j c)
  | .dk ks ts, j, c => .dk ks (ts.set j c)
  | t, _, _ => t
def OT.at? : OT → List Nat → Option OT
  | t, [] => some t
  | t, j :: js => (t.kid? j).bind fun c => c.at? js
def OT.put : OT → List Nat → OT → OT
  | _, [], s => s
  | t, j :: js, s => match t.kid? j with
    | some c => t.set? j (c.put js s)
    | none => t
def tree (env : Env) (i : Nat) (p : List Nat) : Option OT := match env[i]? with
  | some (some (.nw t)) => t.at? p
  | _ => none
def put (env : Env) (i : Nat) (p : List Nat) (s : OT) : Env := match env[i]? with
  | some (some (.nw t)) => env.set i (some (.nw (t.put p s)))
  | _ => env
def plN (i : Nat) : DP := fun env Q => (∃ t, env[i]? = some (some (.nw t))) ∧ Q i []
def mSetVol (s k e : DE) : DS := fun env D => e env fun
  | .fz (.int _) => s env fun
    | .fz (.vol 0 _) => k env fun
      | .fz (.int n) => 0 ≤ n ∧ n < 3 ∧ D.nx env
      | _ => False
    | _ => False
  | _ => False
def mSrc (a : DE) : DE := fun env Q => a env fun
  | .nw (.lst [.leaf (.int _), .leaf (.int _), .leaf (.int _)]) => Q (.fz (.vol 0 []))
  | _ => False
def putK (f : Str) (t : OT) : List Str → List OT → List Str × List OT
  | k :: ks, u :: us => if k = f then (k :: ks, t :: us) else ((k :: (putK f t ks us).1), (u :: (putK f t ks us).2))
  | _, _ => ([f], [t])
end R
namespace R
open PySem
def D.pd : Nat → D → Option PyData
  | _, .non => some .none
  | _, .bl b => some (.bool b)
  | _, .int i => some (.int i)
  | _, .str x => if PyData.strOk x = true then some (.str x) else none
  | n + 1, .lst ds => (allOf (D.pd n) ds).map .list
  | n + 1, .tup ds => (allOf (D.pd n) ds).map .tuple
  | n + 1, .rol ds => (allOf (D.pd n) ds).map .list
  | _, _ => none
def allOfT {α : Type} (f : OT → Option α) : List OT → Option (List α)
  | [] => some []
  | t :: ts => (f t).bind fun x => (allOfT f ts).map (x :: ·)
def OT.pd : Nat → OT → Option PyData
  | n, .leaf d => d.pd n
  | n + 1, .lst ts => (allOfT (OT.pd n) ts).map .list
  | n + 1, .tup ts => (allOfT (OT.pd n) ts).map .tuple
  | _, _ => none
def oEq (neg : Bool) (x y : Rs) (Q : Rs → Prop) : Prop := ∃ p q, x.t.pd 8 = some p ∧ y.t.pd 8 = some q ∧ Q (.fz (.bl (PyData.eqv p q != neg)))
end R
namespace R
open PySem
def nI (n : Nat) : D := .int (n : Int)
def nL (ns : List Nat) : D := .lst (ns.map nI)
def nT (ns : List Nat) : D := .tup (ns.map nI)
def pk (l : List Nat) (i : Nat) : Nat := l.getD i 0
def fillN (e : Nat → Nat × List Nat) : Nat → List Nat × List Nat → List Nat × List Nat
  | 0, p => p
  | n + 1, p => fillN e n (p.1 ++ [pk p.2 (e p.2.length).1], (e p.2.length).2.map (pk p.2))
def ent (sz fw : List Nat) : Nat → Nat → Nat × List Nat
  | 0, len => (0, List.range' 1 (len - 1))
  | c + 1, len => (pk (fillN (ent sz fw c) (pk sz c) ([], List.range len)).1 (pk fw c), (fillN (ent sz fw c) (pk sz c) ([], List.range len)).2 ++ (fillN (ent sz fw c) (pk sz c) ([], List.range len)).1.eraseIdx (pk fw c))
def fil (sz fw : List Nat) (c len : Nat) : List Nat × List Nat := fillN (ent sz fw c) (pk sz c) ([], List.range len)
def entD (sz fw : List Nat) (c len : Nat) : D := .tup [nI (ent sz fw c len).1, nT (ent sz fw c len).2]
def entL (sz fw : List Nat) (c len : Nat) : D := .tup [nI (ent sz fw c len).1, nL (ent sz fw c len).2]
def natOf : D → Nat
  | .int i => i.toNat
  | _ => 0
def natsOf : D → List Nat
  | .tup ds => ds.map natOf
  | _ => []
def bor (sz fw : List Nat) (c n : Nat) : List Nat := if c < sz.length then (ent sz fw c n).1 :: (ent sz fw c n).2 else (fil sz fw fw.length n).2 ++ (fil sz fw fw.length n).1
def addAt (l : List Nat) (i v : Nat) : List Nat := l.set i (pk l i + v)
def fstAt (l : List (Option Nat)) (i v : Nat) : List (Option Nat) := if l.getD i none = none then l.set i (some v) else l
def visIn (base : Nat) (own : List Nat) (early : List (Option Nat)) (rest : List Nat) : Nat → List Nat × List (Option Nat) → List Nat × List (Option Nat)
  | 0, s => s
  | k + 1, s => let s' := visIn base own early rest k s
    (addAt s'.1 (pk rest k) (pk own k), match early.getD k none with | some e => fstAt s'.2 (pk rest k) (base + e) | none => s'.2)
structure VSt where
  cnt : List Nat
  fst : List (Option Nat)
  rest : List Nat
  ins : List Nat
def visStep (steps size : Nat) (isT : Bool) (vs : Nat → List Nat × List (Option Nat)) (en : Nat → Nat × List Nat) (entry : Nat) (s : VSt) : VSt :=
  let v := vs s.rest.length
  let a := visIn (entry * steps) v.1 v.2 s.rest s.rest.length (s.cnt, s.fst)
  let e := en s.rest.length
  let x := pk s.rest e.1
  let b := if isT then s.ins.foldl (fun l m => addAt l m (steps - (if entry + 1 = size then 1 else 0))) a.1 else a.1
  let b2 := if isT && decide (entry + 1 < size) then addAt b x 1 else b
  let f2 := if isT && decide (entry + 1 < size) then fstAt a.2 x ((entry + 1) * steps) else a.2
  ⟨b2, f2, e.2.map (pk s.rest), s.ins ++ [x]⟩
def visLoop (steps size : Nat) (isT : Bool) (vs : Nat → List Nat × List (Option Nat)) (en : Nat → Nat × List Nat) : Nat → VSt → VSt
  | 0, s => s
  | k + 1, s => visStep steps size isT vs en k (visLoop steps size isT vs en k s)
def vis (sz fw : List Nat) (tg : Nat) : Nat → Nat → List Nat × List (Option Nat)
  | 0, n => (List.replicate n 0, List.replicate n none)
  | c + 1, n => if c + 1 ≤ tg then (List.replicate n 0, List.replicate n none) else
      let s := visLoop ((sz.take c).foldl (· * ·) 1) (pk sz c) (decide (c = tg)) (vis sz fw tg c) (ent sz fw c) (pk sz c) ⟨List.replicate n 0, List.replicate n none, List.range n, []⟩
      (s.cnt, s.fst)
def oD : Option Nat → D
  | none => .non
  | some n => nI n
def visD (sz fw : List Nat) (t c n : Nat) : D := .tup [nL (vis sz fw t c n).1, .lst ((vis sz fw t c n).2.map oD)]
def staD (sz fw : List Nat) (t c n : Nat) : D := .lst (List.zipWith (fun (a : Nat) (o : Option Nat) => D.tup [nI a, oD o]) (vis sz fw t c n).1 (vis sz fw t c n).2)
def memo : Nat → List D → List L2.Key → Option D
  | 0, [s, f], [.inl c, .inl n] => if 0 ≤ c ∧ c < 64 ∧ 0 ≤ n ∧ n < 64 then some (entD (natsOf s) (natsOf f) c.toNat n.toNat) else none
  | 1, [s, f], [.inl t, .inl c, .inl n] => if 0 ≤ t ∧ t < 64 ∧ 0 ≤ c ∧ c < 64 ∧ 0 ≤ n ∧ n < 64 then some (visD (natsOf s) (natsOf f) t.toNat c.toNat n.toNat) else none
  | 2, [s, f], [.inl c, .inl n] => if 0 ≤ c ∧ c < 64 ∧ 0 ≤ n ∧ n < 64 then some (entL (natsOf s) (natsOf f) c.toNat n.toNat) else none
  | 3, [s, f], [.inl c, .inl n] => if 0 ≤ c ∧ c < 64 ∧ 0 ≤ n ∧ n < 64 then some (nL (bor (natsOf s) (natsOf f) c.toNat n.toNat)) else none
  | 4, [s, f, .int t], [.inl c, .inl n] => if 0 ≤ c ∧ c < 64 ∧ 0 ≤ n ∧ n < 64 then some (staD (natsOf s) (natsOf f) t.toNat (c.toNat + 1) n.toNat) else none
  | _, _, _ => none
end R
namespace R
open PySem
def least (sz : List Nat) (c : Nat) : Nat := ((sz.take c).map (· - 1)).sum + 1
theorem pk_lt {l : List Nat} {i : Nat} (h : i < l.length) : pk l i = l[i] := by
  unfold pk
  rw [List.getD_eq_getElem?_getD, List.getElem?_eq_getElem h]
  rfl
theorem pk_mem {l : List Nat} {i : Nat} (h : i < l.length) : pk l i ∈ l := by rw [pk_lt h]; exact List.getElem_mem h
theorem pk_map {l : List Nat} {g : Nat → Nat} {i : Nat} (h : i < l.length) : pk (l.map g) i = g (pk l i) := by
  rw [pk_lt h, pk_lt (by rw [List.length_map]; exact h), List.getElem_map]
theorem map_pk_range (l : List Nat) : (List.range l.length).map (pk l) = l := by
  apply List.ext_getElem
  · rw [List.length_map, List.length_range]
  · intro i h1 h2
    rw [List.getElem_map, List.getElem_range, pk_lt h2]
theorem least_succ {sz : List Nat} {c : Nat} (h : c < sz.length) : least sz (c + 1) = least sz c + (pk sz c - 1) := by
  unfold least
  rw [List.take_add_one, List.getElem?_eq_getElem h, pk_lt h]
  simp only [Option.toList_some, List.map_append, List.map_cons, List.map_nil, List.sum_append, List.sum_cons, List.sum_nil]
  omega
def Pm (e : Nat × List Nat) (len : Nat) : Prop := (e.1 :: e.2).Perm (List.range len)
theorem Pm.lt {e : Nat × List Nat} {len : Nat} (h : Pm e len) : e.1 < len ∧ ∀ x ∈ e.2, x < len := by
  have k : ∀ x ∈ e.1 :: e.2, x < len := fun x m => List.mem_range.mp (h.mem_iff.mp m)
  exact ⟨k _ List.mem_cons_self, fun x m => k x (List.mem_cons_of_mem _ m)⟩
theorem Pm.len {e : Nat × List Nat} {len : Nat} (h : Pm e len) : e.2.length + 1 = len := by
  have := h.length_eq
  rw [List.length_cons, List.length_range] at this
  exact this
theorem Pm.app {e : Nat × List Nat} {l : List Nat} (h : Pm e l.length) : (pk l e.1 :: e.2.map (pk l)).Perm l := by
  have := h.map (pk l)
  rw [map_pk_range] at this
  exact this
theorem fillN_perm {e : Nat → Nat × List Nat} : ∀ (n : Nat) (p : List Nat × List Nat), (∀ k, k < n → Pm (e (p.2.length - k)) (p.2.length - k)) → n ≤ p.2.length → ((fillN e n p).1 ++ (fillN e n p).2).Perm (p.1 ++ p.2) ∧ (fillN e n p).1.length = p.1.length + n
  | 0, p, _, _ => ⟨.refl _, rfl⟩
  | n + 1, p, h, hl => by
    have h0 := h 0 (by omega)
    rw [Nat.sub_zero] at h0
    have hlen := h0.len
    have l2 : ((e p.2.length).2.map (pk p.2)).length = p.2.length - 1 := by rw [List.length_map]; omega
    obtain ⟨a, b⟩ := fillN_perm (e := e) n (p.1 ++ [pk p.2 (e p.2.length).1], (e p.2.length).2.map (pk p.2)) (fun k hk => by
      show Pm (e (((e p.2.length).2.map (pk p.2)).length - k)) (((e p.2.length).2.map (pk p.2)).length - k)
      rw [l2, Nat.sub_sub, Nat.add_comm 1 k]
      exact h (k + 1) (by omega)) (by rw [l2]; omega)
    refine ⟨a.trans ?_, by rw [fillN, b, List.length_append, List.length_singleton]; omega⟩
    rw [List.append_assoc]
    exact h0.app.append_left p.1
theorem erase_perm {l : List Nat} {i : Nat} (h : i < l.length) : (pk l i :: l.eraseIdx i).Perm l := by
  rw [pk_lt h]
  induction l generalizing i with
  | nil => simp at h
  | cons x l ih =>
    cases i with
    | zero => exact .refl _
    | succ i =>
      have h2 : i < l.length := by simpa using h
      rw [List.eraseIdx_cons_succ, List.getElem_cons_succ]
      exact (List.Perm.swap _ _ _).trans ((ih h2).cons x)
structure Cups (sz fw : List Nat) (c : Nat) : Prop where
  l1 : c ≤ sz.length
  s1 : ∀ i, i < c → 1 ≤ pk sz i
  f1 : ∀ i, i < c → pk fw i < pk sz i
theorem Cups.down {sz fw : List Nat} {c : Nat} (h : Cups sz fw (c + 1)) : Cups sz fw c := ⟨by have := h.l1; omega, fun i hi => h.s1 i (by omega), fun i hi => h.f1 i (by omega)⟩
theorem ent_perm {sz fw : List Nat} : ∀ {c : Nat} {len : Nat}, Cups sz fw c → least sz c ≤ len → Pm (ent sz fw c len) len
  | 0, len, _, h => by
    have h1 : 1 ≤ len := h
    obtain ⟨n, rfl⟩ : ∃ n, len = n + 1 := ⟨len - 1, by omega⟩
    show (0 :: List.range' 1 n).Perm (List.range (n + 1))
    rw [List.range_eq_range', List.range'_succ]
  | c + 1, len, C, h => by
    have hs := C.s1 c (by omega)
    have hf := C.f1 c (by omega)
    rw [least_succ (by have := C.l1; omega)] at h
    have hl1 : 1 ≤ least sz c := by unfold least; omega
    obtain ⟨a, b⟩ := fillN_perm (e := ent sz fw c) (pk sz c) ([], List.range len) (fun k hk => by
      show Pm (ent sz fw c ((List.range len).length - k)) ((List.range len).length - k)
      rw [List.length_range]
      exact ent_perm C.down (by omega)) (by show pk sz c ≤ (List.range len).length; rw [List.length_range]; omega)
    have a : ((fil sz fw c len).1 ++ (fil sz fw c len).2).Perm (List.range len) := a
    have b : (fil sz fw c len).1.length = pk sz c := by
      have b2 : (fil sz fw c len).1.length = 0 + pk sz c := b
      omega
    show (pk (fil sz fw c len).1 (pk fw c) :: ((fil sz fw c len).2 ++ (fil sz fw c len).1.eraseIdx (pk fw c))).Perm (List.range len)
    refine List.Perm.trans ?_ a
    have e := erase_perm (l := (fil sz fw c len).1) (i := pk fw c) (by omega)
    refine List.Perm.trans ?_ (e.append_right (fil sz fw c len).2)
    exact List.Perm.cons _ List.perm_append_comm
end R
namespace R
open PySem
def casc : List Nat → List Nat → List (List Nat) → Nat → List Nat → List (List Nat) × List Nat × Option Nat
  | s :: ss, f :: fs, c :: cs, m, q => if c.length + 1 = s then
      ([] :: (casc ss fs cs (pk (c ++ [m]) f) (q ++ (c ++ [m]).eraseIdx f)).1, (casc ss fs cs (pk (c ++ [m]) f) (q ++ (c ++ [m]).eraseIdx f)).2)
    else ((c ++ [m]) :: cs, q, none)
  | _, _, cs, m, q => (cs, q, some m)
inductive Run (ss fs : List Nat) : Nat → List (List Nat) → List Nat → Nat → List Nat → Prop where
  | done {cs cs' : List (List Nat)} {m x : Nat} {q q' : List Nat} : casc ss fs cs x q = (cs', q', some m) → (∀ c ∈ cs', c = []) → Run ss fs 1 cs (x :: q) m q'
  | step {cs cs' : List (List Nat)} {n m x : Nat} {q q1 q' : List Nat} : casc ss fs cs x q = (cs', q1, none) → Run ss fs n cs' q1 m q' → Run ss fs (n + 1) cs (x :: q) m q'
theorem casc_len : ∀ {ss fs : List Nat} {cs : List (List Nat)} {m : Nat} {q : List Nat}, (casc ss fs cs m q).1.length = cs.length
  | [], _, cs, m, q => by rw [casc]; intro _ _ _ _ _ _ e; cases e
  | _ :: _, [], cs, m, q => by rw [casc]; intro _ _ _ _ _ _ _ e; cases e
  | _ :: _, _ :: _, [], m, q => by rw [casc]; intro _ _ _ _ _ _ _ _ e; cases e
  | s :: ss, f :: fs, c :: cs, m, q => by
    rw [casc]
    split
    · rw [List.length_cons, casc_len, List.length_cons]
    · rfl
theorem casc_snoc {s f : Nat} {c : List Nat} : ∀ {ss fs : List Nat} {cs : List (List Nat)} {m : Nat} {q : List Nat}, ss.length = fs.length → ss.length = cs.length →
    casc (ss ++ [s]) (fs ++ [f]) (cs ++ [c]) m q = match (casc ss fs cs m q).2.2 with
      | none => ((casc ss fs cs m q).1 ++ [c], (casc ss fs cs m q).2.1, none)
      | some m' => if c.length + 1 = s then ((casc ss fs cs m q).1 ++ [[]], (casc ss fs cs m q).2.1 ++ (c ++ [m']).eraseIdx f, some (pk (c ++ [m']) f)) else ((casc ss fs cs m q).1 ++ [c ++ [m']], (casc ss fs cs m q).2.1, none)
  | [], [], [], m, q, _, _ => by
    show casc [s] [f] [c] m q = if c.length + 1 = s then ([[]], q ++ (c ++ [m]).eraseIdx f, some (pk (c ++ [m]) f)) else ([c ++ [m]], q, none)
    rw [casc]
    split
    · rfl
    · rfl
  | s1 :: ss, f1 :: fs, c1 :: cs, m, q, h1, h2 => by
    have ih := @casc_snoc s f c ss fs cs (pk (c1 ++ [m]) f1) (q ++ (c1 ++ [m]).eraseIdx f1) (by simpa using h1) (by simpa using h2)
    show casc (s1 :: (ss ++ [s])) (f1 :: (fs ++ [f])) (c1 :: (cs ++ [c])) m q = _
    rw [casc, casc]
    by_cases h : c1.length + 1 = s1
    · rw [if_pos h, if_pos h, ih]
      cases q2 : (casc ss fs cs (pk (c1 ++ [m]) f1) (q ++ (c1 ++ [m]).eraseIdx f1)).2.2 with
      | none => simp only [q2]; rfl
      | some m' =>
        simp only [q2]
        split
        · rfl
        · rfl
    · rw [if_neg h, if_neg h]
      rfl
  | [], _ :: _, _, _, _, h, _ => by simp at h
  | _ :: _, [], _, _, _, h, _ => by simp at h
  | [], [], _ :: _, _, _, _, h => by simp at h
  | _ :: _, _ :: _, [], _, _, _, h => by simp at h
theorem all_nil {cs : List (List Nat)} (h : ∀ c ∈ cs, c = []) : cs = List.replicate cs.length [] := List.eq_replicate_iff.mpr ⟨rfl, h⟩
theorem Run.more {ss fs : List Nat} {s f : Nat} {c : List Nat} (hl : ss.length = fs.length) {n : Nat} {cs : List (List Nat)} {q : List Nat} {m : Nat} {q' : List Nat} (r : Run ss fs n cs q m q') : ss.length = cs.length → c.length + 1 ≠ s →
    ∀ {N m2 : Nat} {q2 : List Nat}, Run (ss ++ [s]) (fs ++ [f]) N (List.replicate cs.length [] ++ [c ++ [m]]) q' m2 q2 → Run (ss ++ [s]) (fs ++ [f]) (n + N) (cs ++ [c]) q m2 q2 := by
  induction r with
  | @done cs cs' m x q q' e en =>
    intro h2 hs N m2 q2 r
    have e2 := @casc_snoc s f c ss fs cs x q hl h2
    have el := @casc_len ss fs cs x q
    rw [e] at e2 el
    simp only [if_neg hs] at e2
    rw [all_nil en, show cs'.length = cs.length from el] at e2
    rw [Nat.add_comm]
    exact .step e2 r
  | @step cs cs' n m x q q1 q' e r0 ih =>
    intro h2 hs N m2 q2 r
    have e2 := @casc_snoc s f c ss fs cs x q hl h2
    have el := @casc_len ss fs cs x q
    rw [e] at e2 el
    have el : cs'.length = cs.length := el
    rw [Nat.add_right_comm]
    exact .step e2 (ih (by omega) hs (by rw [el]; exact r))
theorem Run.last {ss fs : List Nat} {s f : Nat} {c : List Nat} (hl : ss.length = fs.length) {n : Nat} {cs : List (List Nat)} {q : List Nat} {m : Nat} {q' : List Nat} (r : Run ss fs n cs q m q') : ss.length = cs.length → c.length + 1 = s →
    Run (ss ++ [s]) (fs ++ [f]) n (cs ++ [c]) q (pk (c ++ [m]) f) (q' ++ (c ++ [m]).eraseIdx f) := by
  induction r with
  | @done cs cs' m x q q' e en =>
    intro h2 hs
    have e2 := @casc_snoc s f c ss fs cs x q hl h2
    rw [e] at e2
    simp only [if_pos hs] at e2
    refine .done e2 fun d m => ?_
    rcases List.mem_append.mp m with m | m
    · exact en d m
    · exact List.mem_singleton.mp m
  | @step cs cs' n m x q q1 q' e r0 ih =>
    intro h2 hs
    have e2 := @casc_snoc s f c ss fs cs x q hl h2
    have el := @casc_len ss fs cs x q
    rw [e] at e2 el
    have el : cs'.length = cs.length := el
    exact .step e2 (ih (by omega) hs)
theorem erase_map {α β : Type} (f : α → β) : ∀ (l : List α) (j : Nat), (l.eraseIdx j).map f = (l.map f).eraseIdx j
  | [], _ => rfl
  | _ :: _, 0 => rfl
  | x :: l, j + 1 => by rw [List.eraseIdx_cons_succ, List.map_cons, List.map_cons, List.eraseIdx_cons_succ, erase_map f l j]
def prodL (l : List Nat) : Nat := l.foldl (· * ·) 1
theorem prodL_snoc (l : List Nat) (s : Nat) : prodL (l ++ [s]) = prodL l * s := by
  unfold prodL
  rw [List.foldl_append]
  rfl
theorem take_snoc {l : List Nat} {c : Nat} (h : c < l.length) : l.take (c + 1) = l.take c ++ [pk l c] := by
  rw [List.take_add_one, List.getElem?_eq_getElem h, pk_lt h] <;> rfl
theorem map_pk_map {l x : List Nat} {g : Nat → Nat} (h : ∀ i ∈ x, i < l.length) : x.map (pk (l.map g)) = (x.map (pk l)).map g := by
  rw [List.map_map]
  refine List.map_congr_left fun i hi => ?_
  exact pk_map (h i hi)
theorem run_block {sz fw : List Nat} : ∀ {c : Nat}, Cups sz fw c → c ≤ fw.length → ∀ {q : List Nat}, least sz c ≤ q.length →
    Run (sz.take c) (fw.take c) (prodL (sz.take c)) (List.replicate c []) q (pk q (ent sz fw c q.length).1) ((ent sz fw c q.length).2.map (pk q))
  | 0, _, _, q, h => by
    have h1 : 1 ≤ q.length := h
    cases q with
    | nil => simp at h1
    | cons x q =>
      rw [List.take_zero, List.take_zero]
      have e : (ent sz fw 0 (x :: q).length).2.map (pk (x :: q)) = q := by
        show (List.range' 1 q.length).map (pk (x :: q)) = q
        apply List.ext_getElem
        · rw [List.length_map, List.length_range']
        · intro i h1 h2
          rw [List.getElem_map, List.getElem_range', pk_lt (by simpa [Nat.add_comm] using h2)]
          simp [Nat.add_comm]
      rw [e]
      exact Run.done (cs' := []) (m := x) rfl fun _ m => by cases m
  | c + 1, C, hf, q, h => by
    have hl := C.l1
    have hs := C.s1 c (by omega)
    rw [least_succ (by omega)] at h
    have h1 : 1 ≤ least sz c := by unfold least; omega
    rw [take_snoc (l := sz) (by omega), take_snoc (l := fw) (by omega), prodL_snoc, List.replicate_succ']
    have hll : (sz.take c).length = (fw.take c).length := by rw [List.length_take, List.length_take]; omega
    have hlc : (sz.take c).length = c := by rw [List.length_take]; omega
    -- the entries one by one
    have key : ∀ (k : Nat) (p : List Nat × List Nat), p.1.length + (k + 1) = pk sz c → (∀ i ∈ p.2, i < q.length) → least sz c + k ≤ p.2.length → 
        Run (sz.take c ++ [pk sz c]) (fw.take c ++ [pk fw c]) (prodL (sz.take c) * (k + 1)) (List.replicate c [] ++ [p.1.map (pk q)]) (p.2.map (pk q))
          (pk (((fillN (ent sz fw c) (k + 1) p).1).map (pk q)) (pk fw c)) ((fillN (ent sz fw c) (k + 1) p).2.map (pk q) ++ ((fillN (ent sz fw c) (k + 1) p).1.map (pk q)).eraseIdx (pk fw c)) := by
      intro k
      induction k with
      | zero =>
        intro p hp hi hk
        have pm := ent_perm (sz := sz) (fw := fw) C.down (len := p.2.length) (by omega)
        obtain ⟨l1, l2⟩ := pm.lt
        have r := run_block (sz := sz) (fw := fw) C.down (by omega) (q := p.2.map (pk q)) (by rw [List.length_map]; omega)
        rw [List.length_map, pk_map l1, map_pk_map l2] at r
        have r2 := r.last (s := pk sz c) (f := pk fw c) (c := p.1.map (pk q)) hll (by rw [List.length_replicate]; omega) (by rw [List.length_map]; omega)
        rw [Nat.zero_add, Nat.mul_one]
        show Run _ _ _ _ _ (pk ((p.1 ++ [pk p.2 (ent sz fw c p.2.length).1]).map (pk q)) (pk fw c)) (((ent sz fw c p.2.length).2.map (pk p.2)).map (pk q) ++ ((p.1 ++ [pk p.2 (ent sz fw c p.2.length).1]).map (pk q)).eraseIdx (pk fw c))
        rw [List.map_append, List.map_singleton]
        exact r2
      | succ k ih =>
        intro p hp hi hk
        have pm := ent_perm (sz := sz) (fw := fw) C.down (len := p.2.length) (by omega)
        obtain ⟨l1, l2⟩ := pm.lt
        have hlen := pm.len
        have r := run_block (sz := sz) (fw := fw) C.down (by omega) (q := p.2.map (pk q)) (by rw [List.length_map]; omega)
        rw [List.length_map, pk_map l1, map_pk_map l2] at r
        have nx := ih (p.1 ++ [pk p.2 (ent sz fw c p.2.length).1], (ent sz fw c p.2.length).2.map (pk p.2)) (by rw [List.length_append, List.length_singleton]; omega) (fun i m => by
          obtain ⟨j, hj, e⟩ := List.mem_map.mp m
          rw [← e]
          exact hi _ (pk_mem (l2 j hj))) (by rw [List.length_map]; omega)
        rw [Nat.mul_succ, Nat.add_comm]
        refine r.more (s := pk sz c) (f := pk fw c) (c := p.1.map (pk q)) hll (by rw [List.length_replicate]; omega) (by rw [List.length_map]; omega) ?_
        rw [List.length_replicate]
        have e2 : (p.1 ++ [pk p.2 (ent sz fw c p.2.length).1]).map (pk q) = p.1.map (pk q) ++ [pk q (pk p.2 (ent sz fw c p.2.length).1)] := by rw [List.map_append, List.map_singleton]
        rw [← e2]
        exact nx
    have k0 := key (pk sz c - 1) ([], List.range q.length) (by show 0 + _ = _; omega) (fun i m => List.mem_range.mp m) (by rw [List.length_range]; omega)
    have es : pk sz c - 1 + 1 = pk sz c := by omega
    rw [es] at k0
    have hf1 := C.f1 c (by omega)
    have eq0 : (List.range q.length).map (pk q) = q := map_pk_range q
    have b : (fil sz fw c q.length).1.length = pk sz c := by
      have := (fillN_perm (e := ent sz fw c) (pk sz c) ([], List.range q.length) (fun k hk => by
        show Pm (ent sz fw c ((List.range q.length).length - k)) ((List.range q.length).length - k)
        rw [List.length_range]
        exact ent_perm C.down (by omega)) (by show pk sz c ≤ (List.range q.length).length; rw [List.length_range]; omega)).2
      have b2 : (fil sz fw c q.length).1.length = 0 + pk sz c := this
      omega
    show Run _ _ _ _ _ (pk q (pk (fil sz fw c q.length).1 (pk fw c))) (((fil sz fw c q.length).2 ++ (fil sz fw c q.length).1.eraseIdx (pk fw c)).map (pk q))
    have k1 : Run (sz.take c ++ [pk sz c]) (fw.take c ++ [pk fw c]) (prodL (sz.take c) * pk sz c) (List.replicate c [] ++ [[]]) q (pk ((fil sz fw c q.length).1.map (pk q)) (pk fw c)) ((fil sz fw c q.length).2.map (pk q) ++ ((fil sz fw c q.length).1.map (pk q)).eraseIdx (pk fw c)) := by
      rw [show (([], List.range q.length) : List Nat × List Nat).2.map (pk q) = q from eq0] at k0
      exact k0
    rw [pk_map (by omega), ← erase_map, ← List.map_append] at k1
    exact k1
end R
namespace R
open PySem PySem.Spec PyProof.Rows L2
structure Wd where
  G : Hp
  S : Addr → Option (Nat × List D)
mutual
inductive Rep (K : PySem.W.Frag) (W : Wd) : V → D → Prop where
  | non : Rep K W .non .non
  | bl (b : Bool) : Rep K W (.bl b) (.bl b)
  | int (i : Int) : Rep K W (.int i) (.int i)
  | str (x : Str) : Rep K W (.str x) (.str x)
  | lst {a : Addr} {xs : List V} {ds : List D} : W.G a = some (.lst xs) → RepAll K W xs ds → Rep K W (.ref a) (.lst ds)
  | tup {a : Addr} {xs : List V} {ds : List D} : W.G a = some (.tup xs) → RepAll K W xs ds → Rep K W (.ref a) (.tup ds)
  | rol {a : Addr} {xs : List V} {ds : List D} : SqL K W.G a xs → RepAll K W xs ds → Rep K W (.ref a) (.rol ds)
  | ins {a : Addr} {C dx : Addr} {fs : List (Str × V)} {ds : List D} : W.G a = some (.ins C dx fs) → RepAll K W (fs.map (·.2)) ds → Rep K W (.ref a) (.ins C (fs.map (·.1)) ds)
  | vol {a : Addr} {k : Nat} {ps : List D} : W.S a = some (k, ps) → Rep K W (.ref a) (.vol k ps)
  | dct {a : Addr} {kvs : List (L2.Key × V)} {ds : List D} : W.G a = some (.dK kvs) → RepAll K W (kvs.map (·.2)) ds → Rep K W (.ref a) (.dct (kvs.map (·.1)) ds)
  | any (a : Addr) : Rep K W (.ref a) .any
  | adr (a : Addr) : Rep K W (.ref a) (.adr a)
  | cod {c : Addr} {q : Str} : W.G c = some (LamX.CodeO c q) → Rep K W (.ref c) (.cod q)
  | obj {c d : Addr} {o : Nat → Nat → HO} {p : Nat → HO} : W.G c = some (o d c) → W.G d = some (p d) → Rep K W (.ref c) (.obj o p)
inductive RepAll (K : PySem.W.Frag) (W : Wd) : List V → List D → Prop where
  | nil : RepAll K W [] []
  | cons {v : V} {vs : List V} {d : D} {ds : List D} : Rep K W v d → RepAll K W vs ds → RepAll K W (v :: vs) (d :: ds)
end
mutual
inductive Own (K : PySem.W.Frag) (W : Wd) (H : Hp) : V → OT → List Addr → Prop where
  | leaf {v : V} {d : D} : Rep K W v d → Own K W H v (.leaf d) []
  | lst {p : Addr} {vs : List V} {ts : List OT} {f : List Addr} : H p = some (.lst vs) → OwnAll K W H vs ts f → Own K W H (.ref p) (.lst ts) (p :: f)
  | tup {p : Addr} {vs : List V} {ts : List OT} {f : List Addr} : H p = some (.tup vs) → OwnAll K W H vs ts f → Own K W H (.ref p) (.tup ts) (p :: f)
  | ins {p : Addr} {C dx : Addr} {fs : List (Str × V)} {ts : List OT} {f : List Addr} : H p = some (.ins C dx fs) → OwnAll K W H (fs.map (·.2)) ts f → Own K W H (.ref p) (.ins C (fs.map (·.1)) ts) (p :: f)
  | d0 {p : Addr} : H p = some (.dT []) → Own K W H (.ref p) .d0 [p]
  | xo {a d : Addr} {f v : Str} : H d = some (.xd [(f, .str v)]) → Own K W H (.ref a) (.xo a d f v) [d]
  | dk {p : Addr} {kvs : List (L2.Key × V)} {ts : List OT} {f : List Addr} : H p = some (.dK kvs) → OwnAll K W H (kvs.map (·.2)) ts f → Own K W H (.ref p) (.dk (kvs.map (·.1)) ts) (p :: f)
inductive OwnAll (K : PySem.W.Frag) (W : Wd) (H : Hp) : List V → List OT → List Addr → Prop where
  | nil : OwnAll K W H [] [] []
  | cons {v : V} {vs : List V} {t : OT} {ts : List OT} {f g : List Addr} : Own K W H v t f → OwnAll K W H vs ts g → OwnAll K W H (v :: vs) (t :: ts) (f ++ g)
end
def VI (k : Nat) (ps : List D) (rep : V → D → Prop) (o : HO) : Prop := match k with
  | 0 => ∃ x y z : Int, o = .lst [.int x, .int y, .int z]
  | k + 1 => (∃ kvs : List (List Key × V), o = .dT kvs ∧ (kvs.map (·.1)).Nodup ∧ ∀ p ∈ kvs, ∃ d, memo k ps p.1 = some d ∧ rep p.2 d) ∨
      (k = 98 ∧ ∃ (q : Str) (cs : Array Value), ps = [.str q] ∧ o = .tbl cs ∧ TriplesOk cs.toList ∧ ∀ (pos : Pos) (cv : Value), codeAmong pos cs.toList = some cv → ∃ c, cv = .ref c ∧ rep (.ref c) (.cod q))
theorem VI.mono {k : Nat} {ps : List D} {rep rep2 : V → D → Prop} {o : HO} (h : VI k ps rep o) (l : ∀ v d, rep v d → rep2 v d) : VI k ps rep2 o := by
  cases k with
  | zero => exact h
  | succ k =>
    rcases h with ⟨kvs, q1, q2, q3⟩ | ⟨e, q, cs, e1, e2, e3, e4⟩
    · exact .inl ⟨kvs, q1, q2, fun p hp => let ⟨d, w1, w2⟩ := q3 p hp; ⟨d, w1, l _ _ w2⟩⟩
    · exact .inr ⟨e, q, cs, e1, e2, e3, fun pos cv h => let ⟨c, w1, w2⟩ := e4 pos cv h; ⟨c, w1, l _ _ w2⟩⟩
structure VolOk (K : PySem.W.Frag) (W : Wd) (H : Hp) : Prop where
  ok : ∀ a k ps, W.S a = some (k, ps) → W.G a = none ∧ ∃ o, H a = some o ∧ VI k ps (Rep K W) o
  tb : ∀ p q, (lamTab K).lookup p = some q → W.S p = some (99, [.str q]) ∧ ∃ cs, H p = some (.tbl cs)
instance {K : PySem.W.Frag} {W : Wd} {H : Hp} : CoeFun (VolOk K W H) fun _ => ∀ a k ps, W.S a = some (k, ps) → W.G a = none ∧ ∃ o, H a = some o ∧ VI k ps (Rep K W) o := ⟨VolOk.ok⟩
structure Sat (K : PySem.W.Frag) (W : Wd) (H : Hp) (fp xf : List Addr) : Prop where
  sub : ∀ a o, W.G a = some o → H a = some o
  vol : VolOk K W H
  nd : fp.Nodup
  off : ∀ a ∈ fp, W.G a = none ∧ W.S a = none ∧ H a ≠ none
  xof : ∀ a ∈ xf, a ∉ fp ∧ W.S a = none ∧ H a ≠ none
structure Stp (W : Wd) (H : Hp) (f : List Addr) (W' : Wd) (H' : Hp) : Prop where
  wx : ∀ a, H a ≠ none → a ∉ f → W'.G a = W.G a ∧ W'.S a = W.S a
  kp : ∀ a o, H a = some o → a ∉ f → W.S a = none → H' a = some o
  al : ∀ a, H a ≠ none → H' a ≠ none
inductive EnvOk (K : PySem.W.Frag) (W : Wd) (H : Hp) : L2.St → Env → List Addr → List Addr → Prop where
  | nil : EnvOk K W H [] [] [] []
  | no {x : Option V} {σ : L2.St} {e : Env} {fp xf : List Addr} : EnvOk K W H σ e fp xf → EnvOk K W H (x :: σ) (none :: e) fp xf
  | fz {v : V} {d : D} {σ : L2.St} {e : Env} {fp xf : List Addr} : Rep K W v d → EnvOk K W H σ e fp xf → EnvOk K W H (some v :: σ) (some (.fz d) :: e) fp xf
  | nw {v : V} {t : OT} {f : List Addr} {σ : L2.St} {e : Env} {fp xf : List Addr} : Own K W H v t f → EnvOk K W H σ e fp xf → EnvOk K W H (some v :: σ) (some (.nw t) :: e) (f ++ fp) xf
  | ex {v : V} {t : OT} {f : List Addr} {σ : L2.St} {e : Env} {fp xf : List Addr} : Own K W H v t f → EnvOk K W H σ e fp xf → EnvOk K W H (some v :: σ) (some (.ex t) :: e) fp (f ++ xf)
def ResOk (K : PySem.W.Frag) (H : Hp) (fp : List Addr) (W' : Wd) (H' : Hp) (v : V) : Rs → Prop
  | .fz d => Rep K W' v d
  | .nw t => ∃ f, Own K W' H' v t f ∧ f.Nodup ∧ ∀ a ∈ f, H a = none ∧ W'.G a = none ∧ W'.S a = none
  | .br t => ∃ f, Own K W' H' v t f ∧ ∀ a ∈ f, W'.S a = none
  | .ex t => ∃ f, Own K W' H' v t f ∧ ∀ a ∈ f, W'.S a = none ∧ a ∉ fp
inductive ResAll (K : PySem.W.Frag) (H : Hp) (fp : List Addr) (W' : Wd) (H' : Hp) : List V → List Rs → List Addr → Prop where
  | nil : ResAll K H fp W' H' [] [] []
  | fz {v : V} {d : D} {vs : List V} {rs : List Rs} {g : List Addr} : Rep K W' v d → ResAll K H fp W' H' vs rs g → ResAll K H fp W' H' (v :: vs) (.fz d :: rs) g
  | nw {v : V} {t : OT} {f : List Addr} {vs : List V} {rs : List Rs} {g : List Addr} : Own K W' H' v t f → ResAll K H fp W' H' vs rs g → ResAll K H fp W' H' (v :: vs) (.nw t :: rs) (f ++ g)
  | br {v : V} {t : OT} {f : List Addr} {vs : List V} {rs : List Rs} {g : List Addr} : Own K W' H' v t f → (∀ a ∈ f, W'.S a = none) → ResAll K H fp W' H' vs rs g → ResAll K H fp W' H' (v :: vs) (.br t :: rs) g
  | ex {v : V} {t : OT} {f : List Addr} {vs : List V} {rs : List Rs} {g : List Addr} : Own K W' H' v t f → (∀ a ∈ f, W'.S a = none ∧ a ∉ fp) → ResAll K H fp W' H' vs rs g → ResAll K H fp W' H' (v :: vs) (.ex t :: rs) g

structure Wd.Le (W W' : Wd) : Prop where
  g : ∀ a o, W.G a = some o → W'.G a = some o
  s : ∀ a k, W.S a = some k → W'.S a = some k
theorem Wd.Le.refl (W : Wd) : W.Le W := ⟨fun _ _ h => h, fun _ _ h => h⟩
theorem Wd.Le.trans {W W1 W2 : Wd} (a : W.Le W1) (b : W1.Le W2) : W.Le W2 := ⟨fun c o h => b.g c o (a.g c o h), fun c o h => b.s c o (a.s c o h)⟩
theorem SqL.mono {K : PySem.W.Frag} {G G' : Hp} {a : Addr} {xs : List V} (h : ∀ a o, G a = some o → G' a = some o) (q : SqL K G a xs) : SqL K G' a xs := by
  rcases q with (q | ⟨o, q⟩) | q
  · exact .inl (.inl (h _ _ q))
  · exact .inl (.inr ⟨o, h _ _ q⟩)
  · exact .inr q
section
variable {K : PySem.W.Frag} {W W' : Wd} {H H' : Hp}
mutual
theorem Rep.mono (l : W.Le W') : ∀ {v : V} {d : D}, Rep K W v d → Rep K W' v d
  | _, _, .non => .non
  | _, _, .bl b => .bl b
  | _, _, .int i => .int i
  | _, _, .str x => .str x
  | _, _, .lst h r => .lst (l.g _ _ h) (RepAll.mono l r)
  | _, _, .tup h r => .tup (l.g _ _ h) (RepAll.mono l r)
  | _, _, .rol h r => .rol (SqL.mono l.g h) (RepAll.mono l r)
  | _, _, .ins h r => .ins (l.g _ _ h) (RepAll.mono l r)
  | _, _, .vol h => .vol (l.s _ _ h)
  | _, _, .dct h r => .dct (l.g _ _ h) (RepAll.mono l r)
  | _, _, .any a => .any a
  | _, _, .adr a => .adr a
  | _, _, .cod h => .cod (l.g _ _ h)
  | _, _, .obj h k => .obj (l.g _ _ h) (l.g _ _ k)
theorem RepAll.mono (l : W.Le W') : ∀ {vs : List V} {ds : List D}, RepAll K W vs ds → RepAll K W' vs ds
  | _, _, .nil => .nil
  | _, _, .cons h r => .cons (Rep.mono l h) (RepAll.mono l r)
end
mutual
theorem Own.alloc : ∀ {v : V} {t : OT} {f : List Addr}, Own K W H v t f → ∀ a ∈ f, H a ≠ none
  | _, _, _, .leaf _, _, ha => by cases ha
  | _, _, _, .lst h r, a, ha => by
    rcases List.mem_cons.mp ha with e | ha
    · rw [e, h]; exact fun z => nomatch z
    · exact OwnAll.alloc r a ha
  | _, _, _, .tup h r, a, ha => by
    rcases List.mem_cons.mp ha with e | ha
    · rw [e, h]; exact fun z => nomatch z
    · exact OwnAll.alloc r a ha
  | _, _, _, .ins h r, a, ha => by
    rcases List.mem_cons.mp ha with e | ha
    · rw [e, h]; exact fun z => nomatch z
    · exact OwnAll.alloc r a ha
  | _, _, _, .d0 h, a, ha => by
    rw [List.mem_singleton.mp ha, h]; exact fun z => nomatch z
  | _, _, _, .xo h, a, ha => by
    rw [List.mem_singleton.mp ha, h]; exact fun z => nomatch z
  | _, _, _, .dk h r, a, ha => by
    rcases List.mem_cons.mp ha with e | ha
    · rw [e, h]; exact fun z => nomatch z
    · exact OwnAll.alloc r a ha
theorem OwnAll.alloc : ∀ {vs : List V} {ts : List OT} {f : List Addr}, OwnAll K W H vs ts f → ∀ a ∈ f, H a ≠ none
  | _, _, _, .nil, _, ha => by cases ha
  | _, _, _, .cons h r, a, ha => by
    rcases List.mem_append.mp ha with ha | ha
    · exact Own.alloc h a ha
    · exact OwnAll.alloc r a ha
end
mutual
theorem Own.mono (l : W.Le W') : ∀ {v : V} {t : OT} {f : List Addr}, Own K W H v t f → (∀ a ∈ f, ∀ o, H a = some o → H' a = some o) → Own K W' H' v t f
  | _, _, _, .leaf r, _ => .leaf (r.mono l)
  | _, _, _, .lst h r, k => .lst (k _ List.mem_cons_self _ h) (OwnAll.mono l r fun a ha => k a (List.mem_cons_of_mem _ ha))
  | _, _, _, .tup h r, k => .tup (k _ List.mem_cons_self _ h) (OwnAll.mono l r fun a ha => k a (List.mem_cons_of_mem _ ha))
  | _, _, _, .ins h r, k => .ins (k _ List.mem_cons_self _ h) (OwnAll.mono l r fun a ha => k a (List.mem_cons_of_mem _ ha))
  | _, _, _, .d0 h, k => .d0 (k _ List.mem_cons_self _ h)
  | _, _, _, .xo h, k => .xo (k _ List.mem_cons_self _ h)
  | _, _, _, .dk h r, k => .dk (k _ List.mem_cons_self _ h) (OwnAll.mono l r fun a ha => k a (List.mem_cons_of_mem _ ha))
theorem OwnAll.mono (l : W.Le W') : ∀ {vs : List V} {ts : List OT} {f : List Addr}, OwnAll K W H vs ts f → (∀ a ∈ f, ∀ o, H a = some o → H' a = some o) → OwnAll K W' H' vs ts f
  | _, _, _, .nil, _ => .nil
  | _, _, _, .cons h r, k => .cons (Own.mono l h fun a ha => k a (List.mem_append_left _ ha)) (OwnAll.mono l r fun a ha => k a (List.mem_append_right _ ha))
end
theorem EnvOk.mono (l : W.Le W') {σ : L2.St} {e : Env} {fp xf : List Addr} (h : EnvOk K W H σ e fp xf) : (∀ a, a ∈ fp ∨ a ∈ xf → ∀ o, H a = some o → H' a = some o) → EnvOk K W' H' σ e fp xf := by
  induction h with
  | nil => intro _; exact .nil
  | no _ ih => intro k; exact .no (ih k)
  | fz r _ ih => intro k; exact .fz (r.mono l) (ih k)
  | nw r _ ih => intro k; exact .nw (r.mono l fun a ha => k a (.inl (List.mem_append_left _ ha))) (ih fun a ha => k a (ha.imp (List.mem_append_right _) id))
  | ex r _ ih => intro k; exact .ex (r.mono l fun a ha => k a (.inr (List.mem_append_left _ ha))) (ih fun a ha => k a (ha.imp id (List.mem_append_right _)))
theorem ResAll.mono {H0 : Hp} {fp : List Addr} (l : W.Le W') {vs : List V} {rs : List Rs} {g : List Addr} (h : ResAll K H0 fp W H vs rs g) :
    (∀ a o, H a = some o → W.S a = none → H' a = some o) → (∀ a, H a ≠ none → W'.S a = W.S a) → (∀ a ∈ g, W.S a = none) → ResAll K H0 fp W' H' vs rs g := by
  have key : ∀ {v : V} {t : OT} {f : List Addr}, Own K W H v t f → ∀ a ∈ f, H a ≠ none := by
    intro v t f o
    exact (Own.alloc o)
  induction h with
  | nil => intro _ _ _; exact .nil
  | fz r _ ih => intro k s q; exact .fz (r.mono l) (ih k s q)
  | nw r _ ih => intro k s q; exact .nw (r.mono l fun a ha o e => k a o e (q a (List.mem_append_left _ ha))) (ih k s fun a ha => q a (List.mem_append_right _ ha))
  | br r z _ ih => intro k s q; exact .br (r.mono l fun a ha o e => k a o e (z a ha)) (fun a ha => (s a (key r a ha)).trans (z a ha)) (ih k s q)
  | ex r z _ ih => intro k s q; exact .ex (r.mono l fun a ha o e => k a o e (z a ha).1) (fun a ha => ⟨(s a (key r a ha)).trans (z a ha).1, (z a ha).2⟩) (ih k s q)
end
section
variable {K : PySem.W.Frag} {W W1 W2 W' : Wd} {H H1 H2 H' : Hp} {f f1 fp xf : List Addr}
theorem Stp.refl : Stp W H f W H := ⟨fun _ _ _ => ⟨rfl, rfl⟩, fun _ _ h _ _ => h, fun _ h => h⟩
theorem Stp.le (s : Sat K W H fp xf) (t : Stp W H f W' H') (h : ∀ a ∈ f, a ∈ fp ∨ H a = none) : W.Le W' := by
  have key : ∀ a, (W.G a ≠ none ∨ W.S a ≠ none) → H a ≠ none ∧ a ∉ f := by
    intro a z
    have ha : H a ≠ none := by
      rcases z with z | z
      · cases q : W.G a with
        | none => exact absurd q z
        | some o => rw [s.sub a o q]; exact fun z => nomatch z
      · cases q : W.S a with
        | none => exact absurd q z
        | some o =>
          obtain ⟨k, ps⟩ := o
          obtain ⟨_, o, e, _⟩ := s.vol a k ps q
          rw [e]; exact fun z => nomatch z
    refine ⟨ha, fun m => ?_⟩
    rcases h a m with m | m
    · obtain ⟨g1, g2, _⟩ := s.off a m
      rcases z with z | z
      · exact z g1
      · exact z g2
    · exact ha m
  refine ⟨fun a o e => ?_, fun a o e => ?_⟩
  · obtain ⟨k1, k2⟩ := key a (.inl (by rw [e]; exact fun z => nomatch z))
    rw [(t.wx a k1 k2).1]; exact e
  · obtain ⟨k1, k2⟩ := key a (.inr (by rw [e]; exact fun z => nomatch z))
    rw [(t.wx a k1 k2).2]; exact e
theorem Stp.trans (a : Stp W H f W1 H1) (b : Stp W1 H1 f1 W2 H2) (h : ∀ a ∈ f1, a ∈ f ∨ H a = none) : Stp W H f W2 H2 := by
  have nf : ∀ c, H c ≠ none → c ∉ f → c ∉ f1 := fun c hc hf m => (h c m).elim hf hc
  refine ⟨fun c hc hf => ?_, fun c o e hf hs => ?_, fun c hc => b.al c (a.al c hc)⟩
  · obtain ⟨x1, x2⟩ := a.wx c hc hf
    obtain ⟨y1, y2⟩ := b.wx c (a.al c hc) (nf c hc hf)
    exact ⟨y1.trans x1, y2.trans x2⟩
  · have hc : H c ≠ none := by rw [e]; exact fun z => nomatch z
    exact b.kp c o (a.kp c o e hf hs) (nf c hc hf) ((a.wx c hc hf).2.trans hs)
theorem Stp.tr0 (a : Stp W H [] W1 H1) (b : Stp W1 H1 [] W2 H2) : Stp W H [] W2 H2 := a.trans b fun _ m => by cases m
theorem Stp.up (a : Stp W H [] W1 H1) : Stp W H f W1 H1 := ⟨fun c h _ => a.wx c h (by simp), fun c o e _ s => a.kp c o e (by simp) s, a.al⟩
theorem EnvOk.keep {σ : L2.St} {e : Env} (h : EnvOk K W H σ e fp xf) (s : Sat K W H fp xf) (t : Stp W H [] W' H') : EnvOk K W' H' σ e fp xf :=
  h.mono (t.le s fun _ m => by cases m) fun a m o q => t.kp a o q (by simp) (m.elim (fun z => (s.off a z).2.1) fun z => (s.xof a z).2.1)
theorem some_ne {α : Type} {a : α} {o : Option α} (h : o = some a) : o ≠ none := by rw [h]; exact fun z => nomatch z
theorem Stp.new {p : Addr} {o : HO} (h : H p = none) : Stp W H [] W (upd H p o) :=
  ⟨fun _ _ _ => ⟨rfl, rfl⟩, fun a u e _ _ => by rw [upd_ne (ne_of_none e h)]; exact e, fun a z => by
    by_cases e : a = p
    · rw [e, h] at z; exact absurd rfl z
    · rw [upd_ne e]; exact z⟩
theorem Sat.new {p : Addr} {o : HO} (s : Sat K W H fp xf) (h : H p = none) : Sat K W (upd H p o) fp xf := by
  have n : ∀ a, H a ≠ none → upd H p o a = H a := fun a z => upd_ne fun e => z (by rw [e]; exact h)
  have nn : ∀ a, H a ≠ none → upd H p o a ≠ none := fun a z => by rw [n a z]; exact z
  refine ⟨fun a u e => ?_, ⟨fun a k ps e => ?_, fun p q e => let ⟨x, cs, y⟩ := s.vol.tb p q e; ⟨x, cs, by rw [n p (some_ne y)]; exact y⟩⟩, s.nd, fun a m => ?_, fun a m => ?_⟩
  · have q := s.sub a u e
    rw [n a (some_ne q)]; exact q
  · obtain ⟨g, u, q, v⟩ := s.vol a k ps e
    exact ⟨g, u, by rw [n a (some_ne q)]; exact q, v⟩
  · obtain ⟨a1, a2, a3⟩ := s.off a m
    exact ⟨a1, a2, nn a a3⟩
  · obtain ⟨a1, a2, a3⟩ := s.xof a m
    exact ⟨a1, a2, nn a a3⟩
theorem Sat.free (s : Sat K W H fp xf) {p : Addr} (h : H p = none) : W.G p = none ∧ W.S p = none := by
  constructor
  · cases q : W.G p with
    | none => rfl
    | some o => rw [s.sub p o q] at h; cases h
  · cases q : W.S p with
    | none => rfl
    | some o =>
      obtain ⟨k, ps⟩ := o
      obtain ⟨_, o, e, _⟩ := s.vol p k ps q
      rw [e] at h; cases h

structure Frz (K : PySem.W.Frag) (W : Wd) (H : Hp) (f : List Addr) (W' : Wd) : Prop where
  out : ∀ a, a ∉ f → W'.G a = W.G a ∧ W'.S a = W.S a
  g : ∀ a ∈ f, ∀ o, W'.G a = some o → H a = some o
  s : ∀ a ∈ f, ∀ k ps, W'.S a = some (k, ps) → W'.G a = none ∧ H a = some (.dT []) ∧ k ≠ 0
theorem Frz.le (z : Frz K W H f W') (h : ∀ a ∈ f, W.G a = none ∧ W.S a = none) : W.Le W' := by
  refine ⟨fun a o e => ?_, fun a o e => ?_⟩
  · have n : a ∉ f := fun m => by rw [(h a m).1] at e; cases e
    rw [(z.out a n).1]; exact e
  · have n : a ∉ f := fun m => by rw [(h a m).2] at e; cases e
    rw [(z.out a n).2]; exact e
theorem Frz.trans {g : List Addr} (a : Frz K W H f W1) (b : Frz K W1 H g W2) (d : ∀ x ∈ f, x ∉ g) : Frz K W H (f ++ g) W2 := by
  refine ⟨fun x n => ?_, fun x m o e => ?_, fun x m k ps e => ?_⟩
  · have n1 : x ∉ f := fun z => n (List.mem_append_left _ z)
    have n2 : x ∉ g := fun z => n (List.mem_append_right _ z)
    exact ⟨(b.out x n2).1.trans (a.out x n1).1, (b.out x n2).2.trans (a.out x n1).2⟩
  · rcases List.mem_append.mp m with m | m
    · rw [(b.out x (d x m)).1] at e; exact a.g x m o e
    · exact b.g x m o e
  · rcases List.mem_append.mp m with m | m
    · rw [(b.out x (d x m)).2] at e
      rw [(b.out x (d x m)).1]
      exact a.s x m k ps e
    · exact b.s x m k ps e
def Wd.put (W : Wd) (p : Addr) (o : HO) : Wd := ⟨upd W.G p o, W.S⟩
theorem Frz.put (z : Frz K W H f W') {p : Addr} {o : HO} (h : H p = some o) (n : W.S p = none) (m : p ∉ f) : Frz K W H (p :: f) (W'.put p o) := by
  refine ⟨fun a na => ?_, fun a ma u e => ?_, fun a ma k ps e => ?_⟩
  · have n1 : a ≠ p := fun q => na (by rw [q]; exact List.mem_cons_self)
    have n2 : a ∉ f := fun q => na (List.mem_cons_of_mem _ q)
    exact ⟨(upd_ne n1).trans (z.out a n2).1, (z.out a n2).2⟩
  · by_cases q : a = p
    · subst q
      have e2 : upd W'.G a o a = some u := e
      rw [upd_same] at e2
      cases e2
      exact h
    · have e2 : upd W'.G p o a = some u := e
      rw [upd_ne q] at e2
      exact z.g a ((List.mem_cons.mp ma).resolve_left q) u e2
  · by_cases q : a = p
    · subst q
      have e2 : W'.S a = some (k, ps) := e
      rw [(z.out a m).2, n] at e2
      cases e2
    · have e2 : W'.S a = some (k, ps) := e
      obtain ⟨r1, r2⟩ := z.s a ((List.mem_cons.mp ma).resolve_left q) k ps e2
      exact ⟨(upd_ne q).trans r1, r2⟩
theorem Frz.leP (z : Frz K W H f W') {p : Addr} {o : HO} (n : W'.G p = none) : W'.Le (W'.put p o) := ⟨fun a u e => by
  have q : a ≠ p := fun q => by rw [q, n] at e; cases e
  exact (upd_ne q).trans e, fun _ _ e => e⟩
mutual
theorem freeze : ∀ {t : OT} {v : V} {d : D} {f : List Addr} {W : Wd}, Own K W H v t f → Fz t d → f.Nodup → (∀ a ∈ f, W.G a = none ∧ W.S a = none) → ∃ W', Frz K W H f W' ∧ Rep K W' v d ∧ (t.fzd ≠ none → W'.S = W.S)
  | .leaf _, v, _, _, W, .leaf r, .leaf _, _, _ => ⟨W, ⟨fun _ _ => ⟨rfl, rfl⟩, fun _ m => (by cases m), fun _ m => (by cases m)⟩, r, fun _ => rfl⟩
  | _, _, _, _, W, .lst (p := p) (f := f) h r, .lst z, nd, off => by
    obtain ⟨n1, n2⟩ := List.nodup_cons.mp nd
    obtain ⟨W', F, R, sk⟩ := freezeAll r z n2 fun a m => off a (List.mem_cons_of_mem _ m)
    have g : W'.G p = none := (F.out p n1).1.trans (off p List.mem_cons_self).1
    exact ⟨_, F.put h (off p List.mem_cons_self).2 n1, .lst upd_same (R.mono (F.leP g)), fun q => sk fun q2 => q (by rw [OT.fzd, q2] <;> rfl)⟩
  | _, _, _, _, W, .tup (p := p) (f := f) h r, .tup z, nd, off => by
    obtain ⟨n1, n2⟩ := List.nodup_cons.mp nd
    obtain ⟨W', F, R, sk⟩ := freezeAll r z n2 fun a m => off a (List.mem_cons_of_mem _ m)
    have g : W'.G p = none := (F.out p n1).1.trans (off p List.mem_cons_self).1
    exact ⟨_, F.put h (off p List.mem_cons_self).2 n1, .tup upd_same (R.mono (F.leP g)), fun q => sk fun q2 => q (by rw [OT.fzd, q2] <;> rfl)⟩
  | _, _, _, _, W, .ins (p := p) (f := f) h r, .ins z, nd, off => by
    obtain ⟨n1, n2⟩ := List.nodup_cons.mp nd
    obtain ⟨W', F, R, sk⟩ := freezeAll r z n2 fun a m => off a (List.mem_cons_of_mem _ m)
    have g : W'.G p = none := (F.out p n1).1.trans (off p List.mem_cons_self).1
    exact ⟨_, F.put h (off p List.mem_cons_self).2 n1, .ins upd_same (R.mono (F.leP g)), fun q => sk fun q2 => q (by rw [OT.fzd, q2] <;> rfl)⟩
  | _, _, _, _, W, .dk (p := p) (f := f) h r, .dk z, nd, off => by
    obtain ⟨n1, n2⟩ := List.nodup_cons.mp nd
    obtain ⟨W', F, R, sk⟩ := freezeAll r z n2 fun a m => off a (List.mem_cons_of_mem _ m)
    have g : W'.G p = none := (F.out p n1).1.trans (off p List.mem_cons_self).1
    exact ⟨_, F.put h (off p List.mem_cons_self).2 n1, .dct upd_same (R.mono (F.leP g)), fun q => sk fun q2 => q (by rw [OT.fzd, q2] <;> rfl)⟩
  | _, _, _, _, W, .d0 (p := p) h, .d0 k ps, _, off => by
    obtain ⟨o1, o2⟩ := off p List.mem_cons_self
    refine ⟨⟨W.G, fun a => if a = p then some (k + 1, ps) else W.S a⟩, ⟨fun a n => ?_, fun a m o e => ?_, fun a m k' ps' e => ?_⟩, .vol (if_pos rfl), fun q => absurd (by rw [OT.fzd]) q⟩
    · have q : a ≠ p := fun z => n (by rw [z]; exact List.mem_cons_self)
      exact ⟨rfl, if_neg q⟩
    · rw [List.mem_singleton.mp m] at e
      rw [show W.G p = none from o1] at e; cases e
    · rw [List.mem_singleton.mp m] at e ⊢
      have e2 : (if p = p then some (k + 1, ps) else W.S p) = some (k', ps') := e
      rw [if_pos rfl] at e2
      cases e2
      exact ⟨o1, h, Nat.succ_ne_zero k⟩
theorem freezeAll : ∀ {ts : List OT} {vs : List V} {ds : List D} {f : List Addr} {W : Wd}, OwnAll K W H vs ts f → FzAll ts ds → f.Nodup → (∀ a ∈ f, W.G a = none ∧ W.S a = none) → ∃ W', Frz K W H f W' ∧ RepAll K W' vs ds ∧ (fzdAll ts ≠ none → W'.S = W.S)
  | _, _, _, _, W, .nil, .nil, _, _ => ⟨W, ⟨fun _ _ => ⟨rfl, rfl⟩, fun _ m => (by cases m), fun _ m => (by cases m)⟩, .nil, fun _ => rfl⟩
  | _, _, _, _, W, .cons (f := f) (g := g) h r, .cons z zs, nd, off => by
    obtain ⟨n1, n2, n3⟩ := List.nodup_append.mp nd
    obtain ⟨W1, F1, R1, k1⟩ := freeze h z n1 fun a m => off a (List.mem_append_left _ m)
    have d : ∀ x ∈ f, x ∉ g := fun x m1 m2 => n3 x m1 x m2 rfl
    have off2 : ∀ a ∈ g, W1.G a = none ∧ W1.S a = none := fun a m => by
      have n : a ∉ f := fun q => d a q m
      obtain ⟨e1, e2⟩ := F1.out a n
      obtain ⟨o1, o2⟩ := off a (List.mem_append_right _ m)
      exact ⟨e1.trans o1, e2.trans o2⟩
    have l1 : W.Le W1 := F1.le fun a m => off a (List.mem_append_left _ m)
    obtain ⟨W2, F2, R2, k2⟩ := freezeAll (r.mono l1 fun _ _ _ e => e) zs n2 off2
    refine ⟨W2, F1.trans F2 d, .cons (R1.mono (F2.le off2)) R2, fun q => ?_⟩
    rw [fzdAll] at q
    rw [k2 fun q2 => q (by rw [q2]; cases OT.fzd _ <;> rfl), k1 fun q1 => q (by rw [q1] <;> rfl)]
end
theorem Frz.sat (z : Frz K W H f W') (s : Sat K W H fp xf) (h : ∀ a ∈ f, W.G a = none ∧ W.S a = none ∧ H a ≠ none) (d : ∀ a ∈ f, a ∉ fp ∧ a ∉ xf) : Sat K W' H fp xf := by
  have l := z.le fun a m => ⟨(h a m).1, (h a m).2.1⟩
  refine ⟨fun a o e => ?_, ⟨fun a k ps e => ?_, fun p q e => let ⟨x, y⟩ := s.vol.tb p q e; ⟨l.s _ _ x, y⟩⟩, s.nd, fun a m => ?_, fun a m => ?_⟩
  · by_cases m : a ∈ f
    · exact z.g a m o e
    · rw [(z.out a m).1] at e; exact s.sub a o e
  · by_cases m : a ∈ f
    · obtain ⟨e1, e2, e3⟩ := z.s a m k ps e
      refine ⟨e1, _, e2, ?_⟩
      cases k with
      | zero => exact absurd rfl e3
      | succ k => exact .inl ⟨[], rfl, List.nodup_nil, fun _ m => by cases m⟩
    · rw [(z.out a m).2] at e
      obtain ⟨e1, o, e2, e3⟩ := s.vol a k ps e
      exact ⟨(z.out a m).1.trans e1, o, e2, e3.mono fun _ _ w => w.mono l⟩
  · have n : a ∉ f := fun q => (d a q).1 m
    obtain ⟨a1, a2, a3⟩ := s.off a m
    exact ⟨(z.out a n).1.trans a1, (z.out a n).2.trans a2, a3⟩
  · have n : a ∉ f := fun q => (d a q).2 m
    obtain ⟨a1, a2, a3⟩ := s.xof a m
    exact ⟨a1, (z.out a n).2.trans a2, a3⟩
theorem Frz.stp (z : Frz K W H f W') : Stp W H f W' H := ⟨fun a _ n => z.out a n, fun _ _ e _ _ => e, fun _ h => h⟩
end
theorem Sat.memo {K : PySem.W.Frag} {W : Wd} {H : Hp} {fp xf : List Addr} {a : Addr} {k : Nat} {ps : List D} {key : List Key} {d : D} (S : Sat K W H fp xf) (s : W.S a = some (k + 1, ps)) (hm : memo k ps key = some d) :
    W.G a = none ∧ ∃ o, H a = some o ∧ ∃ kvs : List (List Key × V), o = .dT kvs ∧ (kvs.map (·.1)).Nodup ∧ ∀ p ∈ kvs, ∃ d, memo k ps p.1 = some d ∧ Rep K W p.2 d := by
  obtain ⟨g, o, h, v⟩ := S.vol a _ _ s
  rcases v with v | ⟨rfl, _⟩
  · exact ⟨g, o, h, v⟩
  · cases (show none = some d from hm)
end R
namespace R
open PySem PySem.Spec PyProof.Rows L2
def LP (K : PySem.W.Frag) (m : DE) : TE := fun σ H Q => ∃ (W : Wd) (env : Env) (fp xf : List Addr) (Q0 : Rs → Prop), EnvOk K W H σ env fp xf ∧ Sat K W H fp xf ∧ m env Q0 ∧
  ∀ r, Q0 r → ∀ v W' H', Stp W H [] W' H' → Sat K W' H' fp xf → ResOk K H fp W' H' v r → Q v H'
def LT (K : PySem.W.Frag) (m : DT) : TT := fun σ H Q => ∃ (W : Wd) (env : Env) (fp xf : List Addr) (Q0 : Bool → Prop), EnvOk K W H σ env fp xf ∧ Sat K W H fp xf ∧ m env Q0 ∧
  ∀ r, Q0 r → ∀ W' H', Stp W H [] W' H' → Sat K W' H' fp xf → Q r H'
def Fresh (H : Hp) (W' : Wd) (g : List Addr) : Prop := g.Nodup ∧ ∀ a ∈ g, H a = none ∧ W'.G a = none ∧ W'.S a = none
def LA (K : PySem.W.Frag) (m : DA) : TA := fun σ H Q => ∃ (W : Wd) (env : Env) (fp xf : List Addr) (Q0 : List Rs → Prop), EnvOk K W H σ env fp xf ∧ Sat K W H fp xf ∧ m env Q0 ∧
  ∀ rs, Q0 rs → ∀ vs W' H' g, Stp W H [] W' H' → Sat K W' H' fp xf → ResAll K H fp W' H' vs rs g → Fresh H W' g → Q vs H'
theorem pe_imp {X : Cx} {e : Expr} {t t' : TE} (h : PE X e t) (k : ∀ σ H Q, t' σ H Q → t σ H Q) : PE X e t' := ⟨fun pins s σ H Q I w => h.run pins s σ H Q I (k σ H Q w)⟩
theorem pt_imp {X : Cx} {e : Expr} {t t' : TT} (h : PT X e t) (k : ∀ σ H Q, t' σ H Q → t σ H Q) : PT X e t' := ⟨fun pins s σ H Q I w => h.run pins s σ H Q I (k σ H Q w)⟩
theorem pw_imp {X : Cx} {e : Expr} {t t' : TT} (h : PW X e t) (k : ∀ σ H Q, t' σ H Q → t σ H Q) : PW X e t' := ⟨fun wh pins s σ H Q I w => h.run wh pins s σ H Q I (k σ H Q w)⟩
theorem pa_imp {X : Cx} {e : List Expr} {t t' : TA} (h : PA X e t) (k : ∀ σ H Q, t' σ H Q → t σ H Q) : PA X e t' := ⟨fun pos pins s σ H Q I w => h.run pos pins s σ H Q I (k σ H Q w)⟩
theorem ps_imp {X : Cx} {e : Stmt} {t t' : TS} (h : PS X e t) (k : ∀ D σ H, t' D σ H → t D σ H) : PS X e t' := ⟨fun pins s σ H D I w => h.run pins s σ H D I (k D σ H w)⟩
theorem pss_imp {X : Cx} {e : List Stmt} {t t' : TS} (h : PSs X e t) (k : ∀ D σ H, t' D σ H → t D σ H) : PSs X e t' := ⟨fun pins s σ H D I w => h.run pins s σ H D I (k D σ H w)⟩
section
variable {K : PySem.W.Frag} {W W1 W2 W' : Wd} {H H1 H2 H' : Hp} {f f1 fp xf : List Addr} {σ : L2.St} {Q : VK} {r : Rs} {v : V} {env : Env}
theorem Stp.kpS (t : Stp W H [] W' H') {a : Addr} (h : H a ≠ none) : W'.G a = W.G a ∧ W'.S a = W.S a := t.wx a h (by simp)
theorem ResOk.keep (h : ResOk K H fp W1 H1 v r) (t : Stp W1 H1 [] W2 H2) (l : W1.Le W2) : ResOk K H fp W2 H2 v r := by
  cases r with
  | fz d => exact Rep.mono l h
  | nw x =>
    obtain ⟨f, o, nd, z⟩ := h
    refine ⟨f, o.mono l fun a m u e => t.kp a u e (by simp) (z a m).2.2, nd, fun a m => ?_⟩
    obtain ⟨e1, e2⟩ := t.kpS (o.alloc a m)
    obtain ⟨z1, z2, z3⟩ := z a m
    exact ⟨z1, e1.trans z2, e2.trans z3⟩
  | br x =>
    obtain ⟨f, o, z⟩ := h
    exact ⟨f, o.mono l fun a m u e => t.kp a u e (by simp) (z a m), fun a m => (t.kpS (o.alloc a m)).2.trans (z a m)⟩
  | ex x =>
    obtain ⟨f, o, z⟩ := h
    exact ⟨f, o.mono l fun a m u e => t.kp a u e (by simp) (z a m).1, fun a m => ⟨(t.kpS (o.alloc a m)).2.trans (z a m).1, (z a m).2⟩⟩
theorem ResOk.back (h : ResOk K H1 fp W2 H2 v r) (t : ∀ a, H a ≠ none → H1 a ≠ none) : ResOk K H fp W2 H2 v r := by
  cases r with
  | fz d => exact h
  | nw x =>
    obtain ⟨f, o, nd, z⟩ := h
    refine ⟨f, o, nd, fun a m => ⟨?_, (z a m).2⟩⟩
    cases q : H a with
    | none => rfl
    | some u => exact absurd (z a m).1 (t a (by rw [q]; exact fun z => nomatch z))
  | br x => exact h
  | ex x => exact h
theorem fresh_back {g : List Addr} (h : Fresh H1 W2 g) (t : ∀ a, H a ≠ none → H1 a ≠ none) : Fresh H W2 g := ⟨h.1, fun a m => ⟨by
  cases q : H a with
  | none => rfl
  | some u => exact absurd (h.2 a m).1 (t a (by rw [q]; exact fun z => nomatch z)), (h.2 a m).2⟩⟩
theorem ResAll.back {vs : List V} {rs : List Rs} {g : List Addr} (h : ResAll K H1 fp W2 H2 vs rs g) : ResAll K H fp W2 H2 vs rs g := by
  induction h with
  | nil => exact .nil
  | fz r _ ih => exact .fz r ih
  | nw r _ ih => exact .nw r ih
  | br r z _ ih => exact .br r z ih
  | ex r z _ ih => exact .ex r z ih
theorem ffz_ok (S : Sat K W H fp xf) (t : Stp W H [] W1 H1) (S1 : Sat K W1 H1 fp xf) (o : ResOk K H fp W1 H1 v r) : ∃ W', Stp W H [] W' H1 ∧ Sat K W' H1 fp xf ∧ W1.Le W' ∧ ResOk K H fp W' H1 v r.ffz := by
  cases r with
  | fz d => exact ⟨W1, t, S1, .refl _, o⟩
  | br d => exact ⟨W1, t, S1, .refl _, o⟩
  | ex d => exact ⟨W1, t, S1, .refl _, o⟩
  | nw x =>
    cases q : x.fzd with
    | none => exact ⟨W1, t, S1, .refl _, by show ResOk K H fp W1 H1 v (match x.fzd with | some d => .fz d | none => .nw x); rw [q]; exact o⟩
    | some d =>
      obtain ⟨f, ow, nd, z⟩ := o
      obtain ⟨W', F, R, _⟩ := freeze ow (Fz.of q) nd fun a m => (z a m).2
      have za : ∀ a ∈ f, a ∉ fp ∧ a ∉ xf := fun a m => ⟨fun m2 => (S.off a m2).2.2 (z a m).1, fun m2 => (S.xof a m2).2.2 (z a m).1⟩
      refine ⟨W', ?_, F.sat S1 (fun a m => ⟨(z a m).2.1, (z a m).2.2, ow.alloc a m⟩) za, F.le fun a m => (z a m).2, ?_⟩
      · exact t.trans F.stp fun a m => .inr (z a m).1
      · show ResOk K H fp W' H1 v (match x.fzd with | some d => .fz d | none => .nw x)
        rw [q]; exact R
structure Ops (K : PySem.W.Frag) (H : Hp) (Q : VK) (Q0 : Rs → Prop) (W2 : Wd) (H2 : Hp) (W : Wd) (fp xf : List Addr) : Prop where
  S : Sat K W H fp xf
  t : Stp W H [] W2 H2
  S2 : Sat K W2 H2 fp xf
  k : ∀ r, Q0 r → ∀ v W' H', Stp W H [] W' H' → Sat K W' H' fp xf → ResOk K H fp W' H' v r → Q v H'
theorem Ops.fin {Q0 : Rs → Prop} (o : Ops K H Q Q0 W2 H2 W fp xf) {d : D} (q : Q0 (.fz d)) (h : Rep K W2 v d) : Q v H2 := o.k _ q v W2 H2 o.t o.S2 h
theorem Ops.res {Q0 : Rs → Prop} (o : Ops K H Q Q0 W2 H2 W fp xf) (q : Q0 r) (h : ResOk K H fp W2 H2 v r) : Q v H2 := o.k _ q v W2 H2 o.t o.S2 h
theorem OwnAll.leafs {vs : List V} : ∀ {vs : List V} {ds : List D}, RepAll K W vs ds → OwnAll K W H vs (ds.map .leaf) []
  | _, _, .nil => .nil
  | _, _, .cons r rs => .cons (f := []) (g := []) (.leaf r) (OwnAll.leafs (vs := []) rs)
theorem Ops.newL {Q0 : Rs → Prop} (o : Ops K H Q Q0 W2 H2 W fp xf) {ds : List D} {vs : List V} (q : Q0 (.nw (.lst (ds.map .leaf)))) (h : RepAll K W2 vs ds) (p : Addr) (n : H2 p = none) : Q (.ref p) (upd H2 p (.lst vs)) := by
  have hn : H p = none := by
    cases z : H p with
    | none => rfl
    | some u => exact absurd n (o.t.al p (some_ne z))
  refine o.k _ q _ W2 _ (o.t.tr0 (.new n)) (o.S2.new n) ⟨[p], .lst upd_same (OwnAll.leafs (vs := []) h), List.nodup_cons.mpr ⟨by simp, List.nodup_nil⟩, fun a m => ?_⟩
  rw [List.mem_singleton.mp m]
  exact ⟨hn, (o.S2.free n).1, (o.S2.free n).2⟩
theorem Ops.newT {Q0 : Rs → Prop} (o : Ops K H Q Q0 W2 H2 W fp xf) {ds : List D} {vs : List V} (q : Q0 (.nw (.tup (ds.map .leaf)))) (h : RepAll K W2 vs ds) (p : Addr) (n : H2 p = none) : Q (.ref p) (upd H2 p (.tup vs)) := by
  have hn : H p = none := by
    cases z : H p with
    | none => rfl
    | some u => exact absurd n (o.t.al p (some_ne z))
  refine o.k _ q _ W2 _ (o.t.tr0 (.new n)) (o.S2.new n) ⟨[p], .tup upd_same (OwnAll.leafs (vs := []) h), List.nodup_cons.mpr ⟨by simp, List.nodup_nil⟩, fun a m => ?_⟩
  rw [List.mem_singleton.mp m]
  exact ⟨hn, (o.S2.free n).1, (o.S2.free n).2⟩
theorem LP.two {ma mb : DE} {R : Rs → Rs → (Rs → Prop) → Prop} {q : V → V → Hp → Prop} (h : LP K (mOp R ma mb) σ H Q)
    (hop : ∀ (W : Wd) (fp xf : List Addr) (Q0 : Rs → Prop) r1 r2 v1 v2 W2 H2, R r1 r2 Q0 → Ops K H Q Q0 W2 H2 W fp xf → ResOk K H fp W2 H2 v1 r1 → ResOk K H fp W2 H2 v2 r2 → q v1 v2 H2) : LP K ma σ H fun x H1 => LP K mb σ H1 fun y H2 => q x y H2 := by
  obtain ⟨W, env, fp, xf, Q0, E, S, hm, k⟩ := h
  refine ⟨W, env, fp, xf, _, E, S, hm, fun r1 h1 v1 W1' H1 t1' S1' o1' => ?_⟩
  obtain ⟨W1, t1, S1, _, o1⟩ := ffz_ok S t1' S1' o1'
  refine ⟨W1, env, fp, xf, _, E.keep S t1, S1, h1, fun r2 h2 v2 W2' H2 t2' S2' o2' => ?_⟩
  obtain ⟨W2, t2, S2, _, o2⟩ := ffz_ok S1 t2' S2' o2'
  have l := t2.le S1 fun _ m => by cases m
  exact hop W fp xf Q0 r1.ffz r2.ffz v1 v2 W2 H2 h2 ⟨S, t1.tr0 t2, S2, k⟩ (o1.keep t2 l) (o2.back t1.al)
theorem LP.one {ma : DE} {R : Rs → (Rs → Prop) → Prop} {q : V → Hp → Prop} (h : LP K (mUn R ma) σ H Q)
    (hop : ∀ (W : Wd) (fp xf : List Addr) (Q0 : Rs → Prop) r1 v1 W2 H2, R r1 Q0 → Ops K H Q Q0 W2 H2 W fp xf → ResOk K H fp W2 H2 v1 r1 → q v1 H2) : LP K ma σ H q := by
  obtain ⟨W, env, fp, xf, Q0, E, S, hm, k⟩ := h
  refine ⟨W, env, fp, xf, _, E, S, hm, fun r1 h1 v1 W1' H1 t1' S1' o1' => ?_⟩
  obtain ⟨W1, t1, S1, _, o1⟩ := ffz_ok S t1' S1' o1'
  exact hop W fp xf Q0 r1.ffz v1 W1 H1 h1 ⟨S, t1, S1, k⟩ o1
theorem OwnAll.reps : ∀ {vs : List V} {ts : List OT} {ds : List D} {f : List Addr}, OwnAll K W H vs ts f → leaves ts = some ds → RepAll K W vs ds
  | _, _, _, _, .nil, h => by cases h; exact .nil
  | _, .leaf d :: ts, es, _, .cons (.leaf r) rs, h => by
    cases q : leaves ts with
    | none => rw [leaves, q] at h; cases h
    | some ds =>
      rw [leaves, q] at h
      cases h
      exact .cons r (OwnAll.reps rs q)
theorem els_L {ds : List D} (h : r.els true = some ds) (o : ResOk K H fp W2 H2 v r) (S : Sat K W2 H2 fp xf) : ∃ p vs, v = .ref p ∧ H2 p = some (.lst vs) ∧ RepAll K W2 vs ds := by
  unfold Rs.els at h
  split at h
  · cases h
    cases (show Rep K W2 v (.lst ds) from o) with
    | lst g r => exact ⟨_, _, rfl, S.sub _ _ g, r⟩
  · cases h
  · obtain ⟨f, o, _⟩ := o
    cases o with
    | lst g r => exact ⟨_, _, rfl, g, r.reps h⟩
  · obtain ⟨f, o, _⟩ := o
    cases o with
    | lst g r => exact ⟨_, _, rfl, g, r.reps h⟩
  · cases h
  · cases h
  · cases h
theorem els_T {ds : List D} (h : r.els false = some ds) (o : ResOk K H fp W2 H2 v r) (S : Sat K W2 H2 fp xf) : ∃ p vs, v = .ref p ∧ H2 p = some (.tup vs) ∧ RepAll K W2 vs ds := by
  unfold Rs.els at h
  split at h
  · cases h
  · cases h
    cases (show Rep K W2 v (.tup ds) from o) with
    | tup g r => exact ⟨_, _, rfl, S.sub _ _ g, r⟩
  · cases h
  · cases h
  · obtain ⟨f, o, _⟩ := o
    cases o with
    | tup g r => exact ⟨_, _, rfl, g, r.reps h⟩
  · obtain ⟨f, o, _⟩ := o
    cases o with
    | tup g r => exact ⟨_, _, rfl, g, r.reps h⟩
  · cases h
theorem RepAll.len {vs : List V} {ds : List D} (h : RepAll K W vs ds) : vs.length = ds.length := by
  induction ds generalizing vs with
  | nil => cases h; rfl
  | cons d ds ih =>
    cases h with
    | cons r rs => rw [List.length_cons, List.length_cons, ih rs]
theorem RepAll.app : ∀ {vs us : List V} {ds es : List D}, RepAll K W vs ds → RepAll K W us es → RepAll K W (vs ++ us) (ds ++ es)
  | _, _, _, _, .nil, h => h
  | _, _, _, _, .cons r rs, h => .cons r (RepAll.app rs h)
theorem RepAll.rep {vs : List V} {ds : List D} (h : RepAll K W vs ds) : ∀ n : Nat, RepAll K W (List.replicate n vs).flatten (List.replicate n ds).flatten
  | 0 => .nil
  | n + 1 => by
    rw [List.replicate_succ, List.replicate_succ, List.flatten_cons, List.flatten_cons]
    exact RepAll.app h (RepAll.rep h n)
theorem int_of {i : Int} (h : ResOk K H fp W' H' v (.fz (.int i))) : v = .int i := by
  have h : Rep K W' v (.int i) := h
  cases h
  rfl
theorem bl_of {i : Bool} (h : ResOk K H fp W' H' v (.fz (.bl i))) : v = .bl i := by
  have h : Rep K W' v (.bl i) := h
  cases h
  rfl
theorem str_of {i : Str} (h : ResOk K H fp W' H' v (.fz (.str i))) : v = .str i := by
  have h : Rep K W' v (.str i) := h
  cases h
  rfl
theorem i2_inv {C : Int → Int → Prop} {g : Int → Int → D} {x y : Rs} {Q : Rs → Prop} (h : i2 C g x y Q) : ∃ i j, x = .fz (.int i) ∧ y = .fz (.int j) ∧ C i j ∧ Q (.fz (g i j)) := by
  unfold i2 at h
  split at h
  · exact ⟨_, _, rfl, rfl, h⟩
  · exact h.elim
theorem EnvOk.get0 {σ : L2.St} {fp0 xf0 : List Addr} (E : EnvOk K W H σ env fp0 xf0) : ∀ {i : Nat} {r : Rs}, env[i]? = some (some r) → (∀ a ∈ fp0, W.S a = none) → (∀ a ∈ xf0, W.S a = none ∧ a ∉ fp) → ∃ v, σ[i]? = some (some v) ∧ ResOk K H fp W H v r.rd ∧ (∀ d, r = .fz d → Rep K W v d) := by
  induction E with
  | nil => intro _ _ e; simp at e
  | no _ ih =>
    intro i r e a b
    cases i with
    | zero => simp at e
    | succ i => exact ih (by simpa using e) a b
  | fz q _ ih =>
    intro i r e a b
    cases i with
    | zero =>
      simp at e
      subst e
      exact ⟨_, rfl, q, fun d z => by cases z; exact q⟩
    | succ i => exact ih (by simpa using e) a b
  | nw q _ ih =>
    intro i r e a b
    cases i with
    | zero =>
      simp at e
      subst e
      exact ⟨_, rfl, ⟨_, q, fun c m => a c (List.mem_append_left _ m)⟩, fun d z => by cases z⟩
    | succ i => exact ih (by simpa using e) (fun c m => a c (List.mem_append_right _ m)) b
  | ex q _ ih =>
    intro i r e a b
    cases i with
    | zero =>
      simp at e
      subst e
      exact ⟨_, rfl, ⟨_, q, fun c m => b c (List.mem_append_left _ m)⟩, fun d z => by cases z⟩
    | succ i => exact ih (by simpa using e) a fun c m => b c (List.mem_append_right _ m)
theorem EnvOk.get {i : Nat} {σ : L2.St} (E : EnvOk K W H σ env fp xf) (e : env[i]? = some (some r)) (S : Sat K W H fp xf) : ∃ v, σ[i]? = some (some v) ∧ ResOk K H fp W H v r.rd ∧ (∀ d, r = .fz d → Rep K W v d) :=
  E.get0 e (fun a m => (S.off a m).2.1) fun a m => ⟨(S.xof a m).2.1, (S.xof a m).1⟩
end
section
variable {X : Cx} {a b c : Expr} {ma mb mc : DE} {pos : Pos} {ta tb : DT} {rest : List Expr}
theorem dp_var {i : Nat} {x : Str} (hN : X.N[i]? = some x := by rfl) (hv : Vis X.env.scope x := by first | exact Or.inl rfl | exact Or.inr (Or.inl rfl) | exact Or.inr (Or.inr rfl)) (hd : (x == ("__debug__" : Str)) = false := by decide)
    (hcd : (x == ("__classdict__" : Str)) = false := by decide) : PE X (.Name x pos) (LP X.K (mVar i)) := pe_imp (pe_var (i := i) hN hv hd hcd) fun σ H Q h => by
  obtain ⟨W, env, fp, xf, Q0, E, S, ⟨r, e, hm⟩, k⟩ := h
  obtain ⟨v, e2, o, _⟩ := E.get e S
  exact ⟨v, e2, k _ hm v W H .refl S o⟩
theorem dp_c {d : D} {v : V} {e : Expr} (h : PE X e (tC v)) (r : ∀ W, Rep X.K W v d) : PE X e (LP X.K (mC d)) := pe_imp h fun σ H Q h => by
  obtain ⟨W, env, fp, xf, Q0, E, S, hm, k⟩ := h
  exact k _ hm v W H .refl S (r W)
theorem dp_int {i j pos} : PE X (.Constant (.int i) j pos) (LP X.K (mC (.int i))) := dp_c pe_int fun _ => .int i
theorem dp_bl {i j pos} : PE X (.Constant (.bool i) j pos) (LP X.K (mC (.bl i))) := dp_c pe_bl fun _ => .bl i
theorem dp_non {j pos} : PE X (.Constant .none j pos) (LP X.K (mC .non)) := dp_c pe_non fun _ => .non
theorem dp_str {i j pos} : PE X (.Constant (.str i) j pos) (LP X.K (mC (.str i))) := dp_c pe_str fun _ => .str i
theorem r_i2 {K : PySem.W.Frag} {σ : L2.St} {H : Hp} {Q : VK} {C C' : Int → Int → Prop} {g : Int → Int → D} {g' : Int → Int → V} (hC : ∀ i j, C i j → C' i j) (hg : ∀ i j W, C i j → Rep K W (g' i j) (g i j)) (h : LP K (mOp (i2 C g) ma mb) σ H Q) : tOp (rI C' g') (LP K ma) (LP K mb) σ H Q :=
  h.two fun W fp xf Q0 r1 r2 v1 v2 W2 H2 hr O o1 o2 => by
    obtain ⟨i, j, rfl, rfl, hc, q⟩ := i2_inv hr
    exact ⟨i, j, int_of o1, int_of o2, hC i j hc, O.fin q (hg i j W2 hc)⟩
theorem r_i0 {K : PySem.W.Frag} {σ : L2.St} {H : Hp} {Q : VK} {C : Int → Int → Prop} {g : Int → Int → D} {g' : Int → Int → V} (hg : ∀ i j W, C i j → Rep K W (g' i j) (g i j)) (h : LP K (mOp (i2 C g) ma mb) σ H Q) : tOp (rI0 g') (LP K ma) (LP K mb) σ H Q :=
  h.two fun W fp xf Q0 r1 r2 v1 v2 W2 H2 hr O o1 o2 => by
    obtain ⟨i, j, rfl, rfl, hc, q⟩ := i2_inv hr
    exact ⟨i, j, int_of o1, int_of o2, O.fin q (hg i j W2 hc)⟩
theorem dp_sub (ha : PE X a (LP X.K ma)) (hb : PE X b (LP X.K mb)) : PE X (.BinOp a .Sub b pos) (LP X.K (mOp oSub ma mb)) := pe_imp (pe_op op_sub ha hb) fun _ _ _ h => r_i0 (fun _ _ _ _ => .int _) h
theorem dp_mod (ha : PE X a (LP X.K ma)) (hb : PE X b (LP X.K mb)) : PE X (.BinOp a .Mod b pos) (LP X.K (mOp oMod ma mb)) := pe_imp (pe_op op_mod ha hb) fun _ _ _ h => r_i2 (fun _ _ c => c) (fun _ _ _ _ => .int _) h
theorem dp_div (ha : PE X a (LP X.K ma)) (hb : PE X b (LP X.K mb)) : PE X (.BinOp a .FloorDiv b pos) (LP X.K (mOp oDiv ma mb)) := pe_imp (pe_op op_fdivW ha hb) fun _ _ _ h => r_i2 (fun _ _ c => c) (fun _ _ _ _ => .int _) h
theorem dp_pow (ha : PE X a (LP X.K ma)) (hb : PE X b (LP X.K mb)) : PE X (.BinOp a .Pow b pos) (LP X.K (mOp oPow ma mb)) := pe_imp (pe_op op_pow ha hb) fun _ _ _ h => r_i2 (fun _ _ c => c) (fun _ _ _ _ => .int _) h
theorem dt_val {e : Expr} (h : PE X e (LP X.K ma)) (he : ∀ whole, isTrue e X.env whole = (do let v ← whole; standAt e.pos; holding [v] (truthy v)) := by intro _; rfl) : PT X e (LT X.K (mT ma)) := pt_imp (pt_val h he) fun σ H Q h => by
  obtain ⟨W, env, fp, xf, Q0, E, S, hm, k⟩ := h
  refine ⟨W, env, fp, xf, _, E, S, hm, fun r1 h1 v1 W1 H1 t1 S1 o1 => ?_⟩
  split at h1
  · exact ⟨_, bl_of o1, k _ h1 W1 H1 t1 S1⟩
  · exact h1.elim
theorem sizeL_eq : sizeL = sizeLine := sizeLine_eq.symm
def rAddAll (K : PySem.W.Frag) : R2 := fun x y H Q => (rI0 (fun i j => .int (i + j))) x y H Q ∨ (∃ i j, x = .str i ∧ y = .str j ∧ i.length + j.length ≤ sizeLine ∧ Q (.str (i ++ j)) H) ∨ rCat x y H Q ∨ rCatT K x y H Q
theorem op_addAll : OpR X (binaryOp .Add) (rAddAll X.K) := op_add.or (op_add_str.or (op_cat.or op_catT))
theorem dp_add (ha : PE X a (LP X.K ma)) (hb : PE X b (LP X.K mb)) : PE X (.BinOp a .Add b pos) (LP X.K (mOp oAdd ma mb)) := pe_imp (pe_op op_addAll ha hb) fun σ H Q h =>
  h.two fun W fp xf Q0 r1 r2 v1 v2 W2 H2 hr O o1 o2 => by
    unfold oAdd at hr
    split at hr
    · exact .inl ⟨_, _, int_of o1, int_of o2, O.fin hr (.int _)⟩
    · exact .inr (.inl ⟨_, _, str_of o1, str_of o2, by rw [← sizeL_eq]; exact hr.1, O.fin hr.2 (.str _)⟩)
    · rcases hr with ⟨ds, es, e1, e2, hl, q⟩ | ⟨ds, es, e1, e2, n1, n2, hl, q⟩
      · obtain ⟨p, vs, rfl, g1, s1⟩ := els_L e1 o1 O.S2
        obtain ⟨p2, us, rfl, g2, s2⟩ := els_L e2 o2 O.S2
        exact .inr (.inr (.inl ⟨p, p2, vs, us, rfl, rfl, g1, g2, by rw [← sizeL_eq, s1.len, s2.len]; exact hl, fun l n => O.newL q (s1.app s2) l n⟩))
      · obtain ⟨p, vs, rfl, g1, s1⟩ := els_T e1 o1 O.S2
        obtain ⟨p2, us, rfl, g2, s2⟩ := els_T e2 o2 O.S2
        have m1 : vs ≠ [] := fun z => n1 (List.eq_nil_of_length_eq_zero (by rw [← s1.len, z] <;> rfl))
        have m2 : us ≠ [] := fun z => n2 (List.eq_nil_of_length_eq_zero (by rw [← s2.len, z] <;> rfl))
        exact .inr (.inr (.inr ⟨p, p2, vs, us, rfl, rfl, .of g1, .of g2, m1, by rw [← sizeL_eq, s1.len, s2.len]; exact hl, fun z => absurd z m2, fun _ l n => O.newT q (s1.app s2) l n⟩))
def rMulAll : R2 := fun x y H Q => (rI CMul fun i j => .int (i * j)) x y H Q ∨ rRep x y H Q
theorem op_mulAll : OpR X (binaryOp .Mult) rMulAll := op_mul.or op_rep
theorem dp_mul (ha : PE X a (LP X.K ma)) (hb : PE X b (LP X.K mb)) : PE X (.BinOp a .Mult b pos) (LP X.K (mOp oMul ma mb)) := pe_imp (pe_op op_mulAll ha hb) fun σ H Q h =>
  h.two fun W fp xf Q0 r1 r2 v1 v2 W2 H2 hr O o1 o2 => by
    unfold oMul at hr
    split at hr
    · exact .inl ⟨_, _, int_of o1, int_of o2, hr.1, O.fin hr.2 (.int _)⟩
    · obtain ⟨ds, e, k1, k2, k3, q⟩ := hr
      obtain ⟨p, vs, rfl, g1, s1⟩ := els_L e o1 O.S2
      exact .inr ⟨p, _, vs, rfl, int_of o2, g1, k1, k2, by rw [← sizeL_eq, s1.len]; exact k3, fun l n => O.newL q (s1.rep _) l n⟩
    · exact hr.elim
end
end R
namespace R
open PySem PySem.Spec PyProof.Rows L2
section
variable {K : PySem.W.Frag} {W W1 W2 W' : Wd} {H H1 H2 H' : Hp} {f f1 fp xf : List Addr} {σ : L2.St} {Q : VK} {r : Rs} {v : V} {env : Env}
theorem ResOk.own (o : ResOk K H fp W2 H2 v r) : ∃ f, Own K W2 H2 v r.t f := by
  cases r with
  | fz d => exact ⟨[], .leaf o⟩
  | nw t => obtain ⟨f, o, _⟩ := o; exact ⟨f, o⟩
  | br t => obtain ⟨f, o, _⟩ := o; exact ⟨f, o⟩
  | ex t => obtain ⟨f, o, _⟩ := o; exact ⟨f, o⟩
theorem kids_ok {ts : List OT} (h : r.t.kids = some ts) (o : ResOk K H fp W2 H2 v r) (S : Sat K W2 H2 fp xf) : ∃ p vs f, v = .ref p ∧ (SqL K H2 p vs ∨ SqT K H2 p vs) ∧ OwnAll K W2 H2 vs ts f ∧
    (match r with | .ex _ => ∀ a ∈ f, W2.S a = none ∧ a ∉ fp | .fz _ => f = [] | _ => ∀ a ∈ f, W2.S a = none) := by
  have lf : ∀ {d : D}, Rep K W2 v d → (OT.leaf d).kids = some ts → ∃ p vs, v = .ref p ∧ (SqL K H2 p vs ∨ SqT K H2 p vs) ∧ OwnAll K W2 H2 vs ts [] := by
    intro d q h
    cases q with
    | lst g r => cases h; exact ⟨_, _, rfl, .inl (.of (S.sub _ _ g)), OwnAll.leafs (vs := []) r⟩
    | tup g r => cases h; exact ⟨_, _, rfl, .inr (.of (S.sub _ _ g)), OwnAll.leafs (vs := []) r⟩
    | rol g r => cases h; exact ⟨_, _, rfl, .inl (SqL.mono S.sub g), OwnAll.leafs (vs := []) r⟩
    | non => cases h
    | bl _ => cases h
    | int _ => cases h
    | str _ => cases h
    | ins _ _ => cases h
    | vol _ => cases h
    | dct _ _ => cases h
    | any _ => cases h
    | adr _ => cases h
    | cod _ => cases h
    | obj _ _ => cases h
  have own : ∀ {t : OT} {f : List Addr}, Own K W2 H2 v t f → t.kids = some ts → ∃ p vs f', v = .ref p ∧ (SqL K H2 p vs ∨ SqT K H2 p vs) ∧ OwnAll K W2 H2 vs ts f' ∧ ∀ a ∈ f', a ∈ f := by
    intro t f o h
    cases o with
    | leaf q =>
      obtain ⟨p, vs, e, s, w⟩ := lf q h
      exact ⟨p, vs, [], e, s, w, fun _ m => by cases m⟩
    | lst g r => cases h; exact ⟨_, _, _, rfl, .inl (.of g), r, fun _ m => List.mem_cons_of_mem _ m⟩
    | tup g r => cases h; exact ⟨_, _, _, rfl, .inr (.of g), r, fun _ m => List.mem_cons_of_mem _ m⟩
    | ins _ _ => cases h
    | d0 _ => cases h
    | xo _ => cases h
    | dk _ _ => cases h
  cases r with
  | fz d =>
    obtain ⟨p, vs, e, s, w⟩ := lf o h
    exact ⟨p, vs, [], e, s, w, rfl⟩
  | nw t =>
    obtain ⟨f, o, z⟩ := o
    obtain ⟨p, vs, f', e, s, w, i⟩ := own o h
    exact ⟨p, vs, f', e, s, w, fun a m => (z.2 a (i a m)).2.2⟩
  | br t =>
    obtain ⟨f, o, z⟩ := o
    obtain ⟨p, vs, f', e, s, w, i⟩ := own o h
    exact ⟨p, vs, f', e, s, w, fun a m => z a (i a m)⟩
  | ex t =>
    obtain ⟨f, o, z⟩ := o
    obtain ⟨p, vs, f', e, s, w, i⟩ := own o h
    exact ⟨p, vs, f', e, s, w, fun a m => z a (i a m)⟩
theorem OwnAll.len : ∀ {vs : List V} {ts : List OT} {f : List Addr}, OwnAll K W H vs ts f → vs.length = ts.length
  | _, _, _, .nil => rfl
  | _, _, _, .cons _ r => by rw [List.length_cons, List.length_cons, OwnAll.len r]
theorem OwnAll.get : ∀ {vs : List V} {ts : List OT} {f : List Addr} {i : Nat} {t : OT}, OwnAll K W H vs ts f → ts[i]? = some t → ∃ v g, vs[i]? = some v ∧ Own K W H v t g ∧ ∀ a ∈ g, a ∈ f
  | _, _, _, _, _, .nil, h => by simp at h
  | _, _, _, 0, _, .cons o _, h => by
    simp at h
    subst h
    exact ⟨_, _, rfl, o, fun _ m => List.mem_append_left _ m⟩
  | _, _, _, i + 1, _, .cons _ r, h => by
    obtain ⟨v, g, e, o, z⟩ := OwnAll.get (i := i) r (by simpa using h)
    exact ⟨v, g, by simpa using e, o, fun a m => List.mem_append_right _ (z a m)⟩
theorem kid_ok {ts : List OT} {t : OT} {i : Int} (h : r.t.kids = some ts) (e : at' ts i = some t) (o : ResOk K H fp W2 H2 v r) (S : Sat K W2 H2 fp xf) :
    ∃ p vs u, v = .ref p ∧ (SqL K H2 p vs ∨ SqT K H2 p vs) ∧ atI vs i = some u ∧ ResOk K H fp W2 H2 u (r.kid t) := by
  obtain ⟨p, vs, f, ev, s, w, z⟩ := kids_ok h o S
  have e' := e
  unfold at' at e'
  cases q : ixN' ts.length i with
  | none => rw [q] at e'; cases e'
  | some j =>
    rw [q] at e'
    obtain ⟨u, g, eu, ow, i2⟩ := w.get (show ts[j]? = some t from e')
    refine ⟨p, vs, u, ev, s, ?_, ?_⟩
    · show (ixN' vs.length i).bind (fun j => vs[j]?) = some u
      rw [w.len, q]
      exact eu
    · have lf : ∀ d, t = .leaf d → Rep K W2 u d := by
        intro d e
        subst e
        cases ow with
        | leaf q => exact q
      cases r with
      | fz d =>
        have z : f = [] := z
        subst z
        cases t with
        | leaf d => exact lf d rfl
        | lst _ => exact ⟨g, ow, fun a m => absurd (i2 a m) (by simp)⟩
        | tup _ => exact ⟨g, ow, fun a m => absurd (i2 a m) (by simp)⟩
        | ins _ _ _ => exact ⟨g, ow, fun a m => absurd (i2 a m) (by simp)⟩
        | d0 => exact ⟨g, ow, fun a m => absurd (i2 a m) (by simp)⟩
        | xo => exact ⟨g, ow, fun a m => absurd (i2 a m) (by simp)⟩
        | dk _ _ => exact ⟨g, ow, fun a m => absurd (i2 a m) (by simp)⟩
      | nw x =>
        cases t with
        | leaf d => exact lf d rfl
        | lst _ => exact ⟨g, ow, fun a m => z a (i2 a m)⟩
        | tup _ => exact ⟨g, ow, fun a m => z a (i2 a m)⟩
        | ins _ _ _ => exact ⟨g, ow, fun a m => z a (i2 a m)⟩
        | d0 => exact ⟨g, ow, fun a m => z a (i2 a m)⟩
        | xo => exact ⟨g, ow, fun a m => z a (i2 a m)⟩
        | dk _ _ => exact ⟨g, ow, fun a m => z a (i2 a m)⟩
      | br x =>
        cases t with
        | leaf d => exact lf d rfl
        | lst _ => exact ⟨g, ow, fun a m => z a (i2 a m)⟩
        | tup _ => exact ⟨g, ow, fun a m => z a (i2 a m)⟩
        | ins _ _ _ => exact ⟨g, ow, fun a m => z a (i2 a m)⟩
        | d0 => exact ⟨g, ow, fun a m => z a (i2 a m)⟩
        | xo => exact ⟨g, ow, fun a m => z a (i2 a m)⟩
        | dk _ _ => exact ⟨g, ow, fun a m => z a (i2 a m)⟩
      | ex x =>
        cases t with
        | leaf d => exact lf d rfl
        | lst _ => exact ⟨g, ow, fun a m => z a (i2 a m)⟩
        | tup _ => exact ⟨g, ow, fun a m => z a (i2 a m)⟩
        | ins _ _ _ => exact ⟨g, ow, fun a m => z a (i2 a m)⟩
        | d0 => exact ⟨g, ow, fun a m => z a (i2 a m)⟩
        | xo => exact ⟨g, ow, fun a m => z a (i2 a m)⟩
        | dk _ _ => exact ⟨g, ow, fun a m => z a (i2 a m)⟩
end
section
variable {X : Cx} {a b c : Expr} {ma mb mc : DE} {pos : Pos} {ta tb : DT} {rest : List Expr} {es : List Expr} {mr : DA}
theorem dp_ix (ha : PE X a (LP X.K ma)) (hb : PE X b (LP X.K mb)) (hs : PlainIx b := by exact fun _ _ => rfl) : PE X (.Subscript a b pos) (LP X.K (mOp oIx ma mb)) := pe_imp (pe_ix ix_seq ha hb hs) fun σ H Q h =>
  h.two fun W fp xf Q0 r1 r2 v1 v2 W2 H2 hr O o1 o2 => by
    have key : ∀ {i : Int} {ts : List OT} {t : OT}, r1.t.kids = some ts → at' ts i = some t → r2 = .fz (.int i) → Q0 (r1.kid t) → rIx X.K v1 v2 H2 Q := by
      intro i ts t e1 e2 e3 q
      obtain ⟨p, vs, u, rfl, s, au, ou⟩ := kid_ok e1 e2 o1 O.S2
      have ei : v2 = .int i := int_of (by rw [e3] at o2; exact o2)
      rcases s with s | s
      · exact .inl ⟨p, vs, i, u, rfl, ei, s, au, O.res q ou⟩
      · exact .inr (.inl ⟨p, vs, i, u, rfl, ei, s, au, O.res q ou⟩)
    have lf : ∀ {ds : List D} {d : D} {i : Int}, at' ds i = some d → at' (ds.map OT.leaf) i = some (.leaf d) := by
      intro ds d i e
      rw [at_map, e]
      rfl
    unfold oIx at hr
    split at hr
    · obtain ⟨d, e, q⟩ := hr
      exact key rfl (lf e) rfl q
    · obtain ⟨d, e, q⟩ := hr
      exact key rfl (lf e) rfl q
    · obtain ⟨d, e, q⟩ := hr
      exact key rfl (lf e) rfl q
    · obtain ⟨hl, c, e, q⟩ := hr
      exact .inr (.inr ⟨_, _, c, str_of o1, int_of o2, by rw [← sizeL_eq]; exact hl, e, O.fin q (.str _)⟩)
    · rename_i ps i
      obtain ⟨h0, h3, q⟩ := hr
      cases (show Rep X.K W2 v1 (.vol 0 ps) from o1) with
      | vol s =>
        obtain ⟨_, o, g, x, y, z, e⟩ := O.S2.vol _ _ _ s
        subst e
        have hi : i = 0 ∨ i = 1 ∨ i = 2 := by omega
        rcases hi with rfl | rfl | rfl
        · exact .inl ⟨_, _, 0, .int x, rfl, int_of o2, .of g, rfl, O.fin (q x) (.int _)⟩
        · exact .inl ⟨_, _, 1, .int y, rfl, int_of o2, .of g, rfl, O.fin (q y) (.int _)⟩
        · exact .inl ⟨_, _, 2, .int z, rfl, int_of o2, .of g, rfl, O.fin (q z) (.int _)⟩
    · obtain ⟨ts, t, e1, e2, q⟩ := hr
      exact key e1 e2 rfl q
    · exact hr.elim
theorem lt_lp {K : PySem.W.Frag} {m : DE} {σ : L2.St} {H : Hp} {Q : Bool → Hp → Prop} (h : LT K (mT m) σ H Q) : LP K m σ H fun x H' => ∃ k, x = .bl k ∧ Q k H' := by
  obtain ⟨W, env, fp, xf, Q0, E, S, hm, k⟩ := h
  refine ⟨W, env, fp, xf, _, E, S, hm, fun r1 h1 v1 W1 H1 t1 S1 o1 => ?_⟩
  split at h1
  · exact ⟨_, bl_of o1, k _ h1 W1 H1 t1 S1⟩
  · exact h1.elim
theorem dt_of {op : CmpOp} {r : R2} {R : Rs → Rs → (Rs → Prop) → Prop} (ho : OpR X (compareOp op) r) (I : ∀ σ H Q, LP X.K (mOp R ma mb) σ H Q → tOp r (LP X.K ma) (LP X.K mb) σ H Q) (ha : PE X a (LP X.K ma)) (hb : PE X b (LP X.K mb))
    (hm : behindInMarks op b = false) : PT X (.Compare a [op] [b] pos) (LT X.K (mT (mOp R ma mb))) := pt_imp (pt_cmpR ho ha hb hm) fun σ H Q h => I σ H _ (lt_lp h)
theorem dt_lt (ha : PE X a (LP X.K ma)) (hb : PE X b (LP X.K mb)) : PT X (.Compare a [.Lt] [b] pos) (LT X.K (mT (mOp oLt ma mb))) := dt_of op_lt (fun _ _ _ h => r_i0 (fun _ _ _ _ => .bl _) h) ha hb (nomark _)
theorem dt_ge (ha : PE X a (LP X.K ma)) (hb : PE X b (LP X.K mb)) : PT X (.Compare a [.GtE] [b] pos) (LT X.K (mT (mOp oGe ma mb))) := dt_of op_ge (fun _ _ _ h => r_i0 (fun _ _ _ _ => .bl _) h) ha hb (nomark _)
theorem LT.next {K : PySem.W.Frag} {t : DT} {σ : L2.St} {H : Hp} {W : Wd} {env : Env} {fp xf : List Addr} {Q1 : Bool → Prop} {q : Bool → Hp → Prop} (E : EnvOk K W H σ env fp xf) (S : Sat K W H fp xf) (h : t env Q1)
    (k : ∀ b, Q1 b → ∀ W1 H1, Stp W H [] W1 H1 → Sat K W1 H1 fp xf → EnvOk K W1 H1 σ env fp xf → q b H1) : LT K t σ H q :=
  ⟨W, env, fp, xf, Q1, E, S, h, fun b hb W1 H1 t1 S1 => k b hb W1 H1 t1 S1 (E.keep S t1)⟩
theorem dw_or1 {p : Pos} (h : PT X a (LT X.K ta)) : PW X (.BoolOp .Or [a] p) (LT X.K ta) := pw_or1 h
theorem dw_or (ha : PT X a (LT X.K ta)) (hb : PW X (.BoolOp .Or (b :: rest) pos) (LT X.K tb)) : PW X (.BoolOp .Or (a :: b :: rest) pos) (LT X.K (mOr ta tb)) := pw_imp (pw_or ha hb) fun σ H Q h => by
  obtain ⟨W, env, fp, xf, Q0, E, S, hm, k⟩ := h
  refine LT.next E S hm fun c hc W1 H1 t1 S1 E1 => ?_
  cases c with
  | true => exact iteT (k true hc W1 H1 t1 S1)
  | false => exact iteF (LT.next E1 S1 (show tb env Q0 from hc) fun c hc W2 H2 t2 S2 _ => k c hc W2 H2 (t1.tr0 t2) S2)
theorem dt_not (h : PT X a (LT X.K ta)) : PT X (.UnaryOp .Not a pos) (LT X.K (mNot ta)) := pt_imp (pt_not h) fun σ H Q h => by
  obtain ⟨W, env, fp, xf, Q0, E, S, hm, k⟩ := h
  exact LT.next E S hm fun c hc W1 H1 t1 S1 E1 => k _ hc W1 H1 t1 S1
theorem LP.next {K : PySem.W.Frag} {m : DE} {σ : L2.St} {H : Hp} {W : Wd} {env : Env} {fp xf : List Addr} {Q1 : Rs → Prop} {q : V → Hp → Prop} (E : EnvOk K W H σ env fp xf) (S : Sat K W H fp xf) (h : m env Q1)
    (k : ∀ r, Q1 r → ∀ v W1 H1, Stp W H [] W1 H1 → Sat K W1 H1 fp xf → EnvOk K W1 H1 σ env fp xf → ResOk K H fp W1 H1 v r → q v H1) : LP K m σ H q :=
  ⟨W, env, fp, xf, Q1, E, S, h, fun r hr v W1 H1 t1 S1 o => k r hr v W1 H1 t1 S1 (E.keep S t1) o⟩
theorem dp_one {op : BoolOp} (h : PE X a (LP X.K ma)) : PE X (.BoolOp op [a] pos) (LP X.K ma) := pe_one h
theorem dp_and (ha : PE X a (LP X.K ma)) (hb : PE X (.BoolOp .And (b :: rest) pos) (LP X.K mb)) : PE X (.BoolOp .And (a :: b :: rest) pos) (LP X.K (mAndV ma mb)) := pe_imp (pe_and ha hb) fun σ H Q h => by
  obtain ⟨W, env, fp, xf, Q0, E, S, hm, k⟩ := h
  refine LP.next E S hm fun r hr v W1 H1 t1 S1 E1 o => ?_
  split at hr
  · rename_i c
    refine ⟨c, bl_of o, ?_⟩
    cases c with
    | true => exact iteT (LP.next E1 S1 (show mb env Q0 from hr) fun r hr v W2 H2 t2 S2 _ o => k r hr v W2 H2 (t1.tr0 t2) S2 (o.back t1.al))
    | false => exact iteF (k _ hr _ W1 H1 t1 S1 (Rep.bl false))
  · exact hr.elim
theorem dp_fz (ha : PE X a (LP X.K ma)) : PE X a (LP X.K (mFz ma)) := pe_imp ha fun σ H Q h => by
  obtain ⟨W, env, fp, xf, Q0, E, S, hm, k⟩ := h
  refine LP.next E S hm fun r hr v W1 H1 t1 S1 E1 o => ?_
  cases r with
  | fz d => exact k _ hr v W1 H1 t1 S1 o
  | nw t =>
    obtain ⟨d, z, q⟩ := hr
    obtain ⟨f, ow, nd, y⟩ := o
    obtain ⟨W', F, R, _⟩ := freeze ow z nd fun a m => (y a m).2
    have za : ∀ a ∈ f, a ∉ fp ∧ a ∉ xf := fun a m => ⟨fun m2 => (S.off a m2).2.2 (y a m).1, fun m2 => (S.xof a m2).2.2 (y a m).1⟩
    exact k _ q v W' H1 (t1.trans F.stp fun a m => .inr (y a m).1) (F.sat S1 (fun a m => ⟨(y a m).2.1, (y a m).2.2, ow.alloc a m⟩) za) R
  | br t => exact hr.elim
  | ex t => exact hr.elim
theorem da_nil : PA X [] (LA X.K mNil) := pa_imp pa_nil fun σ H Q h => by
  obtain ⟨W, env, fp, xf, Q0, E, S, hm, k⟩ := h
  exact k _ hm [] W H [] .refl S .nil ⟨List.nodup_nil, fun _ m => by cases m⟩
theorem ResAll.cells {K : PySem.W.Frag} {H : Hp} {fp : List Addr} {W' : Wd} {H' : Hp} {vs : List V} {rs : List Rs} {g : List Addr} (h : ResAll K H fp W' H' vs rs g) : ∀ a ∈ g, H' a ≠ none := by
  induction h with
  | nil => intro a m; cases m
  | fz _ _ ih => exact ih
  | nw o _ ih => intro a m; exact (List.mem_append.mp m).elim (o.alloc a) (ih a)
  | br _ _ _ ih => exact ih
  | ex _ _ _ ih => exact ih
theorem da_cons (ha : PE X a (LP X.K ma)) (hr : PA X es (LA X.K mr)) (hs : starEach (a :: es) X.env = (false, eval a X.env) :: starEach es X.env := by rfl) : PA X (a :: es) (LA X.K (mCons ma mr)) := pa_imp (pa_cons ha hr hs) fun σ H Q h => by
  obtain ⟨W, env, fp, xf, Q0, E, S, hm, k⟩ := h
  refine LP.next E S hm fun r hr v W1 H1 t1 S1 E1 o => ?_
  refine ⟨W1, env, fp, xf, _, E1, S1, hr, fun rs hq vs W2 H2 g t2 S2 os F => ?_⟩
  have l := t2.le S1 fun _ m => by cases m
  have o2 := o.keep t2 l
  have Fb := fresh_back F t1.al
  have os' : ResAll X.K H fp W2 H2 vs rs g := os.back
  cases r with
  | fz d => exact k _ hq _ W2 H2 g (t1.tr0 t2) S2 (.fz o2 os') Fb
  | nw t =>
    obtain ⟨f, ow, nd, z⟩ := o
    have ow2 := ow.mono l fun a m u e => t2.kp a u e (by simp) (z a m).2.2
    refine k _ hq _ W2 H2 (f ++ g) (t1.tr0 t2) S2 (.nw ow2 os') ⟨List.nodup_append.mpr ⟨nd, F.1, fun x m y m2 e => ?_⟩, fun a m => ?_⟩
    · subst e
      exact ow.alloc x m (F.2 x m2).1
    · rcases List.mem_append.mp m with m | m
      · obtain ⟨e1, e2⟩ := t2.kpS (ow.alloc a m)
        exact ⟨(z a m).1, e1.trans (z a m).2.1, e2.trans (z a m).2.2⟩
      · exact Fb.2 a m
  | br t =>
    obtain ⟨f, ow, z⟩ := o2
    exact k _ hq _ W2 H2 g (t1.tr0 t2) S2 (.br ow z os') Fb
  | ex t =>
    obtain ⟨f, ow, z⟩ := o2
    exact k _ hq _ W2 H2 g (t1.tr0 t2) S2 (.ex ow z os') Fb
theorem ResAll.items {K : PySem.W.Frag} {H : Hp} {fp : List Addr} {W' : Wd} {H' : Hp} : ∀ {rs : List Rs} {vs : List V} {g : List Addr} {ts : List OT}, ResAll K H fp W' H' vs rs g → items rs = some ts → OwnAll K W' H' vs ts g := by
  intro rs vs g ts h
  induction h generalizing ts with
  | nil => intro e; cases e; exact .nil
  | fz r _ ih =>
    rename_i d _ rs _ _
    intro e
    have e : (R.items rs).map (OT.leaf d :: ·) = some ts := e
    cases q : R.items rs with
    | none => rw [q] at e; cases e
    | some us => rw [q] at e; cases e; exact .cons (f := []) (.leaf r) (ih q)
  | nw r _ ih =>
    rename_i t _ _ rs _ _
    intro e
    have e : (R.items rs).map (t :: ·) = some ts := e
    cases q : R.items rs with
    | none => rw [q] at e; cases e
    | some us => rw [q] at e; cases e; exact .cons r (ih q)
  | br _ _ _ _ => intro e; cases e
  | ex _ _ _ _ => intro e; cases e
theorem new_node {K : PySem.W.Frag} {W W2 : Wd} {H H2 : Hp} {fp xf g : List Addr} {p : Addr} {o : HO} {vs : List V} {ts : List OT} (t : Stp W H [] W2 H2) (S : Sat K W2 H2 fp xf) (w : OwnAll K W2 H2 vs ts g) (F : Fresh H W2 g) (n : H2 p = none) :
    Stp W H [] W2 (upd H2 p o) ∧ Sat K W2 (upd H2 p o) fp xf ∧ OwnAll K W2 (upd H2 p o) vs ts g ∧ (p :: g).Nodup ∧ ∀ a ∈ p :: g, H a = none ∧ W2.G a = none ∧ W2.S a = none := by
  have hn : H p = none := by
    cases z : H p with
    | none => rfl
    | some u => exact absurd n (t.al p (some_ne z))
  refine ⟨t.tr0 (.new n), S.new n, w.mono (.refl _) fun a m u e => by rw [upd_ne (ne_of_none e n)]; exact e, List.nodup_cons.mpr ⟨fun m => w.alloc p m n, F.1⟩, fun a m => ?_⟩
  rcases List.mem_cons.mp m with e | m
  · rw [e]
    exact ⟨hn, (S.free n).1, (S.free n).2⟩
  · exact F.2 a m
theorem dp_lst (h : PA X es (LA X.K mr)) : PE X (.List es pos) (LP X.K (mLst mr)) := pe_imp (pe_lst h) fun σ H Q h => by
  obtain ⟨W, env, fp, xf, Q0, E, S, hm, k⟩ := h
  refine ⟨W, env, fp, xf, _, E, S, hm, fun rs ⟨ts, e, hl, q⟩ vs W2 H2 g t2 S2 os F => ?_⟩
  have w := os.items e
  refine ⟨by rw [← sizeL_eq, w.len]; exact hl, fun p n => ?_⟩
  obtain ⟨t3, S3, w3, nd, z⟩ := new_node (o := .lst vs) t2 S2 w F n
  exact k _ q _ W2 _ t3 S3 ⟨p :: g, .lst upd_same w3, nd, z⟩
theorem dp_tup {x1} (h : PA X es (LA X.K mr)) : PE X (.Tuple es x1 pos) (LP X.K (mTup mr)) := pe_imp (pe_tup h) fun σ H Q h => by
  obtain ⟨W, env, fp, xf, Q0, E, S, hm, k⟩ := h
  refine ⟨W, env, fp, xf, _, E, S, hm, fun rs ⟨ts, e, hl, q⟩ vs W2 H2 g t2 S2 os F => ?_⟩
  have w := os.items e
  refine ⟨by rw [← sizeL_eq, w.len]; exact hl, fun p n => ?_⟩
  obtain ⟨t3, S3, w3, nd, z⟩ := new_node (o := .tup vs) t2 S2 w F n
  exact k _ q _ W2 _ t3 S3 ⟨p :: g, .tup upd_same w3, nd, z⟩
end
end R
namespace R
open PySem PySem.Spec PyProof.Rows L2
section
variable {K : PySem.W.Frag} {W W1 W2 W' : Wd} {H H1 H2 H' : Hp} {f f1 fp xf : List Addr} {σ : L2.St} {Q : VK} {r : Rs} {v : V} {env : Env}
theorem ResAll.ffz {vs : List V} {rs : List Rs} {g : List Addr} (os : ResAll K H fp W2 H2 vs rs g) : ∀ {W3 : Wd}, W2.Le W3 → W3.S = W2.S → Sat K W H fp xf → Stp W H [] W3 H2 → Sat K W3 H2 fp xf → g.Nodup → (∀ a ∈ g, H a = none ∧ W3.G a = none ∧ W3.S a = none) →
    ∃ W4 g', Stp W H [] W4 H2 ∧ Sat K W4 H2 fp xf ∧ W3.Le W4 ∧ W4.S = W3.S ∧ ResAll K H fp W4 H2 vs (rs.map Rs.ffz) g' ∧ Fresh H W4 g' ∧ (∀ a ∈ g', a ∈ g) ∧ ∀ a, a ∉ g → W4.G a = W3.G a := by
  induction os with
  | nil => intro W3 l e S t S3 nd z; exact ⟨W3, [], t, S3, .refl _, rfl, .nil, ⟨List.nodup_nil, fun _ m => (by cases m)⟩, fun _ m => (by cases m), fun _ _ => rfl⟩
  | fz r _ ih =>
    intro W3 l e S t S3 nd z
    obtain ⟨W4, g', t4, S4, l4, e4, o4, F4, i4, k4⟩ := ih l e S t S3 nd z
    exact ⟨W4, g', t4, S4, l4, e4, .fz (r.mono (l.trans l4)) o4, F4, i4, k4⟩
  | br o y _ ih =>
    intro W3 l e S t S3 nd z
    obtain ⟨W4, g', t4, S4, l4, e4, o4, F4, i4, k4⟩ := ih l e S t S3 nd z
    exact ⟨W4, g', t4, S4, l4, e4, .br (o.mono (l.trans l4) fun _ _ _ q => q) (fun a m => by rw [e4, e]; exact y a m) o4, F4, i4, k4⟩
  | ex o y _ ih =>
    intro W3 l e S t S3 nd z
    obtain ⟨W4, g', t4, S4, l4, e4, o4, F4, i4, k4⟩ := ih l e S t S3 nd z
    exact ⟨W4, g', t4, S4, l4, e4, .ex (o.mono (l.trans l4) fun _ _ _ q => q) (fun a m => by rw [e4, e]; exact y a m) o4, F4, i4, k4⟩
  | nw o _ ih =>
    rename_i v x f vs rs g _
    intro W3 l e S t S3 nd z
    obtain ⟨n1, n2, n3⟩ := List.nodup_append.mp nd
    have zf : ∀ a ∈ f, H a = none ∧ W3.G a = none ∧ W3.S a = none := fun a m => z a (List.mem_append_left _ m)
    have zg : ∀ a ∈ g, H a = none ∧ W3.G a = none ∧ W3.S a = none := fun a m => z a (List.mem_append_right _ m)
    have dj : ∀ a ∈ f, a ∉ g := fun a m m2 => n3 a m a m2 rfl
    cases q : x.fzd with
    | none =>
      obtain ⟨W4, g', t4, S4, l4, e4, o4, F4, i4, k4⟩ := ih l e S t S3 n2 zg
      refine ⟨W4, f ++ g', t4, S4, l4, e4, ?_, ⟨List.nodup_append.mpr ⟨n1, F4.1, fun a m b m2 e => by subst e; exact dj a m (i4 a m2)⟩, fun a m => ?_⟩, fun a m => ?_, fun a m => k4 a fun m2 => m (List.mem_append_right _ m2)⟩
      · show ResAll K H fp W4 H2 _ ((match x.fzd with | some d => .fz d | none => .nw x) :: rs.map Rs.ffz) (f ++ g')
        rw [q]
        exact .nw (o.mono (l.trans l4) fun _ _ _ q => q) o4
      · rcases List.mem_append.mp m with m | m
        · exact ⟨(zf a m).1, (k4 a (dj a m)).trans (zf a m).2.1, by rw [e4]; exact (zf a m).2.2⟩
        · exact F4.2 a m
      · exact (List.mem_append.mp m).elim (List.mem_append_left _) fun m => List.mem_append_right _ (i4 a m)
    | some d =>
      have o3 := o.mono l fun _ _ _ q => q
      obtain ⟨W5, F, R, sk⟩ := freeze o3 (Fz.of q) n1 fun a m => (zf a m).2
      have e5 : W5.S = W3.S := sk (by rw [q]; exact fun z => nomatch z)
      have za : ∀ a ∈ f, a ∉ fp ∧ a ∉ xf := fun a m => ⟨fun m2 => (S.off a m2).2.2 (zf a m).1, fun m2 => (S.xof a m2).2.2 (zf a m).1⟩
      have l5 : W3.Le W5 := F.le fun a m => (zf a m).2
      have zg5 : ∀ a ∈ g, H a = none ∧ W5.G a = none ∧ W5.S a = none := fun a m => by
        have n : a ∉ f := fun m2 => dj a m2 m
        exact ⟨(zg a m).1, (F.out a n).1.trans (zg a m).2.1, by rw [e5]; exact (zg a m).2.2⟩
      obtain ⟨W4, g', t4, S4, l4, e4, o4, F4, i4, k4⟩ := ih (l.trans l5) (e5.trans e) S (t.trans F.stp fun a m => .inr (zf a m).1) (F.sat S3 (fun a m => ⟨(zf a m).2.1, (zf a m).2.2, o3.alloc a m⟩) za) n2 zg5
      refine ⟨W4, g', t4, S4, l5.trans l4, e4.trans e5, ?_, F4, fun a m => List.mem_append_right _ (i4 a m), fun a m => (k4 a fun m2 => m (List.mem_append_right _ m2)).trans (F.out a fun m2 => m (List.mem_append_left _ m2)).1⟩
      show ResAll K H fp W4 H2 _ ((match x.fzd with | some d => .fz d | none => .nw x) :: rs.map Rs.ffz) g'
      rw [q]
      exact .fz (R.mono l4) o4
theorem LA.next {m : DA} {Q1 : List Rs → Prop} {q : List V → Hp → Prop} (E : EnvOk K W H σ env fp xf) (S : Sat K W H fp xf) (h : m env Q1)
    (k : ∀ rs, Q1 rs → ∀ vs W1 H1 g, Stp W H [] W1 H1 → Sat K W1 H1 fp xf → EnvOk K W1 H1 σ env fp xf → ResAll K H fp W1 H1 vs rs g → Fresh H W1 g → q vs H1) : LA K m σ H q :=
  ⟨W, env, fp, xf, Q1, E, S, h, fun r hr v W1 H1 g t1 S1 o F => k r hr v W1 H1 g t1 S1 (E.keep S t1) o F⟩
theorem LA.ops {m : DA} {R : List Rs → (Rs → Prop) → Prop} {q : List V → Hp → Prop} (h : LP K (mB R m) σ H Q)
    (hop : ∀ (W : Wd) (fp xf : List Addr) (Q0 : Rs → Prop) rs vs W2 H2 g, R rs Q0 → Ops K H Q Q0 W2 H2 W fp xf → ResAll K H fp W2 H2 vs rs g → Fresh H W2 g → q vs H2) : LA K m σ H q := by
  obtain ⟨W, env, fp, xf, Q0, E, S, hm, k⟩ := h
  refine LA.next E S hm fun rs hr vs W1 H1 g t1 S1 E1 os F => ?_
  obtain ⟨W4, g', t4, S4, _, _, o4, F4, _, _⟩ := os.ffz (.refl _) rfl S t1 S1 F.1 F.2
  exact hop W fp xf Q0 _ vs W4 H1 g' hr ⟨S, t4, S4, k⟩ o4 F4
theorem ResAll.nil_inv {vs : List V} {g : List Addr} (h : ResAll K H fp W' H' vs [] g) : vs = [] ∧ g = [] := by
  cases h; exact ⟨rfl, rfl⟩
theorem ResAll.cons_inv {vs : List V} {rs : List Rs} {g : List Addr} (h : ResAll K H fp W' H' vs (r :: rs) g) (F : Fresh H W' g) : ∃ v us g', vs = v :: us ∧ ResOk K H fp W' H' v r ∧ ResAll K H fp W' H' us rs g' ∧ Fresh H W' g' := by
  cases h with
  | fz a b => exact ⟨_, _, _, rfl, a, b, F⟩
  | nw a b =>
    obtain ⟨n1, n2, n3⟩ := List.nodup_append.mp F.1
    exact ⟨_, _, _, rfl, ⟨_, a, n1, fun c m => F.2 c (List.mem_append_left _ m)⟩, b, n2, fun c m => F.2 c (List.mem_append_right _ m)⟩
  | br a z b => exact ⟨_, _, _, rfl, ⟨_, a, z⟩, b, F⟩
  | ex a z b => exact ⟨_, _, _, rfl, ⟨_, a, z⟩, b, F⟩
theorem ResAll.one {vs : List V} {g : List Addr} (h : ResAll K H fp W' H' vs [r] g) (F : Fresh H W' g) : ∃ v, vs = [v] ∧ ResOk K H fp W' H' v r := by
  obtain ⟨v, us, g', rfl, o, h, _⟩ := h.cons_inv F
  obtain ⟨rfl, _⟩ := h.nil_inv
  exact ⟨v, rfl, o⟩
theorem ResAll.two {vs : List V} {g : List Addr} {r2 : Rs} (h : ResAll K H fp W' H' vs [r, r2] g) (F : Fresh H W' g) : ∃ v u, vs = [v, u] ∧ ResOk K H fp W' H' v r ∧ ResOk K H fp W' H' u r2 := by
  obtain ⟨v, us, g', rfl, o, h, F2⟩ := h.cons_inv F
  obtain ⟨u, rfl, o2⟩ := h.one F2
  exact ⟨v, u, rfl, o, o2⟩
theorem RepAll.take : ∀ (n : Nat) {vs : List V} {ds : List D}, RepAll K W vs ds → RepAll K W (vs.take n) (ds.take n)
  | 0, _, _, _ => .nil
  | _ + 1, _, _, .nil => .nil
  | n + 1, _, _, .cons a b => .cons a (RepAll.take n b)
theorem RepAll.drop : ∀ (n : Nat) {vs : List V} {ds : List D}, RepAll K W vs ds → RepAll K W (vs.drop n) (ds.drop n)
  | 0, _, _, h => h
  | _ + 1, _, _, .nil => .nil
  | n + 1, _, _, .cons _ b => RepAll.drop n b
end
section
variable {X : Cx} {a b c : Expr} {ma mb mc : DE} {pos : Pos} {ta tb : DT} {rest : List Expr} {es : List Expr} {mr : DA} {ml mh : DO} {lo hi : Option Expr}
theorem dp_callB {id : String} {x : Str} {r : List V → Hp → VK → Prop} {p : Pos} {Rd : List Rs → (Rs → Prop) → Prop} (hc : CallR X (.builtin id) r)
    (I : ∀ (H : Hp) (Q : VK) (W : Wd) (fp xf : List Addr) (Q0 : Rs → Prop) rs vs W2 H2 g, Rd rs Q0 → Ops X.K H Q Q0 W2 H2 W fp xf → ResAll X.K H fp W2 H2 vs rs g → Fresh H W2 g → r vs H2 Q)
    (hm : X.mg x = none) (hv : bootBuiltins x = some (.builtin id)) (ha : PA X (a :: es) (LA X.K mr)) (hg : Gl X x := by rfl) (hn : x ≠ "__name__" := by decide) (hdb : (x == ("__debug__" : Str)) = false := by decide)
    (hs : starEach (a :: es) X.env = (false, eval a X.env) :: starEach es X.env := by rfl) (hpl : (backTo pos (starEach es X.env)).any (·.1) = false := by rfl) : PE X (.Call (.Name x p) (a :: es) [] pos) (LP X.K (mB Rd mr)) :=
  pe_imp (pe_callB hc hg hm hv ha hn hdb hs hpl) fun σ H Q h => LA.ops h fun W fp xf Q0 rs vs W2 H2 g hr O os F => I H Q W fp xf Q0 rs vs W2 H2 g hr O os F
theorem dp_callTy {T : String} {x : Str} {r : List V → Hp → VK → Prop} {p : Pos} {Rd : List Rs → (Rs → Prop) → Prop} (hc : CallR X (.type T) r)
    (I : ∀ (H : Hp) (Q : VK) (W : Wd) (fp xf : List Addr) (Q0 : Rs → Prop) rs vs W2 H2 g, Rd rs Q0 → Ops X.K H Q Q0 W2 H2 W fp xf → ResAll X.K H fp W2 H2 vs rs g → Fresh H W2 g → r vs H2 Q)
    (hm : X.mg x = none) (hv : bootBuiltins x = some (.type T)) (ha : PA X (a :: es) (LA X.K mr)) (hg : Gl X x := by rfl) (hn : x ≠ "__name__" := by decide) (hdb : (x == ("__debug__" : Str)) = false := by decide)
    (hs : starEach (a :: es) X.env = (false, eval a X.env) :: starEach es X.env := by rfl) (hpl : (backTo pos (starEach es X.env)).any (·.1) = false := by rfl) : PE X (.Call (.Name x p) (a :: es) [] pos) (LP X.K (mB Rd mr)) :=
  pe_imp (pe_callTy hc hg hm hv ha hn hdb hs hpl) fun σ H Q h => LA.ops h fun W fp xf Q0 rs vs W2 H2 g hr O os F => I H Q W fp xf Q0 rs vs W2 H2 g hr O os F
end
end R
namespace R
open PySem PySem.Spec PyProof.Rows L2
section
variable {X : Cx} {a b c : Expr} {ma mb mc : DE} {pos : Pos} {es : List Expr} {mr : DA}
theorem dp_len {p : Pos} (hm : X.mg "len" = none) (ha : PA X [a] (LA X.K mr)) (hg : Gl X "len" := by rfl) (hs : starEach [a] X.env = (false, eval a X.env) :: starEach [] X.env := by rfl) : PE X (.Call (.Name "len" p) [a] [] pos) (LP X.K (mB oLen mr)) :=
  dp_callB (call_len_seq.or call_len_str) (fun H Q W fp xf Q0 rs vs W2 H2 g hr O os F => by
    unfold oLen at hr
    split at hr
    · obtain ⟨v, rfl, o⟩ := os.one F
      exact .inr ⟨_, congrArg (fun z => [z]) (str_of o), by rw [← sizeL_eq]; exact hr.1, O.fin hr.2 (.int _)⟩
    · obtain ⟨ts, e, q⟩ := hr
      obtain ⟨v, rfl, o⟩ := os.one F
      obtain ⟨p, us, f, rfl, s, w, _⟩ := kids_ok e o O.S2
      exact .inl ⟨p, us, rfl, s, by rw [w.len]; exact O.fin q (.int _)⟩
    · exact hr.elim) hm PySem.boot_len ha hg (hs := hs)
theorem dp_int1 {p : Pos} (hm : X.mg "int" = none) (ha : PA X [a] (LA X.K mr)) (hg : Gl X "int" := by rfl) (hs : starEach [a] X.env = (false, eval a X.env) :: starEach [] X.env := by rfl) : PE X (.Call (.Name "int" p) [a] [] pos) (LP X.K (mB oInt1 mr)) :=
  dp_callTy call_int1 (fun H Q W fp xf Q0 rs vs W2 H2 g hr O os F => by
    unfold oInt1 at hr
    split at hr
    · obtain ⟨v, rfl, o⟩ := os.one F
      exact .inl ⟨_, congrArg (fun z => [z]) (int_of o), O.fin hr (.int _)⟩
    · obtain ⟨v, rfl, o⟩ := os.one F
      exact .inr ⟨_, congrArg (fun z => [z]) (bl_of o), O.fin hr (.int _)⟩
    · exact hr.elim) hm (by decide +kernel) ha hg (hs := hs)
theorem min_if (i j : Int) : (if j < i then j else i) = min i j := by
  rw [Int.min_def]
  split <;> split <;> omega
theorem max_if (i j : Int) : (if j > i then j else i) = max i j := by
  rw [Int.max_def]
  split <;> split <;> omega
theorem dp_min2 {p : Pos} (hc : X.calm = true) (hm : X.mg "min" = none) (ha : PA X [a, b] (LA X.K mr)) (hg : Gl X "min" := by rfl) (hs : starEach [a, b] X.env = (false, eval a X.env) :: starEach [b] X.env := by rfl) (hpl : (backTo pos (starEach [b] X.env)).any (·.1) = false := by rfl) : PE X (.Call (.Name "min" p) [a, b] [] pos) (LP X.K (mB oMin2 mr)) :=
  dp_callB (call_min2 hc) (fun H Q W fp xf Q0 rs vs W2 H2 g hr O os F => by
    unfold oMin2 at hr
    split at hr
    · obtain ⟨v, u, rfl, o1, o2⟩ := os.two F
      refine ⟨_, _, by rw [int_of o1, int_of o2], ?_⟩
      rw [min_if]
      exact O.fin hr (.int _)
    · exact hr.elim) hm (by decide +kernel) ha hg (hs := hs) (hpl := hpl)
theorem dp_max2 {p : Pos} (hc : X.calm = true) (hm : X.mg "max" = none) (ha : PA X [a, b] (LA X.K mr)) (hg : Gl X "max" := by rfl) (hs : starEach [a, b] X.env = (false, eval a X.env) :: starEach [b] X.env := by rfl) (hpl : (backTo pos (starEach [b] X.env)).any (·.1) = false := by rfl) : PE X (.Call (.Name "max" p) [a, b] [] pos) (LP X.K (mB oMax2 mr)) :=
  dp_callB (call_max2 hc) (fun H Q W fp xf Q0 rs vs W2 H2 g hr O os F => by
    unfold oMax2 at hr
    split at hr
    · obtain ⟨v, u, rfl, o1, o2⟩ := os.two F
      refine ⟨_, _, by rw [int_of o1, int_of o2], ?_⟩
      rw [max_if]
      exact O.fin hr (.int _)
    · exact hr.elim) hm (by decide +kernel) ha hg (hs := hs) (hpl := hpl)
end
end R
namespace R
open PySem PySem.Spec PyProof.Rows L2
section
variable {K : PySem.W.Frag} {W W1 W2 W' : Wd} {H H1 H2 H' : Hp} {f f1 fp xf : List Addr} {σ : L2.St} {Q : VK} {r : Rs} {v : V} {env : Env}
theorem List.set_getElem_self_some {α : Type} {l : List α} {i : Nat} {x : α} (h : l[i]? = some x) : l.set i x = l := by
  obtain ⟨hi, e⟩ := List.getElem?_eq_some_iff.mp h
  rw [← e, List.set_getElem_self]
theorem Sat.perm {fp' xf' : List Addr} (s : Sat K W H fp xf) (p : fp'.Perm fp) (x : ∀ a ∈ xf', a ∈ xf) : Sat K W H fp' xf' :=
  ⟨s.sub, s.vol, p.nodup_iff.mpr s.nd, fun a m => s.off a (p.mem_iff.mp m), fun a m => ⟨fun q => (s.xof a (x a m)).1 (p.mem_iff.mp q), (s.xof a (x a m)).2⟩⟩
theorem Sat.less {g : List Addr} (s : Sat K W H (g ++ fp) xf) : Sat K W H fp xf :=
  ⟨s.sub, s.vol, (List.nodup_append.mp s.nd).2.1, fun a m => s.off a (List.mem_append_right _ m), fun a m => ⟨fun q => (s.xof a m).1 (List.mem_append_right _ q), (s.xof a m).2⟩⟩
theorem EnvOk.len (E : EnvOk K W H σ env fp xf) : σ.length = env.length := by
  induction E with
  | nil => rfl
  | no _ ih => simp [ih]
  | fz _ _ ih => simp [ih]
  | nw _ _ ih => simp [ih]
  | ex _ _ ih => simp [ih]
theorem EnvOk.clear {σ : L2.St} {env : Env} {fp xf : List Addr} (E : EnvOk K W H σ env fp xf) : ∀ (i : Nat) (x : Option V), ∃ f fp' xf', EnvOk K W H (σ.set i x) (env.set i none) fp' xf' ∧ fp.Perm (f ++ fp') ∧ (∀ a ∈ xf', a ∈ xf) ∧
    ∀ t v, env[i]? = some (some (.nw t)) → σ[i]? = some (some v) → Own K W H v t f := by
  induction E with
  | nil => intro i x; exact ⟨[], [], [], .nil, .refl _, fun _ m => m, fun t v e => by simp at e⟩
  | no E ih =>
    intro i x
    cases i with
    | zero => exact ⟨[], _, _, .no E, .refl _, fun _ m => m, fun t v e => by simp at e⟩
    | succ i =>
      obtain ⟨f, fp', xf', a, b, c, d⟩ := ih i x
      exact ⟨f, fp', xf', .no a, b, c, fun t v e1 e2 => d t v (by simpa using e1) (by simpa using e2)⟩
  | fz r E ih =>
    intro i x
    cases i with
    | zero => exact ⟨[], _, _, .no E, .refl _, fun _ m => m, fun t v e => by simp at e⟩
    | succ i =>
      obtain ⟨f, fp', xf', a, b, c, d⟩ := ih i x
      exact ⟨f, fp', xf', .fz r a, b, c, fun t v e1 e2 => d t v (by simpa using e1) (by simpa using e2)⟩
  | nw r E ih =>
    rename_i v t f0 σ e fp xf
    intro i x
    cases i with
    | zero => exact ⟨f0, _, _, .no E, .refl _, fun _ m => m, fun t v e1 e2 => by simp at e1 e2; subst e1 e2; exact r⟩
    | succ i =>
      obtain ⟨f, fp', xf', a, b, c, d⟩ := ih i x
      refine ⟨f, f0 ++ fp', xf', .nw r a, ?_, c, fun t v e1 e2 => d t v (by simpa using e1) (by simpa using e2)⟩
      have q : (f0 ++ (f ++ fp')).Perm (f ++ (f0 ++ fp')) := by
        rw [← List.append_assoc, ← List.append_assoc]
        exact List.perm_append_comm.append_right _
      exact (b.append_left f0).trans q
  | ex r E ih =>
    intro i x
    cases i with
    | zero => exact ⟨[], _, _, .no E, .refl _, fun _ m => List.mem_append_right _ m, fun t v e => by simp at e⟩
    | succ i =>
      obtain ⟨f, fp', xf', a, b, c, d⟩ := ih i x
      exact ⟨f, fp', _, .ex r a, b, fun z m => (List.mem_append.mp m).elim (List.mem_append_left _) fun m => List.mem_append_right _ (c z m), fun t v e1 e2 => d t v (by simpa using e1) (by simpa using e2)⟩
theorem EnvOk.fill {σ : L2.St} {env : Env} {fp xf : List Addr} (E : EnvOk K W H σ env fp xf) : ∀ {i : Nat}, i < σ.length → env[i]? = some none →
    (∀ d, r = .fz d → Rep K W v d → EnvOk K W H (σ.set i (some v)) (env.set i (some r)) fp xf) ∧
    (∀ t f, r = .nw t → Own K W H v t f → ∃ fp', EnvOk K W H (σ.set i (some v)) (env.set i (some r)) fp' xf ∧ fp'.Perm (f ++ fp)) ∧
    (∀ t f, r = .ex t → Own K W H v t f → ∃ xf', EnvOk K W H (σ.set i (some v)) (env.set i (some r)) fp xf' ∧ ∀ a ∈ xf', a ∈ f ∨ a ∈ xf) := by
  induction E with
  | nil => intro i hi; simp at hi
  | no E ih =>
    intro i hi he
    cases i with
    | zero => exact ⟨fun d e q => by subst e; exact .fz q E, fun t f e q => by subst e; exact ⟨_, .nw q E, .refl _⟩, fun t f e q => by subst e; exact ⟨_, .ex q E, fun a m => List.mem_append.mp m⟩⟩
    | succ i =>
      obtain ⟨a, b, c⟩ := ih (i := i) (by simpa using hi) (by simpa using he)
      refine ⟨fun d e q => .no (a d e q), fun t f e q => ?_, fun t f e q => ?_⟩
      · obtain ⟨fp', x, y⟩ := b t f e q
        exact ⟨fp', .no x, y⟩
      · obtain ⟨fp', x, y⟩ := c t f e q
        exact ⟨fp', .no x, y⟩
  | fz r0 E ih =>
    intro i hi he
    cases i with
    | zero => simp at he
    | succ i =>
      obtain ⟨a, b, c⟩ := ih (i := i) (by simpa using hi) (by simpa using he)
      refine ⟨fun d e q => .fz r0 (a d e q), fun t f e q => ?_, fun t f e q => ?_⟩
      · obtain ⟨fp', x, y⟩ := b t f e q
        exact ⟨fp', .fz r0 x, y⟩
      · obtain ⟨fp', x, y⟩ := c t f e q
        exact ⟨fp', .fz r0 x, y⟩
  | nw r0 E ih =>
    rename_i f0 _ _ fp xf
    intro i hi he
    cases i with
    | zero => simp at he
    | succ i =>
      obtain ⟨a, b, c⟩ := ih (i := i) (by simpa using hi) (by simpa using he)
      refine ⟨fun d e q => .nw r0 (a d e q), fun t f e q => ?_, fun t f e q => ?_⟩
      · obtain ⟨fp', x, y⟩ := b t f e q
        refine ⟨f0 ++ fp', .nw r0 x, (y.append_left f0).trans ?_⟩
        rw [← List.append_assoc, ← List.append_assoc]
        exact List.perm_append_comm.append_right _
      · obtain ⟨fp', x, y⟩ := c t f e q
        exact ⟨fp', .nw r0 x, y⟩
  | ex r0 E ih =>
    intro i hi he
    cases i with
    | zero => simp at he
    | succ i =>
      obtain ⟨a, b, c⟩ := ih (i := i) (by simpa using hi) (by simpa using he)
      refine ⟨fun d e q => .ex r0 (a d e q), fun t f e q => ?_, fun t f e q => ?_⟩
      · obtain ⟨fp', x, y⟩ := b t f e q
        exact ⟨fp', .ex r0 x, y⟩
      · obtain ⟨fp', x, y⟩ := c t f e q
        refine ⟨_, .ex r0 x, fun a m => ?_⟩
        rcases List.mem_append.mp m with m | m
        · exact .inr (List.mem_append_left _ m)
        · exact (y a m).imp id (List.mem_append_right _)
def SlotOk (K : PySem.W.Frag) (W : Wd) (H : Hp) (fp : List Addr) (v : V) (r : Rs) (f : List Addr) : Prop := match r with
  | .fz d => f = [] ∧ Rep K W v d
  | .nw t => Own K W H v t f
  | .ex t => f = [] ∧ ∃ g, Own K W H v t g ∧ ∀ a ∈ g, a ∉ fp ∧ W.S a = none
  | .br _ => False
theorem perm4 (g fr f fp1 : List Addr) : (g ++ (fr ++ (f ++ fp1))).Perm (fr ++ (f ++ (g ++ fp1))) := by
  have a : (g ++ (fr ++ (f ++ fp1))).Perm (fr ++ (g ++ (f ++ fp1))) := by
    rw [← List.append_assoc g fr, ← List.append_assoc fr g]
    exact List.perm_append_comm.append_right _
  have b : (g ++ (f ++ fp1)).Perm (f ++ (g ++ fp1)) := by
    rw [← List.append_assoc, ← List.append_assoc]
    exact List.perm_append_comm.append_right _
  exact a.trans (b.append_left fr)
theorem EnvOk.put {i : Nat} {f fr : List Addr} (E : EnvOk K W H σ env fp xf) (S : Sat K W H (fr ++ (f ++ fp)) xf) (o : SlotOk K W H (fr ++ (f ++ fp)) v r f) : ∃ fp' xf', EnvOk K W H (σ.set i (some v)) (env.set i (some r)) fp' xf' ∧ Sat K W H (fr ++ fp') xf' ∧ ∀ a ∈ fp', a ∈ f ∨ a ∈ fp := by
  by_cases hi : i < σ.length
  case neg =>
    rw [List.set_eq_of_length_le (by omega), List.set_eq_of_length_le (by rw [← E.len]; omega)]
    refine ⟨fp, xf, E, Sat.less (g := f) (S.perm ?_ fun _ m => m), fun _ m => .inr m⟩
    rw [← List.append_assoc f fr, ← List.append_assoc fr f]
    exact List.perm_append_comm.append_right _
  obtain ⟨g, fp1, xf1, E1, p1, x1, _⟩ := E.clear i none
  have hi2 : i < (σ.set i none).length := by simpa using hi
  have he : (env.set i none)[i]? = some none := by
    rw [List.getElem?_set_self]
    rw [← E.len]; exact hi
  have sub1 : ∀ a ∈ fp1, a ∈ fp := fun a m => p1.mem_iff.mpr (List.mem_append_right _ m)
  have S1 : Sat K W H (fr ++ (f ++ fp1)) xf1 := by
    have q : (g ++ (fr ++ (f ++ fp1))).Perm (fr ++ (f ++ fp)) := (perm4 g fr f fp1).trans ((p1.symm.append_left f).append_left fr)
    exact (S.perm q x1).less
  obtain ⟨a, b, c⟩ := E1.fill (r := r) (v := v) hi2 he
  have es : (σ.set i none).set i (some v) = σ.set i (some v) := List.set_set _
  have ee : (env.set i none).set i (some r) = env.set i (some r) := List.set_set _
  rw [es, ee] at a b c
  cases r with
  | fz d =>
    obtain ⟨rfl, o⟩ := o
    exact ⟨fp1, xf1, a d rfl o, S1, fun z m => .inr (sub1 z m)⟩
  | nw t =>
    obtain ⟨fp', e, p⟩ := b t f rfl o
    exact ⟨fp', xf1, e, S1.perm (p.append_left fr) fun _ m => m, fun z m => (List.mem_append.mp (p.mem_iff.mp m)).imp id (sub1 z)⟩
  | ex t =>
    obtain ⟨rfl, g2, o, z2⟩ := o
    obtain ⟨xf', e, p⟩ := c t g2 rfl o
    refine ⟨fp1, xf', e, ⟨S1.sub, S1.vol, S1.nd, S1.off, fun z m => ?_⟩, fun z m => .inr (sub1 z m)⟩
    rcases p z m with m | m
    · refine ⟨fun q => (z2 z m).1 ?_, (z2 z m).2, o.alloc z m⟩
      rcases List.mem_append.mp q with q | q
      · exact List.mem_append_left _ q
      · exact List.mem_append_right _ (sub1 z q)
    · exact S1.xof z m
  | br t => exact o.elim
end
structure Post (K : PySem.W.Frag) (W : Wd) (H : Hp) (fp : List Addr) (pr : List Nat) (σ σ' : L2.St) (W' : Wd) (H' : Hp) (env' : Env) (fp' xf' : List Addr) : Prop where
  t : Stp W H fp W' H'
  E : EnvOk K W' H' σ' env' fp' xf'
  S : Sat K W' H' fp' xf'
  nf : ∀ a ∈ fp', a ∈ fp ∨ H a = none
  pr : ∀ i ∈ pr, σ'[i]? = σ[i]?
def RetOk (K : PySem.W.Frag) (H : Hp) (fp fp' : List Addr) (W' : Wd) (H' : Hp) (v : V) (r : Rs) : Prop := match r with
  | .fz d => Rep K W' v d
  | .nw t => ∃ f, Own K W' H' v t f ∧ f.Nodup ∧ ∀ a ∈ f, (H a = none ∨ a ∈ fp) ∧ a ∉ fp' ∧ W'.G a = none ∧ W'.S a = none
  | _ => False
structure RtOk (K : PySem.W.Frag) (ex : Nat → Hp → Prop) (W : Wd) (H : Hp) (fp : List Addr) (pr : List Nat) (σ : L2.St) (Kr : Rs → Env → Prop) (Dr : V → Hp → Prop) : Prop where
  rt : ∀ r e, Kr r e → ∀ v σ' W' H' fp' xf', Post K W H fp pr σ σ' W' H' e fp' xf' → RetOk K H fp fp' W' H' v r → Dr v H'
  x : ∀ k e, Kr (.fz (.exn k)) e → ∀ σ' W' H' fp' xf', Post K W H fp pr σ σ' W' H' e fp' xf' → ex k H'
instance {K : PySem.W.Frag} {ex : Nat → Hp → Prop} {W : Wd} {H : Hp} {fp : List Addr} {pr : List Nat} {σ : L2.St} {Kr : Rs → Env → Prop} {Dr : V → Hp → Prop} : CoeFun (RtOk K ex W H fp pr σ Kr Dr) (fun _ => ∀ r e, Kr r e → ∀ v σ' W' H' fp' xf', Post K W H fp pr σ σ' W' H' e fp' xf' → RetOk K H fp fp' W' H' v r → Dr v H') := ⟨RtOk.rt⟩
def LS (K : PySem.W.Frag) (ex : Nat → Hp → Prop) (pr : List Nat) (m : DS) : TS := fun D σ H => ∃ (W : Wd) (env : Env) (fp xf : List Addr) (K0 : DK), EnvOk K W H σ env fp xf ∧ Sat K W H fp xf ∧ m env K0 ∧
  (∀ e, K0.nx e → ∀ σ' W' H' fp' xf', Post K W H fp pr σ σ' W' H' e fp' xf' → D.nx σ' H') ∧
  (∀ e, K0.bk e → ∀ σ' W' H' fp' xf', Post K W H fp pr σ σ' W' H' e fp' xf' → D.bk σ' H') ∧
  (∀ e, K0.ct e → ∀ σ' W' H' fp' xf', Post K W H fp pr σ σ' W' H' e fp' xf' → D.ct σ' H') ∧
  RtOk K ex W H fp pr σ K0.rt D.rt
def exT : Nat → Hp → Prop := fun _ _ => True
section
variable {K : PySem.W.Frag} {W W1 W2 W' : Wd} {H H1 H2 H' : Hp} {f f1 fp fp1 fp2 xf xf1 xf2 : List Addr} {σ σ1 σ2 : L2.St} {Q : VK} {r : Rs} {v : V} {env env1 env2 : Env} {pr : List Nat}
theorem Post.pure (t : Stp W H [] W1 H1) (E : EnvOk K W1 H1 σ env fp xf) (S : Sat K W1 H1 fp xf) : Post K W H fp pr σ σ W1 H1 env fp xf := ⟨t.up, E, S, fun _ m => .inl m, fun _ _ => rfl⟩
theorem Post.trans (a : Post K W H fp pr σ σ1 W1 H1 env1 fp1 xf1) (b : Post K W1 H1 fp1 pr σ1 σ2 W2 H2 env2 fp2 xf2) : Post K W H fp pr σ σ2 W2 H2 env2 fp2 xf2 :=
  ⟨a.t.trans b.t a.nf, b.E, b.S, fun c m => (b.nf c m).elim (a.nf c) fun z => .inr (by
    cases q : H c with
    | none => rfl
    | some o => exact absurd z (a.t.al c (some_ne q))), fun i m => (b.pr i m).trans (a.pr i m)⟩
theorem RetOk.back {fp'' : List Addr} (h : RetOk K H1 fp1 fp'' W2 H2 v r) (a : Post K W H fp pr σ σ1 W1 H1 env1 fp1 xf1) : RetOk K H fp fp'' W2 H2 v r := by
  cases r with
  | fz d => exact h
  | nw t =>
    obtain ⟨f, o, nd, z⟩ := h
    refine ⟨f, o, nd, fun c m => ⟨?_, (z c m).2⟩⟩
    rcases (z c m).1 with q | q
    · cases q2 : H c with
      | none => exact .inl rfl
      | some o => exact absurd q (a.t.al c (some_ne q2))
    · exact (a.nf c q).symm
  | br t => exact h
  | ex t => exact h
theorem RetOk.of (h : ResOk K H fp W2 H2 v r) (ho : r.own) (S : Sat K W H fp xf) : RetOk K H fp fp W2 H2 v r := by
  cases r with
  | fz d => exact h
  | nw t =>
    obtain ⟨f, o, nd, z⟩ := h
    exact ⟨f, o, nd, fun a m => ⟨.inl (z a m).1, fun q => (S.off a q).2.2 (z a m).1, (z a m).2⟩⟩
  | br t => exact ho.elim
  | ex t => exact ho.elim
theorem RtOk.after {ex : Nat → Hp → Prop} {Kr : Rs → Env → Prop} {Dr : V → Hp → Prop} (P : Post K W H fp pr σ σ1 W1 H1 env1 fp1 xf1) (rt : RtOk K ex W H fp pr σ Kr Dr) : RtOk K ex W1 H1 fp1 pr σ1 Kr Dr :=
  ⟨fun r e q v σ' W' H' fp' xf' p o => rt.rt r e q v σ' W' H' fp' xf' (P.trans p) (o.back P), fun k e q σ' W' H' fp' xf' p => rt.x k e q σ' W' H' fp' xf' (P.trans p)⟩
theorem LS.from {ex : Nat → Hp → Prop} {m : DS} {D : Ends} {K0 : DK} (P : Post K W H fp pr σ σ1 W1 H1 env1 fp1 xf1) (h : m env1 K0)
    (nx : ∀ e, K0.nx e → ∀ σ' W' H' fp' xf', Post K W H fp pr σ σ' W' H' e fp' xf' → D.nx σ' H')
    (bk : ∀ e, K0.bk e → ∀ σ' W' H' fp' xf', Post K W H fp pr σ σ' W' H' e fp' xf' → D.bk σ' H')
    (ct : ∀ e, K0.ct e → ∀ σ' W' H' fp' xf', Post K W H fp pr σ σ' W' H' e fp' xf' → D.ct σ' H')
    (rt : RtOk K ex W H fp pr σ K0.rt D.rt) : LS K ex pr m D σ1 H1 :=
  ⟨W1, env1, fp1, xf1, K0, P.E, P.S, h, fun e q σ' W' H' fp' xf' p => nx e q σ' W' H' fp' xf' (P.trans p), fun e q σ' W' H' fp' xf' p => bk e q σ' W' H' fp' xf' (P.trans p),
    fun e q σ' W' H' fp' xf' p => ct e q σ' W' H' fp' xf' (P.trans p), rt.after P⟩
theorem ResOk.toSlot (h : ResOk K H fp W2 H2 v r) (hs : r.slot) (S : Sat K W H fp xf) (S2 : Sat K W2 H2 fp xf) : ∃ f, SlotOk K W2 H2 (f ++ fp) v r f ∧ Sat K W2 H2 (f ++ fp) xf ∧ ∀ a ∈ f, H a = none := by
  cases r with
  | fz d => exact ⟨[], ⟨rfl, h⟩, S2, fun _ m => by cases m⟩
  | nw t =>
    obtain ⟨f, o, nd, z⟩ := h
    refine ⟨f, o, ⟨S2.sub, S2.vol, List.nodup_append.mpr ⟨nd, S2.nd, fun a m b m2 e => ?_⟩, fun a m => ?_, fun a m => ⟨fun q => ?_, (S2.xof a m).2⟩⟩, fun a m => (z a m).1⟩
    · subst e
      exact (S.off a m2).2.2 (z a m).1
    · rcases List.mem_append.mp m with m | m
      · exact ⟨(z a m).2.1, (z a m).2.2, o.alloc a m⟩
      · exact S2.off a m
    · rcases List.mem_append.mp q with q | q
      · exact (S.xof a m).2.2 (z a q).1
      · exact (S2.xof a m).1 q
  | ex t =>
    obtain ⟨f, o, z⟩ := h
    exact ⟨[], ⟨rfl, f, o, fun a m => ⟨(z a m).2, (z a m).1⟩⟩, S2, fun _ m => by cases m⟩
  | br t => exact hs.elim
theorem Post.store {i : Nat} (S : Sat K W H fp xf) (t : Stp W H [] W1 H1) (E : EnvOk K W1 H1 σ env fp xf) (S1 : Sat K W1 H1 fp xf) (o : ResOk K H fp W1 H1 v r) (hs : r.slot) (hp : i ∉ pr) :
    ∃ fp' xf', Post K W H fp pr σ (σ.set i (some v)) W1 H1 (env.set i (some r)) fp' xf' := by
  obtain ⟨f, so, sf, z⟩ := o.toSlot hs S S1
  obtain ⟨fp', xf', E', S', y⟩ := E.put (fr := []) sf so
  refine ⟨fp', xf', t.up, E', S', fun a m => (y a m).elim (fun q => .inr (z a q)) .inl, fun j m => ?_⟩
  rw [List.getElem?_set_ne]
  intro e
  exact hp (by rw [e]; exact m)
end
section
variable {X : Cx} {a b c : Expr} {ma mb mc : DE} {pos : Pos} {ta tb : DT} {st : Stmt} {rest s1 s2 : List Stmt} {m m1 m2 : DS} {pr : List Nat}
theorem dss_nil : PSs X [] (LS X.K ex pr mNext) := pss_imp pss_nil fun D σ H h => by
  obtain ⟨W, env, fp, xf, K0, E, S, hm, nx, _⟩ := h
  exact nx _ hm σ W H fp xf (.pure .refl E S)
theorem dss_cons (h1 : PS X st (LS X.K ex pr m1)) (h2 : PSs X rest (LS X.K ex pr m2)) : PSs X (st :: rest) (LS X.K ex pr (mSeq m1 m2)) := pss_imp (pss_cons h1 h2) fun D σ H h => by
  obtain ⟨W, env, fp, xf, K0, E, S, hm, nx, bk, ct, rt⟩ := h
  exact ⟨W, env, fp, xf, _, E, S, hm, fun e q σ' W' H' fp' xf' P => LS.from P q nx bk ct rt, bk, ct, rt⟩
theorem dss_one (h1 : PS X st (LS X.K ex pr m1)) : PSs X [st] (LS X.K ex pr m1) := pss_one h1
theorem ds_if (hc : PT X c (LT X.K ta)) (ha : PSs X s1 (LS X.K ex pr m1)) (hb : PSs X s2 (LS X.K ex pr m2)) : PS X (.If c s1 s2 pos) (LS X.K ex pr (mIfS ta m1 m2)) := ps_imp (ps_if hc ha hb) fun D σ H h => by
  obtain ⟨W, env, fp, xf, K0, E, S, hm, nx, bk, ct, rt⟩ := h
  refine LT.next E S hm fun c hc W1 H1 t1 S1 E1 => ?_
  cases c with
  | true => exact iteT (LS.from (.pure t1 E1 S1) (show m1 env K0 from hc) nx bk ct rt)
  | false => exact iteF (LS.from (.pure t1 E1 S1) (show m2 env K0 from hc) nx bk ct rt)
theorem ds_ret (ha : PE X a (LP X.K ma)) : PS X (.Return (some a) pos) (LS X.K ex pr (mRet ma)) := ps_imp (ps_ret ha) fun D σ H h => by
  obtain ⟨W, env, fp, xf, K0, E, S, hm, nx, bk, ct, rt⟩ := h
  refine LP.next E S hm fun r hr v W1 H1 t1 S1 E1 o => ?_
  exact rt r env hr.2 v σ W1 H1 fp xf (.pure t1 E1 S1) (.of o hr.1 S)
end
end R
namespace R
open PySem PySem.Spec PyProof.Rows L2
def LG (K : PySem.W.Frag) (pr : Nat → Prop) (g : DG) : TG := fun v σ H Q => ∃ (W : Wd) (env : Env) (fp xf f fr : List Addr) (r : Rs) (Q0 : Env → Prop), EnvOk K W H σ env fp xf ∧ Sat K W H (fr ++ (f ++ fp)) xf ∧ ResAll K H (fr ++ (f ++ fp)) W H [v] [r] f ∧ g env r Q0 ∧
  ∀ e, Q0 e → ∀ σ' fp' xf', EnvOk K W H σ' e fp' xf' → Sat K W H (fr ++ fp') xf' → (∀ a ∈ fp', a ∈ f ∨ a ∈ fp) → (∀ i, pr i → σ'[i]? = σ[i]?) → Q σ' H
def LGs (K : PySem.W.Frag) (pr : Nat → Prop) (gs : List DG) : TGs := fun vs σ H Q => ∃ (W : Wd) (env : Env) (fp xf f fr : List Addr) (rs : List Rs) (Q0 : Env → Prop), EnvOk K W H σ env fp xf ∧ Sat K W H (fr ++ (f ++ fp)) xf ∧ ResAll K H (fr ++ (f ++ fp)) W H vs rs f ∧ gsN gs rs env Q0 ∧
  ∀ e, Q0 e → ∀ σ' fp' xf', EnvOk K W H σ' e fp' xf' → Sat K W H (fr ++ fp') xf' → (∀ a ∈ fp', a ∈ f ∨ a ∈ fp) → (∀ i, pr i → σ'[i]? = σ[i]?) → Q σ' H
section
variable {K : PySem.W.Frag} {W W1 W2 W' : Wd} {H H1 H2 H' : Hp} {f f1 fp fp1 fp2 xf xf1 xf2 : List Addr} {σ σ1 σ2 : L2.St} {Q : VK} {r : Rs} {v : V} {env env1 env2 : Env} {pr : List Nat}
theorem slot_of {fq : List Addr} {H0 : Hp} (h : ResAll K H0 fq W H [v] [r] f) (hs : r.slot) : SlotOk K W H fq v r f := by
  cases h with
  | fz a b => cases b; exact ⟨rfl, a⟩
  | nw a b => cases b; rw [List.append_nil]; exact a
  | br a z b => exact hs.elim
  | ex a z b => cases b; exact ⟨rfl, _, a, fun c m => ⟨(z c m).2, (z c m).1⟩⟩
end
section
variable {X : Cx} {a b c : Expr} {ma mb mc : DE} {pos : Pos} {ta tb : DT} {st : Stmt} {rest s1 s2 : List Stmt} {m m1 m2 : DS} {pr : List Nat} {g : DG} {gs : List DG} {es : List Expr}
theorem dg_name {i : Nat} {x : Str} {pr : Nat → Prop} (hN : X.N.Nodup) (hi : X.N[i]? = some x) (hx : Loc X.env.scope x := by first | exact Or.inl rfl | exact Or.inr rfl) (hp : ¬ pr i := by decide) (hf : X.fn x = true ∨ X.env.scope.names.lookup x = some .local := by first | exact .inl rfl | exact .inr rfl | assumption) :
    PG X (.Name x pos) (LG X.K pr (gN i)) := by
  refine ⟨fun pins s σ H v u Q I r h => (pg_name hN hi hx hf).run pins s σ H v u Q I r ?_⟩
  obtain ⟨W, env, fp, xf, f, fr, rs, Q0, E, S, o, ⟨hs, hq⟩, k⟩ := h
  obtain ⟨fp', xf', E', S', y⟩ := E.put (i := i) S (slot_of o hs)
  exact k _ hq _ fp' xf' E' S' y fun j m => by
    rw [List.getElem?_set_ne]
    intro e
    exact hp (by rw [e]; exact m)
theorem dgs_nil {pr : Nat → Prop} : PGs X [] (LGs X.K pr []) := by
  refine ⟨fun pins s σ H vs us Q I r h => pgs_nil.run pins s σ H vs us Q I r ?_⟩
  obtain ⟨W, env, fp, xf, f, fr, rs, Q0, E, S, o, hq, k⟩ := h
  cases rs with
  | nil =>
    obtain ⟨rfl, rfl⟩ := o.nil_inv
    exact ⟨rfl, k _ hq _ fp xf E S (fun a m => .inr m) fun _ _ => rfl⟩
  | cons r rs => exact hq.elim
theorem ResAll.head {K : PySem.W.Frag} {H0 : Hp} {fq : List Addr} {W : Wd} {H : Hp} {vs : List V} {r : Rs} {rs : List Rs} {f : List Addr} (o : ResAll K H0 fq W H vs (r :: rs) f) : ∃ v us f1 f2, vs = v :: us ∧ f = f1 ++ f2 ∧ ResAll K H0 fq W H [v] [r] f1 ∧ ResAll K H0 fq W H us rs f2 := by
  cases o with
  | fz a b => exact ⟨_, _, [], _, rfl, rfl, .fz a .nil, b⟩
  | nw a b => exact ⟨_, _, _, _, rfl, rfl, by have z := ResAll.nw (H := H0) (fp := fq) a .nil; rw [List.append_nil] at z; exact z, b⟩
  | br a z b => exact ⟨_, _, [], _, rfl, rfl, .br a z .nil, b⟩
  | ex a z b => exact ⟨_, _, [], _, rfl, rfl, .ex a z .nil, b⟩
theorem ResAll.refp {K : PySem.W.Frag} {H0 H1 : Hp} {fq fq' : List Addr} {W : Wd} {H : Hp} {vs : List V} {rs : List Rs} {f : List Addr} (o : ResAll K H0 fq W H vs rs f) (h : ∀ a ∈ fq', a ∈ fq) : ResAll K H1 fq' W H vs rs f := by
  induction o with
  | nil => exact .nil
  | fz a _ ih => exact .fz a ih
  | nw a _ ih => exact .nw a ih
  | br a z _ ih => exact .br a z ih
  | ex a z _ ih => exact .ex a (fun c m => ⟨(z c m).1, fun q => (z c m).2 (h c q)⟩) ih
theorem dgs_cons {pr : Nat → Prop} (h1 : PG X a (LG X.K pr g)) (h2 : PGs X es (LGs X.K pr gs))
    (he : (assignEach (a :: es) X.env).map (·.2) = assign a X.env :: (assignEach es X.env).map (·.2) := by rfl) : PGs X (a :: es) (LGs X.K pr (g :: gs)) := by
  refine ⟨fun pins s σ H vs us Q I rv h => (pgs_cons h1 h2 he).run pins s σ H vs us Q I rv ?_⟩
  obtain ⟨W, env, fp, xf, f, fr, rs, Q0, E, S, o, hq, k⟩ := h
  cases rs with
  | nil => exact hq.elim
  | cons r rs =>
    obtain ⟨v, us, f1, f2, rfl, rfl, o1, o2⟩ := o.head
    refine ⟨v, us, rfl, W, env, fp, xf, f1, fr ++ f2, r, _, E, ?_, ?_, hq, fun e hq σ' fp' xf' E' S' y z => ?_⟩
    · refine S.perm ?_ fun _ m => m
      rw [List.append_assoc, List.append_assoc]
      refine List.Perm.append_left fr ?_
      rw [← List.append_assoc, ← List.append_assoc]
      exact List.perm_append_comm.append_right _
    · refine o1.refp fun a m => ?_
      simp only [List.mem_append] at m ⊢
      rcases m with (m | m) | m | m
      · exact .inl m
      · exact .inr (.inl (.inr m))
      · exact .inr (.inl (.inl m))
      · exact .inr (.inr m)
    · rw [List.append_assoc] at S'
      refine ⟨W, e, fp', xf', f2, fr, rs, _, E', S', ?_, hq, fun e2 hq2 σ2 fp2 xf2 E2 S2 y2 z2 => ?_⟩
      · refine o2.refp fun a m => ?_
        simp only [List.mem_append] at m ⊢
        rcases m with m | m | m
        · exact .inl m
        · exact .inr (.inl (.inr m))
        · exact (y a m).elim (fun q => .inr (.inl (.inl q))) fun q => .inr (.inr q)
      · refine k e2 hq2 σ2 fp2 xf2 E2 S2 (fun a m => ?_) fun i m => (z2 i m).trans (z i m)
        rcases y2 a m with q | q
        · exact .inl (List.mem_append_right _ q)
        · exact (y a q).imp (List.mem_append_left _) id
theorem parts_ok {K : PySem.W.Frag} {H0 : Hp} {fq : List Addr} {W : Wd} {H : Hp} {v : V} {r : Rs} {rs : List Rs} {f fp xf fr : List Addr} (h : r.parts = some rs) (o : ResAll K H0 fq W H [v] [r] f) (S : Sat K W H (fr ++ (f ++ fp)) xf) :
    ∃ a vs g, v = .ref a ∧ SqT K H a vs ∧ ResAll K H0 fq W H vs rs g ∧ Sat K W H (fr ++ (g ++ fp)) xf ∧ ∀ x ∈ g, x ∈ f := by
  cases r with
  | fz d =>
    cases d with
    | tup ds =>
      cases h
      cases o with
      | fz a b =>
        cases b
        cases a with
        | tup g rr =>
          refine ⟨_, _, [], rfl, .of (S.sub _ _ g), ?_, S, fun _ m => by cases m⟩
          have key : ∀ {vs : List V} {ds : List D}, RepAll K W vs ds → ResAll K H0 fq W H vs (ds.map .fz) [] := by
            intro vs ds
            induction ds generalizing vs with
            | nil => intro h; cases h; exact .nil
            | cons d ds ih => intro h; cases h with | cons a b => exact .fz a (ih b)
          exact key rr
    | _ => cases h
  | nw t =>
    cases t with
    | tup ts =>
      cases h
      cases o with
      | nw a b =>
        cases b
        rw [List.append_nil] at S ⊢
        cases a with
        | tup g rr =>
          rename_i p us f'
          have key : ∀ {vs : List V} {ts : List OT} {f : List Addr}, OwnAll K W H vs ts f → ResAll K H0 fq W H vs (ts.map nwOf) f := by
            intro vs ts
            induction ts generalizing vs with
            | nil => intro f h; cases h; exact .nil
            | cons t ts ih =>
              intro f h
              cases h with
              | cons a b =>
                cases t with
                | leaf d => cases a with | leaf a => exact .fz a (ih b)
                | lst _ => exact .nw a (ih b)
                | tup _ => exact .nw a (ih b)
                | ins _ _ _ => exact .nw a (ih b)
                | d0 => exact .nw a (ih b)
                | xo => exact .nw a (ih b)
                | dk _ _ => exact .nw a (ih b)
          refine ⟨p, us, f', rfl, .of g, key rr, ?_, fun _ m => List.mem_cons_of_mem _ m⟩
          refine Sat.less (g := [p]) (S.perm ?_ fun _ m => m)
          exact (List.perm_append_comm (l₁ := [p]) (l₂ := fr)).append_right (f' ++ fp) |>.trans (by rw [List.append_assoc]; exact .refl _) |> fun z => by rw [List.append_assoc] at z; exact z
    | _ => cases h
  | br t => cases h
  | ex t =>
    cases t with
    | tup ts =>
      cases h
      cases o with
      | ex a z b =>
        cases b
        cases a with
        | tup g rr =>
          rename_i p us f'
          have key : ∀ {vs : List V} {ts : List OT} {f : List Addr}, OwnAll K W H vs ts f → (∀ a ∈ f, W.S a = none ∧ a ∉ fq) → ResAll K H0 fq W H vs (ts.map exOf) [] := by
            intro vs ts
            induction ts generalizing vs with
            | nil => intro f h _; cases h; exact .nil
            | cons t ts ih =>
              intro f h z
              cases h with
              | cons a b =>
                have zb := fun c m => z c (List.mem_append_right _ m)
                have za := fun c m => z c (List.mem_append_left _ m)
                cases t with
                | leaf d => cases a with | leaf a => exact .fz a (ih b zb)
                | lst _ => exact .ex a za (ih b zb)
                | tup _ => exact .ex a za (ih b zb)
                | ins _ _ _ => exact .ex a za (ih b zb)
                | d0 => exact .ex a za (ih b zb)
                | xo => exact .ex a za (ih b zb)
                | dk _ _ => exact .ex a za (ih b zb)
          exact ⟨p, us, [], rfl, .of g, key rr fun c m => z c (List.mem_cons_of_mem _ m), S, fun _ m => by cases m⟩
    | _ => cases h
theorem ResAll.len {K : PySem.W.Frag} {H0 : Hp} {fq : List Addr} {W : Wd} {H : Hp} {vs : List V} {rs : List Rs} {f : List Addr} (o : ResAll K H0 fq W H vs rs f) : vs.length = rs.length := by
  induction o with
  | nil => rfl
  | fz _ _ ih => simp [ih]
  | nw _ _ ih => simp [ih]
  | br _ _ _ ih => simp [ih]
  | ex _ _ _ ih => simp [ih]
theorem dg_tup {k n : Nat} {pr : Nat → Prop} (hc : X.calm = true) (h : PGs X es (LGs X.K pr gs)) (hg : gs.length = n := by rfl) (hn : (assignEach es X.env).length = n := by rfl) (hst : (assignEach es X.env).findIdx? (·.1) = none := by rfl) : PG X (.Tuple es k pos) (LG X.K pr (gT gs)) := by
  refine ⟨fun pins s σ H v u Q I rv h' => (pg_tup hc h hn hst).run pins s σ H v u Q I rv ?_⟩
  obtain ⟨W, env, fp, xf, f, fr, r, Q0, E, S, o, ⟨ps, ep, el, hq⟩, kk⟩ := h'
  obtain ⟨a, vs, g, rfl, ht, os, S', y⟩ := parts_ok ep o S
  refine ⟨a, vs, rfl, ht, by rw [os.len, el, hg], W, env, fp, xf, g, fr, ps, Q0, E, S', os.refp fun a m => ?_, hq, fun e q σ' fp' xf' E' S' y2 z2 => kk e q σ' fp' xf' E' S' (fun c m => (y2 c m).imp (y c) id) z2⟩
  simp only [List.mem_append] at m ⊢
  rcases m with m | m | m
  · exact .inl m
  · exact .inr (.inl (y a m))
  · exact .inr (.inr m)
theorem LG.of {K : PySem.W.Frag} {W W1 : Wd} {H H1 : Hp} {fp xf : List Addr} {σ : L2.St} {env : Env} {r : Rs} {v : V} {g : DG} {Q0 : Env → Prop} {Q : L2.St → Hp → Prop} (S : Sat K W H fp xf) (t : Stp W H [] W1 H1) (E : EnvOk K W1 H1 σ env fp xf) (S1 : Sat K W1 H1 fp xf) (o : ResOk K H fp W1 H1 v r) (h : g env r Q0)
    (k : ∀ e, Q0 e → ∀ σ' fp' xf', Post K W H fp pr σ σ' W1 H1 e fp' xf' → Q σ' H1) : LG K (· ∈ pr) g v σ H1 Q := by
  have fin : ∀ f, Sat K W1 H1 ([] ++ (f ++ fp)) xf → (∀ a ∈ f, H a = none) → ResAll K H1 ([] ++ (f ++ fp)) W1 H1 [v] [r] f → LG K (· ∈ pr) g v σ H1 Q := fun f s z o => ⟨W1, env, fp, xf, f, [], r, Q0, E, s, o, h, fun e q σ' fp' xf' E' S' y2 z2 =>
    k e q σ' fp' xf' ⟨t.up, E', S', fun a m => (y2 a m).elim (fun q => .inr (z a q)) .inl, z2⟩⟩
  cases r with
  | fz d => exact fin [] S1 (fun _ m => by cases m) (.fz o .nil)
  | nw x =>
    obtain ⟨f, so, sf, z⟩ := o.toSlot trivial S S1
    have w := ResAll.nw (H := H1) (fp := [] ++ (f ++ fp)) (v := v) so .nil
    rw [List.append_nil] at w
    exact fin f sf z w
  | br x =>
    obtain ⟨f, o, z⟩ := o
    exact fin [] S1 (fun _ m => by cases m) (.br o z .nil)
  | ex x =>
    obtain ⟨f, o, z⟩ := o
    exact fin [] S1 (fun _ m => by cases m) (.ex o z .nil)
theorem ds_asg {i : Nat} {x : Str} {p : Pos} (hN : X.N.Nodup) (hi : X.N[i]? = some x) (ha : PE X a (LP X.K ma)) (hx : Loc X.env.scope x := by first | exact Or.inl rfl | exact Or.inr rfl) (hp : i ∉ pr := by decide) (hs : swapsWith a (some (.Name x p)) pos.line X.env = pure false := by rfl)
    (hf : X.fn x = true ∨ X.env.scope.names.lookup x = some .local := by first | exact .inl rfl | exact .inr rfl | assumption) : PS X (.Assign [.Name x p] a pos) (LS X.K ex pr (mAsgG (gN i) ma)) :=
  ps_imp (ps_set hN hi hx ha hs hf) fun D σ H h => by
  obtain ⟨W, env, fp, xf, K0, E, S, hm, nx, bk, ct, rt⟩ := h
  refine LP.next E S hm fun r hr v W1 H1 t1 S1 E1 o => ?_
  obtain ⟨fp', xf', P⟩ := Post.store (i := i) (pr := pr) S t1 E1 S1 o hr.1 hp
  exact nx _ hr.2 _ W1 H1 fp' xf' P
end
end R
namespace R
open PySem PySem.Spec PyProof.Rows L2
def ItOk (K : PySem.W.Frag) (J : It) (xs : List Rs) (W : Wd) (H : Hp) (f fp : List Addr) : Prop := ∀ W' H' fp' xf', Stp W H f W' H' → W.Le W' → Sat K W' H' fp' xf' → (∀ a ∈ fp', a ∈ fp ∨ H a = none) →
  (∀ i, xs.length ≤ i → J.stop i H') ∧ (∀ i, i < xs.length → J.go i H') ∧ ∀ i x H'' r, J.yld i H' x H'' → xs[i]? = some r → Stp W' H' [] W' H'' ∧ Sat K W' H'' fp' xf' ∧ ResOk K H' fp' W' H'' x r
def LI (K : PySem.W.Frag) (m : DI) : TI := fun σ H R => ∃ (W : Wd) (env : Env) (fp xf : List Addr) (Q0 : Bool → List Rs → Prop), EnvOk K W H σ env fp xf ∧ Sat K W H fp xf ∧ m env Q0 ∧
  ∀ st xs, Q0 st xs → ∀ J W' H', Stp W H [] W' H' → Sat K W' H' fp xf → (∀ f, (st = true ∨ f = []) → (∀ a ∈ f, a ∈ fp) → ItOk K J xs W' H' f fp) → R J H'
section
variable {K : PySem.W.Frag} {W W1 W2 W' : Wd} {H H1 H2 H' : Hp} {f f1 fp fp1 fp2 xf xf1 xf2 : List Addr} {σ σ1 σ2 : L2.St} {Q : VK} {r : Rs} {v : V} {env env1 env2 : Env} {pr : List Nat}
theorem items_stay {ts : List OT} (o : ResOk K H fp W1 H1 v r) (ek : r.t.kids = some ts) (S1 : Sat K W1 H1 fp xf) : ∃ (p : Addr) (vs : List V), v = .ref p ∧ vs.length = ts.length ∧
    (((∃ xs, SqL K H1 p xs) ∧ ∀ f, (r.stays = true ∨ f = []) → (∀ a ∈ f, a ∈ fp) → ∀ W' H' fp' xf', Stp W1 H1 f W' H' → W1.Le W' → Sat K W' H' fp' xf' → SqL K H' p vs) ∨
      ((∃ xs, SqT K H1 p xs) ∧ ∀ f, (r.stays = true ∨ f = []) → (∀ a ∈ f, a ∈ fp) → ∀ W' H' fp' xf', Stp W1 H1 f W' H' → W1.Le W' → Sat K W' H' fp' xf' → SqT K H' p vs)) ∧
    ∀ f, (r.stays = true ∨ f = []) → (∀ a ∈ f, a ∈ fp) → ∀ W' H' fp' xf', Stp W1 H1 f W' H' → W1.Le W' → Sat K W' H' fp' xf' → (∀ a ∈ fp', a ∈ fp ∨ H1 a = none) → ∀ (i : Nat) (u : V) (x : Rs), vs[i]? = some u → (ts.map (Rs.kid r))[i]? = some x → ResOk K H' fp' W' H' u x := by
  have lf : ∀ {d : D}, Rep K W1 v d → (OT.leaf d).kids = some ts → ∃ (p : Addr) (vs : List V) (ds : List D), v = .ref p ∧ ts = ds.map .leaf ∧ RepAll K W1 vs ds ∧
      (((∃ xs, SqL K H1 p xs) ∧ ∀ W' H' fp' xf', W1.Le W' → Sat K W' H' fp' xf' → SqL K H' p vs) ∨ ((∃ xs, SqT K H1 p xs) ∧ ∀ W' H' fp' xf', W1.Le W' → Sat K W' H' fp' xf' → SqT K H' p vs)) := by
    intro d q h
    cases q with
    | lst g r => cases h; exact ⟨_, _, _, rfl, rfl, r, .inl ⟨⟨_, .of (S1.sub _ _ g)⟩, fun W' H' fp' xf' l S => .of (S.sub _ _ (l.g _ _ g))⟩⟩
    | tup g r => cases h; exact ⟨_, _, _, rfl, rfl, r, .inr ⟨⟨_, .of (S1.sub _ _ g)⟩, fun W' H' fp' xf' l S => .of (S.sub _ _ (l.g _ _ g))⟩⟩
    | rol g r => cases h; exact ⟨_, _, _, rfl, rfl, r, .inl ⟨⟨_, SqL.mono S1.sub g⟩, fun W' H' fp' xf' l S => SqL.mono S.sub (SqL.mono l.g g)⟩⟩
    | non => cases h
    | bl _ => cases h
    | int _ => cases h
    | str _ => cases h
    | ins _ _ => cases h
    | vol _ => cases h
    | dct _ _ => cases h
    | any _ => cases h
    | adr _ => cases h
    | cod _ => cases h
    | obj _ _ => cases h
  have key : ∀ {vs : List V} {ds : List D} {i : Nat} {u : V} {d : D}, RepAll K W1 vs ds → vs[i]? = some u → ds[i]? = some d → Rep K W1 u d := by
    intro vs ds i
    induction i generalizing vs ds with
    | zero => intro u d h e1 e2; cases h with | nil => simp at e1 | cons a b => simp at e1 e2; subst e1 e2; exact a
    | succ i ih => intro u d h e1 e2; cases h with | nil => simp at e1 | cons a b => exact ih b (by simpa using e1) (by simpa using e2)
  have fzk : ∀ {r : Rs} {ds : List D} {vs : List V}, RepAll K W1 vs ds → ∀ W' H' fp', W1.Le W' → ∀ (i : Nat) (u : V) (x : Rs), vs[i]? = some u → ((ds.map OT.leaf).map (Rs.kid r))[i]? = some x → ResOk K H' fp' W' H' u x := by
    intro r ds vs rr W' H' fp' l i u x eu ex
    rw [List.getElem?_map, List.getElem?_map] at ex
    cases q : ds[i]? with
    | none => rw [q] at ex; cases ex
    | some d =>
      rw [q] at ex
      have ex : some (r.kid (.leaf d)) = some x := ex
      cases ex
      have w := (key rr eu q).mono l
      cases r <;> exact w
  -- cells that stay
  have own : ∀ {t : OT} {g : List Addr}, Own K W1 H1 v t g → t.kids = some ts → (∀ a ∈ g, W1.S a = none) → ∃ (p : Addr) (vs : List V), v = .ref p ∧ vs.length = ts.length ∧
      (((∃ xs, SqL K H1 p xs) ∧ ∀ f, (∀ a ∈ g, a ∉ f) → ∀ W' H' fp' xf', Stp W1 H1 f W' H' → W1.Le W' → Sat K W' H' fp' xf' → SqL K H' p vs) ∨ ((∃ xs, SqT K H1 p xs) ∧ ∀ f, (∀ a ∈ g, a ∉ f) → ∀ W' H' fp' xf', Stp W1 H1 f W' H' → W1.Le W' → Sat K W' H' fp' xf' → SqT K H' p vs)) ∧
      ∀ f, (∀ a ∈ g, a ∉ f) → ∀ W' H', Stp W1 H1 f W' H' → W1.Le W' → ∀ (i : Nat) (u : V), vs[i]? = some u → ∃ (t : OT) (h : List Addr), ts[i]? = some t ∧ Own K W' H' u t h ∧ ∀ a ∈ h, a ∈ g := by
    intro t g o h z
    have go : ∀ {p : Addr} {vs : List V} {g' : List Addr}, OwnAll K W1 H1 vs ts g' → (∀ a ∈ g', a ∈ g) → ∀ f, (∀ a ∈ g, a ∉ f) → ∀ W' H', Stp W1 H1 f W' H' → W1.Le W' → ∀ (i : Nat) (u : V), vs[i]? = some u → ∃ (t : OT) (h : List Addr), ts[i]? = some t ∧ Own K W' H' u t h ∧ ∀ a ∈ h, a ∈ g := by
      intro p vs g' w sub f n W' H' st l i u eu
      have hi : i < ts.length := by
        rw [← w.len]
        exact (List.getElem?_eq_some_iff.mp eu).1
      obtain ⟨u', h, e1, o1, s1⟩ := w.get (List.getElem?_eq_getElem hi)
      rw [eu] at e1
      cases e1
      exact ⟨_, h, List.getElem?_eq_getElem hi, o1.mono l fun a m o e => st.kp a o e (n a (sub a (s1 a m))) (z a (sub a (s1 a m))), fun a m => sub a (s1 a m)⟩
    cases o with
    | leaf q =>
      obtain ⟨p, vs, ds, e1, e2, rr, zz⟩ := lf q h
      refine ⟨p, vs, e1, by rw [rr.len, e2, List.length_map], ?_, ?_⟩
      · rcases zz with ⟨y, w⟩ | ⟨y, w⟩
        · exact .inl ⟨y, fun _ _ W' H' fp' xf' _ l S => w W' H' fp' xf' l S⟩
        · exact .inr ⟨y, fun _ _ W' H' fp' xf' _ l S => w W' H' fp' xf' l S⟩
      · subst e2
        exact go (p := p) (OwnAll.leafs (vs := []) rr) fun _ m => by cases m
    | lst g1 w =>
      cases h
      exact ⟨_, _, rfl, w.len, .inl ⟨⟨_, .of g1⟩, fun f n W' H' fp' xf' st l S => .of (st.kp _ _ g1 (n _ List.mem_cons_self) (z _ List.mem_cons_self))⟩, go (p := 0) w fun _ m => List.mem_cons_of_mem _ m⟩
    | tup g1 w =>
      cases h
      exact ⟨_, _, rfl, w.len, .inr ⟨⟨_, .of g1⟩, fun f n W' H' fp' xf' st l S => .of (st.kp _ _ g1 (n _ List.mem_cons_self) (z _ List.mem_cons_self))⟩, go (p := 0) w fun _ m => List.mem_cons_of_mem _ m⟩
    | ins _ _ => cases h
    | d0 _ => cases h
    | xo _ => cases h
    | dk _ _ => cases h
  cases r with
  | fz d =>
    obtain ⟨p, vs, ds, rfl, rfl, rr, z⟩ := lf o ek
    refine ⟨p, vs, rfl, by rw [rr.len, List.length_map], ?_, fun f _ _ W' H' fp' xf' t l S y i u x eu ex => fzk (r := .fz d) rr W' H' fp' l i u x eu ex⟩
    rcases z with ⟨y, w⟩ | ⟨y, w⟩
    · exact .inl ⟨y, fun _ _ _ W' H' fp' xf' _ l S => w W' H' fp' xf' l S⟩
    · exact .inr ⟨y, fun _ _ _ W' H' fp' xf' _ l S => w W' H' fp' xf' l S⟩
  | nw t =>
    obtain ⟨g, ow, nd, z⟩ := o
    obtain ⟨p, vs, rfl, hl, zz, w⟩ := own ow ek fun a m => (z a m).2.2
    refine ⟨p, vs, rfl, hl, ?_, fun f hf _ W' H' fp' xf' t l S y i u x eu ex => ?_⟩
    · rcases zz with ⟨y, w⟩ | ⟨y, w⟩
      · exact .inl ⟨y, fun f hf _ W' H' fp' xf' t l S => w f (fun a _ m => by rw [hf.resolve_left Bool.false_ne_true] at m; cases m) W' H' fp' xf' t l S⟩
      · exact .inr ⟨y, fun f hf _ W' H' fp' xf' t l S => w f (fun a _ m => by rw [hf.resolve_left Bool.false_ne_true] at m; cases m) W' H' fp' xf' t l S⟩
    · have hf := hf.resolve_left Bool.false_ne_true
      subst hf
      obtain ⟨c, h, e1, o1, s1⟩ := w [] (fun a _ m => by cases m) W' H' t l i u eu
      rw [List.getElem?_map, e1] at ex
      cases ex
      have zz : ∀ a ∈ h, W'.S a = none := fun a m => (t.kpS (ow.alloc a (s1 a m))).2.trans (z a (s1 a m)).2.2
      cases c with
      | leaf d => cases o1 with | leaf q => exact q
      | lst _ => exact ⟨h, o1, zz⟩
      | tup _ => exact ⟨h, o1, zz⟩
      | ins _ _ _ => exact ⟨h, o1, zz⟩
      | d0 => exact ⟨h, o1, zz⟩
      | xo => exact ⟨h, o1, zz⟩
      | dk _ _ => exact ⟨h, o1, zz⟩
  | br t =>
    obtain ⟨g, ow, z⟩ := o
    obtain ⟨p, vs, rfl, hl, zz, w⟩ := own ow ek z
    refine ⟨p, vs, rfl, hl, ?_, fun f hf _ W' H' fp' xf' t l S y i u x eu ex => ?_⟩
    · rcases zz with ⟨y, w⟩ | ⟨y, w⟩
      · exact .inl ⟨y, fun f hf _ W' H' fp' xf' t l S => w f (fun a _ m => by rw [hf.resolve_left Bool.false_ne_true] at m; cases m) W' H' fp' xf' t l S⟩
      · exact .inr ⟨y, fun f hf _ W' H' fp' xf' t l S => w f (fun a _ m => by rw [hf.resolve_left Bool.false_ne_true] at m; cases m) W' H' fp' xf' t l S⟩
    · have hf := hf.resolve_left Bool.false_ne_true
      subst hf
      obtain ⟨c, h, e1, o1, s1⟩ := w [] (fun a _ m => by cases m) W' H' t l i u eu
      rw [List.getElem?_map, e1] at ex
      cases ex
      have zz : ∀ a ∈ h, W'.S a = none := fun a m => (t.kpS (ow.alloc a (s1 a m))).2.trans (z a (s1 a m))
      cases c with
      | leaf d => cases o1 with | leaf q => exact q
      | lst _ => exact ⟨h, o1, zz⟩
      | tup _ => exact ⟨h, o1, zz⟩
      | ins _ _ _ => exact ⟨h, o1, zz⟩
      | d0 => exact ⟨h, o1, zz⟩
      | xo => exact ⟨h, o1, zz⟩
      | dk _ _ => exact ⟨h, o1, zz⟩
  | ex t =>
    obtain ⟨g, ow, z⟩ := o
    obtain ⟨p, vs, rfl, hl, zz, w⟩ := own ow ek fun a m => (z a m).1
    refine ⟨p, vs, rfl, hl, ?_, fun f _ hf W' H' fp' xf' t l S y i u x eu ex => ?_⟩
    · rcases zz with ⟨y, w⟩ | ⟨y, w⟩
      · exact .inl ⟨y, fun f _ hf W' H' fp' xf' t l S => w f (fun a m m2 => (z a m).2 (hf a m2)) W' H' fp' xf' t l S⟩
      · exact .inr ⟨y, fun f _ hf W' H' fp' xf' t l S => w f (fun a m m2 => (z a m).2 (hf a m2)) W' H' fp' xf' t l S⟩
    · obtain ⟨c, h, e1, o1, s1⟩ := w f (fun a m m2 => (z a m).2 (hf a m2)) W' H' t l i u eu
      rw [List.getElem?_map, e1] at ex
      cases ex
      have zz : ∀ a ∈ h, W'.S a = none ∧ a ∉ fp' := fun a m => by
        have ma := s1 a m
        refine ⟨(t.wx a (ow.alloc a ma) fun m2 => (z a ma).2 (hf a m2)).2.trans (z a ma).1, fun q => ?_⟩
        rcases y a q with q | q
        · exact (z a ma).2 q
        · exact ow.alloc a ma q
      cases c with
      | leaf d => cases o1 with | leaf q => exact q
      | lst _ => exact ⟨h, o1, zz⟩
      | tup _ => exact ⟨h, o1, zz⟩
      | ins _ _ _ => exact ⟨h, o1, zz⟩
      | d0 => exact ⟨h, o1, zz⟩
      | xo => exact ⟨h, o1, zz⟩
      | dk _ _ => exact ⟨h, o1, zz⟩
end
def iSeq (K : PySem.W.Frag) (tl : TE) : TI := fun σ H R => tl σ H fun x H1 => ∃ a, x = .ref a ∧ (((∃ xs, SqL K H1 a xs) ∧ R (Itl K a) H1) ∨ ((∃ xs, SqT K H1 a xs) ∧ R (Itt K a) H1))
section
variable {X : Cx} {tg a b c : Expr} {ma mb mc : DE} {pos : Pos} {ta tb : DT} {st : Stmt} {rest s1 s2 : List Stmt} {m m1 m2 : DS} {pr : List Nat} {g : DG} {gs : List DG} {es : List Expr} {mi : DI} {mr : DA}
theorem pi_seq {l : Expr} {tl : TE} (hl : PE X l tl) : PI X tg l (iSeq X.K tl) := by
  refine ⟨fun pins s σ H R I h => ?_⟩
  refine thn (hl.run pins s σ H _ I h) fun v s1 ⟨x, H1, I1, r1, q1⟩ => ?_
  obtain ⟨a, e, q⟩ := q1
  subst e
  cases r1
  rcases q with ⟨⟨xs, hq⟩, q⟩ | ⟨⟨xs, hq⟩, q⟩
  · obtain ⟨its, rv, p, hz⟩ := I1.list hq
    refine wpAny_pyIter_list p.isList ?_
    refine ⟨s1.heap.objs.size, [s1.heap.objs.size], _, _, H1, rfl, I1.kept (t' := s1.toks) fun b o e => Heap.get?_push_of_some _ e, turn_list a _, ⟨_, Heap.get?_push_size _ rfl, rfl, rfl⟩, fun b hb => ?_, q⟩
    have e : b = s1.heap.objs.size := by simpa using hb
    subst e
    exact I1.fpOk (Nat.le_refl _) (I1.hok.fresh (Nat.le_refl _))
  · obtain ⟨its, rv, p, hz⟩ := I1.tuple hq
    refine wpAny_pyIter_tuple (show s1.heap.IsTuple a its.toArray from p) ?_
    refine ⟨s1.heap.objs.size, [s1.heap.objs.size], _, _, H1, rfl, I1.kept (t' := s1.toks) fun b o e => Heap.get?_push_of_some _ e, turn_tuple a _, ⟨_, Heap.get?_push_size _ rfl, rfl, rfl⟩, fun b hb => ?_, q⟩
    have e : b = s1.heap.objs.size := by simpa using hb
    subst e
    exact I1.fpOk (Nat.le_refl _) (I1.hok.fresh (Nat.le_refl _))
theorem pi_imp {t t' : TI} (h : PI X tg a t) (k : ∀ σ H Q, t' σ H Q → t σ H Q) : PI X tg a t' := ⟨fun pins s σ H Q I w => h.run pins s σ H Q I (k σ H Q w)⟩
theorem di_list (ha : PE X a (LP X.K ma)) : PI X tg a (LI X.K (mItL ma)) := pi_imp (pi_seq ha) fun σ H R h => by
  obtain ⟨W, env, fp, xf, Q0, E, S, hm, k⟩ := h
  refine LP.next E S hm fun r ⟨ts, ek, hq⟩ v W1' H1 t1' S1' E1' o' => ?_
  obtain ⟨W1, t1, S1, _, o⟩ := ffz_ok S t1' S1' o'
  obtain ⟨p, vs, rfl, hl, zz, w⟩ := items_stay o ek S1
  have lx : (ts.map (Rs.kid r.ffz)).length = ts.length := List.length_map _
  refine ⟨p, rfl, ?_⟩
  rcases zz with ⟨e, z⟩ | ⟨e, z⟩
  · refine .inl ⟨e, k _ _ hq _ W1 H1 t1 S1 fun f hf hs W' H' fp' xf' t l S' y => ⟨fun i hi => ⟨vs, z f hf hs W' H' fp' xf' t l S', by omega⟩, fun i hi => ?_, fun i x H'' c hy hx => ?_⟩⟩
    · have hi2 : i < vs.length := by omega
      exact ⟨vs, vs[i], z f hf hs W' H' fp' xf' t l S', List.getElem?_eq_getElem hi2⟩
    · obtain ⟨rfl, hv⟩ := hy
      exact ⟨.refl, S', w f hf hs W' H'' fp' xf' t l S' y i x c (hv vs (z f hf hs W' H'' fp' xf' t l S')) hx⟩
  · refine .inr ⟨e, k _ _ hq _ W1 H1 t1 S1 fun f hf hs W' H' fp' xf' t l S' y => ⟨fun i hi => ⟨vs, z f hf hs W' H' fp' xf' t l S', by omega⟩, fun i hi => ?_, fun i x H'' c hy hx => ?_⟩⟩
    · have hi2 : i < vs.length := by omega
      exact ⟨vs, vs[i], z f hf hs W' H' fp' xf' t l S', List.getElem?_eq_getElem hi2⟩
    · obtain ⟨rfl, hv⟩ := hy
      exact ⟨.refl, S', w f hf hs W' H'' fp' xf' t l S' y i x c (hv vs (z f hf hs W' H'' fp' xf' t l S')) hx⟩
theorem rng_len (lo : Int) (n : Nat) : (rng lo n).length = n := by unfold rng; rw [List.length_map, List.length_range]
theorem rng_get {lo : Int} {n i : Nat} {r : Rs} (h : (rng lo n)[i]? = some r) : r = .fz (.int (lo + (i : Int))) := by
  unfold rng at h
  rw [List.getElem?_map] at h
  cases q : (List.range n)[i]? with
  | none => rw [q] at h; cases h
  | some j =>
    rw [q] at h
    have hj : j = i := by
      obtain ⟨hi, e⟩ := List.getElem?_eq_some_iff.mp q
      rw [List.getElem_range] at e
      exact e.symm
    subst hj
    cases h
    rfl
theorem rng_ok {K : PySem.W.Frag} {W : Wd} {H : Hp} {f fp : List Addr} {lo : Int} {n : Nat} : ItOk K (Itr lo n) (rng lo n) W H f fp := fun W' H' fp' xf' t l S y => ⟨fun i hi => by rw [rng_len] at hi; exact hi, fun i hi => by rw [rng_len] at hi; exact hi, fun i x H'' r hy hx => by
  obtain ⟨rfl, rfl⟩ := hy
  rw [rng_get hx]
  exact ⟨.refl, S, Rep.int _⟩⟩
theorem di_rng1 {p : Pos} (hm : X.mg "range" = none) (ha : PE X a (LP X.K ma)) (hg : Gl X "range" := by rfl) (hs : starEach [a] X.env = [(false, eval a X.env)] := by rfl) : PI X tg (.Call (.Name "range" p) [a] [] pos) (LI X.K (mItR1 ma)) :=
  pi_imp (pi_range1 hg hm (pa_cons ha pa_nil hs) hs) fun σ H R h => by
  obtain ⟨W, env, fp, xf, Q0, E, S, hm, k⟩ := h
  refine LP.next E S hm fun r hr v W1 H1 t1 S1 E1 o => ?_
  split at hr
  · obtain ⟨h1, h2, q⟩ := hr
    refine ⟨_, congrArg (fun z => [z]) (int_of o), h1, h2, ?_⟩
    exact k _ _ q _ W1 H1 t1 S1 fun f _ _ => rng_ok
  · exact hr.elim
theorem ds_for (hp : PassesOwn (model X.prog X.w) X.A X.env X.xe) (hc : X.calm = true) (hi : PI X tg a (LI X.K mi)) (hg : PG X tg (LG X.K (· ∈ pr) g)) (hb : PSs X s1 (LS X.K ex pr m)) (hs : ∀ x, foldedSetIterable a X.env x = pure x := by intro _; rfl) :
    PS X (.For tg a s1 [] pos) (LS X.K ex pr (mFor mi g m)) := ps_imp (ps_for hp hc hi hg hb hs) fun D σ H h => by
  obtain ⟨W, env, fp, xf, K0, E, S, hm, nx, bk, ct, rt⟩ := h
  refine ⟨W, env, fp, xf, _, E, S, hm, fun st xs ⟨hst, Pv, p0, turn, done⟩ J W1 H1 t1 S1 it => ?_⟩
  have IO := it fp (.inl hst) fun _ m => m
  refine ⟨fun i n σ' H' => i + n = xs.length ∧ ∃ e W' fp' xf', Pv i e ∧ Post X.K W H fp pr σ σ' W' H' e fp' xf' ∧ Stp W1 H1 fp W' H' ∧ ∀ a ∈ fp', a ∈ fp ∨ H1 a = none, ⟨xs.length, by omega, env, W1, fp, xf, p0, .pure t1 (E.keep S t1) S1, .refl, fun _ m => .inl m⟩, fun i n σ' H' ⟨hl, e, W', fp', xf', pi, P, t2, y⟩ => ?_⟩
  have l2 := t2.le S1 fun a m => .inl m
  obtain ⟨i1, i2, i3⟩ := IO W' H' fp' xf' t2 l2 P.S y
  cases n with
  | zero =>
    refine .inl ⟨i1 i (by omega), ?_⟩
    have ei : i = xs.length := by omega
    subst ei
    exact nx e (done e pi) σ' W' H' fp' xf' P
  | succ n =>
    have hi : i < xs.length := by omega
    refine .inr ⟨i2 i hi, fun σ2 H2 => ∃ e W' fp' xf', Pv (i + 1) e ∧ Post X.K W H fp pr σ σ2 W' H2 e fp' xf' ∧ Stp W1 H1 fp W' H2 ∧ ∀ a ∈ fp', a ∈ fp ∨ H1 a = none, fun σ2 H2 h => ⟨n, Nat.lt_succ_self n, by omega, h⟩, fun x H2 hy => ?_⟩
    obtain ⟨t3, S3, o3⟩ := i3 i x H2 _ hy (List.getElem?_eq_getElem hi)
    have E3 := P.E.keep P.S t3
    have comb : ∀ {σ3 W3 H3 e3 fp3 xf3}, Post X.K W' H' fp' pr σ' σ3 W3 H3 e3 fp3 xf3 → Stp W1 H1 fp W3 H3 ∧ ∀ a ∈ fp3, a ∈ fp ∨ H1 a = none := fun P3 => ⟨t2.trans P3.t y, fun a m => (P3.nf a m).elim (y a) fun z => .inr (by
      cases q : H1 a with
      | none => rfl
      | some o => exact absurd z (t2.al a (some_ne q)))⟩
    refine LG.of P.S t3 E3 S3 o3 (turn i _ e (List.getElem?_eq_getElem hi) pi) fun e4 q4 σ4 fp4 xf4 P4 => ?_
    have P5 := P.trans P4
    have again : ∀ e5, Pv (i + 1) e5 → ∀ σ5 W5 H5 fp5 xf5, Post X.K W H2 fp4 pr σ4 σ5 W5 H5 e5 fp5 xf5 → True := fun _ _ _ _ _ _ _ _ => trivial
    refine ⟨W', e4, fp4, xf4, _, P4.E, P4.S, q4, fun e5 q5 σ5 W5 H5 fp5 xf5 P6 => ?_, fun e5 q5 σ5 W5 H5 fp5 xf5 P6 => nx e5 q5 σ5 W5 H5 fp5 xf5 (P5.trans P6), fun e5 q5 σ5 W5 H5 fp5 xf5 P6 => ?_, rt.after P5⟩
    · have c := comb (P4.trans P6)
      exact ⟨e5, W5, fp5, xf5, q5, P5.trans P6, c.1, c.2⟩
    · have c := comb (P4.trans P6)
      exact ⟨e5, W5, fp5, xf5, q5, P5.trans P6, c.1, c.2⟩
end
end R
namespace R
open PySem PySem.Spec PyProof.Rows L2
section
variable {K : PySem.W.Frag} {W W1 W2 W' : Wd} {H H1 H2 H' : Hp} {f f1 fp fp1 fp2 xf xf1 xf2 : List Addr} {σ σ1 σ2 : L2.St} {Q : VK} {r : Rs} {v : V} {env env1 env2 : Env}
theorem Sat.lend (S : Sat K W H fp xf) : Sat K W H [] (fp ++ xf) := ⟨S.sub, S.vol, List.nodup_nil, fun _ m => (by cases m), fun a m => ⟨by simp, (List.mem_append.mp m).elim (fun q => ⟨(S.off a q).2.1, (S.off a q).2.2⟩) fun q => (S.xof a q).2⟩⟩
theorem Sat.less0 {xf' : List Addr} (S : Sat K W H fp xf) (h : ∀ a ∈ xf', a ∈ xf) : Sat K W H fp xf' := ⟨S.sub, S.vol, S.nd, S.off, fun a m => S.xof a (h a m)⟩
theorem Sat.back {xf' : List Addr} (S : Sat K W H fp xf) (t : Stp W H [] W' H') (S' : Sat K W' H' [] xf') : Sat K W' H' fp xf :=
  ⟨S'.sub, S'.vol, S.nd, fun a m => by
    obtain ⟨o1, o2, o3⟩ := S.off a m
    obtain ⟨e1, e2⟩ := t.kpS o3
    exact ⟨e1.trans o1, e2.trans o2, t.al a o3⟩, fun a m => by
    obtain ⟨o1, o2, o3⟩ := S.xof a m
    exact ⟨o1, (t.kpS o3).2.trans o2, t.al a o3⟩⟩
theorem EnvOk.lent (E : EnvOk K W H σ env fp xf) : ∃ xf', EnvOk K W H σ (Env.lent env) [] xf' ∧ ∀ a ∈ xf', a ∈ fp ∨ a ∈ xf := by
  induction E with
  | nil => exact ⟨[], .nil, fun _ m => by cases m⟩
  | no _ ih => obtain ⟨x, e, z⟩ := ih; exact ⟨x, .no e, z⟩
  | fz q _ ih => obtain ⟨x, e, z⟩ := ih; exact ⟨x, .fz q e, z⟩
  | nw q _ ih => obtain ⟨x, e, z⟩ := ih; exact ⟨_, .ex q e, fun a m => (List.mem_append.mp m).elim (fun m => .inl (List.mem_append_left _ m)) fun m => (z a m).imp (List.mem_append_right _) id⟩
  | ex q _ ih => obtain ⟨x, e, z⟩ := ih; exact ⟨_, .ex q e, fun a m => (List.mem_append.mp m).elim (fun m => .inr (List.mem_append_left _ m)) fun m => (z a m).imp id (List.mem_append_right _)⟩
theorem EnvOk.wipe (E : EnvOk K W H σ env [] xf) : ∀ ws : List Nat, ∃ xf', EnvOk K W H (L2.wipe σ ws) (Env.wipe env ws) [] xf' ∧ ∀ a ∈ xf', a ∈ xf
  | [] => ⟨xf, E, fun _ m => m⟩
  | w :: ws => by
    obtain ⟨x, e, z⟩ := EnvOk.wipe E ws
    obtain ⟨f, fp', xf', e2, p, z2, _⟩ := e.clear w none
    have h : f ++ fp' = [] := List.nil_perm.mp p |> fun q => q
    obtain ⟨_, rfl⟩ := List.append_eq_nil_iff.mp h
    exact ⟨xf', e2, fun a m => z a (z2 a m)⟩
theorem wipe_at (σ : L2.St) : ∀ (ws : List Nat) (i : Nat), (L2.wipe σ ws)[i]? = if i ∈ ws ∧ i < σ.length then some none else σ[i]?
  | [], i => by rw [if_neg (by simp)] <;> rfl
  | w :: ws, i => by
    show ((L2.wipe σ ws).set w none)[i]? = _
    by_cases e : w = i
    · subst e
      by_cases hl : w < σ.length
      · rw [List.getElem?_set_self (by rw [L2.wipe_length]; exact hl), if_pos ⟨List.mem_cons_self, hl⟩]
      · rw [List.getElem?_eq_none (by rw [List.length_set, L2.wipe_length]; omega), if_neg (fun z => hl z.2), List.getElem?_eq_none (by omega)]
    · rw [List.getElem?_set_ne e, wipe_at σ ws i]
      have q : (i ∈ w :: ws ∧ i < σ.length) ↔ (i ∈ ws ∧ i < σ.length) := by
        constructor
        · rintro ⟨a, b⟩
          exact ⟨(List.mem_cons.mp a).resolve_left fun z => e z.symm, b⟩
        · rintro ⟨a, b⟩
          exact ⟨List.mem_cons_of_mem _ a, b⟩
      by_cases h : i ∈ ws ∧ i < σ.length
      · rw [if_pos h, if_pos (q.mpr h)]
      · rw [if_neg h, if_neg fun z => h (q.mp z)]
theorem wipe_same {σ2 : L2.St} {ws : List Nat} (hl : σ2.length = σ.length) (h : ∀ i, i ∉ ws → σ2[i]? = (L2.wipe σ ws)[i]?) : L2.wipe σ2 ws = L2.wipe σ ws := by
  apply List.ext_getElem?
  intro i
  rw [wipe_at, wipe_at, hl]
  by_cases hi : i ∈ ws ∧ i < σ.length
  · rw [if_pos hi, if_pos hi]
  · rw [if_neg hi, if_neg hi]
    by_cases m : i ∈ ws
    · have : ¬ i < σ.length := fun z => hi ⟨m, z⟩
      rw [List.getElem?_eq_none (by omega), List.getElem?_eq_none (by omega)]
    · rw [h i m, wipe_at, if_neg fun z => m z.1]
theorem ResOk.lent (h : ResOk K H fp W1 H1 v r) : ∃ f, ResAll K H [] W1 H1 [v] [r.arg] f ∧ f = [] := by
  cases r with
  | fz d => exact ⟨[], .fz h .nil, rfl⟩
  | nw t => obtain ⟨f, o, _, z⟩ := h; exact ⟨[], .ex o (fun a m => ⟨(z a m).2.2, by simp⟩) .nil, rfl⟩
  | br t => obtain ⟨f, o, z⟩ := h; exact ⟨[], .ex o (fun a m => ⟨z a m, by simp⟩) .nil, rfl⟩
  | ex t => obtain ⟨f, o, z⟩ := h; exact ⟨[], .ex o (fun a m => ⟨(z a m).1, by simp⟩) .nil, rfl⟩
theorem OwnAll.snoc {t : OT} : ∀ {vs : List V} {ts : List OT} {g : List Addr}, OwnAll K W H vs ts g → Own K W H v t f → OwnAll K W H (vs ++ [v]) (ts ++ [t]) (g ++ f)
  | _, _, _, .nil, o => by
    have z := OwnAll.cons o .nil
    rw [List.append_nil] at z
    exact z
  | _, _, _, .cons a b, o => by
    rw [List.append_assoc]
    exact .cons a (OwnAll.snoc b o)
structure LcOk (K : PySem.W.Frag) (W : Wd) (H : Hp) (fp xf : List Addr) (D : Addr) (acc : List OT) (W' : Wd) (H' : Hp) : Prop where
  t : Stp W H [] W' H'
  S : Sat K W' H' fp xf
  own : ∃ vs g, H' D = some (.lst vs) ∧ OwnAll K W' H' vs acc g ∧ (D :: g).Nodup ∧ ∀ a ∈ D :: g, H a = none ∧ W'.G a = none ∧ W'.S a = none
theorem LcOk.keep {D : Addr} {acc : List OT} (L : LcOk K W H fp xf D acc W1 H1) (t : Stp W1 H1 [] W2 H2) (S : Sat K W2 H2 fp xf) : LcOk K W H fp xf D acc W2 H2 := by
  obtain ⟨vs, g, hD, ow, nd, z⟩ := L.own
  have l := t.le L.S fun _ m => by cases m
  have al : ∀ a ∈ D :: g, H1 a ≠ none := fun a m => (List.mem_cons.mp m).elim (fun e => by rw [e, hD]; exact fun z => nomatch z) (ow.alloc a)
  refine ⟨L.t.tr0 t, S, vs, g, t.kp D _ hD (by simp) (z D List.mem_cons_self).2.2, ow.mono l fun a m o e => t.kp a o e (by simp) (z a (List.mem_cons_of_mem _ m)).2.2, nd, fun a m => ?_⟩
  obtain ⟨e1, e2⟩ := t.kpS (al a m)
  exact ⟨(z a m).1, e1.trans (z a m).2.1, e2.trans (z a m).2.2⟩
theorem Sat.wr {p : Addr} {o : HO} (S : Sat K W H fp xf) (g : W.G p = none) (s : W.S p = none) : Sat K W (upd H p o) fp xf := by
  have n : ∀ a, H a ≠ none → upd H p o a ≠ none := fun a z => by
    by_cases e : a = p
    · rw [e, upd_same]; exact fun z => nomatch z
    · rw [upd_ne e]; exact z
  refine ⟨fun a u e => ?_, ⟨fun a k ps e => ?_, fun p q e => let ⟨x, cs, y⟩ := S.vol.tb p q e; ⟨x, cs, (upd_ne (fun z => by rw [z, s] at x; cases x)).trans y⟩⟩, S.nd, fun a m => ⟨(S.off a m).1, (S.off a m).2.1, n a (S.off a m).2.2⟩, fun a m => ⟨(S.xof a m).1, (S.xof a m).2.1, n a (S.xof a m).2.2⟩⟩
  · have q : a ≠ p := fun z => by rw [z, g] at e; cases e
    rw [upd_ne q]; exact S.sub a u e
  · obtain ⟨x, u, y, w⟩ := S.vol a k ps e
    have q : a ≠ p := fun z => by rw [z, s] at e; cases e
    exact ⟨x, u, by rw [upd_ne q]; exact y, w⟩
theorem LcOk.snoc {D : Addr} {acc : List OT} {t : OT} (L : LcOk K W H fp xf D acc W1 H1) (h : r.item = some t) (t1 : Stp W1 H1 [] W2 H2) (S2 : Sat K W2 H2 fp xf) (o : ResOk K H1 fp1 W2 H2 v r) : ∃ vs, H2 D = some (.lst vs) ∧ vs.length = acc.length ∧ LcOk K W H fp xf D (acc ++ [t]) W2 (upd H2 D (.lst (vs ++ [v]))) := by
  obtain ⟨vs, g, hD, ow, nd, z⟩ := L.own
  have l := t1.le L.S fun _ m => by cases m
  have al : ∀ a ∈ D :: g, H1 a ≠ none := fun a m => (List.mem_cons.mp m).elim (fun e => by rw [e, hD]; exact fun z => nomatch z) (ow.alloc a)
  have hD2 := t1.kp D _ hD (by simp) (z D List.mem_cons_self).2.2
  have ow2 := ow.mono l fun a m o e => t1.kp a o e (by simp) (z a (List.mem_cons_of_mem _ m)).2.2
  have z2 : ∀ a ∈ D :: g, H a = none ∧ W2.G a = none ∧ W2.S a = none := fun a m => by
    obtain ⟨e1, e2⟩ := t1.kpS (al a m)
    exact ⟨(z a m).1, e1.trans (z a m).2.1, e2.trans (z a m).2.2⟩
  have L2o : ∃ f, Own K W2 H2 v t f ∧ f.Nodup ∧ ∀ a ∈ f, H1 a = none ∧ W2.G a = none ∧ W2.S a = none := by
    cases r with
    | fz d => cases h; exact ⟨[], .leaf o, List.nodup_nil, fun _ m => by cases m⟩
    | nw x => cases h; exact o
    | br x => cases h
    | ex x => cases h
  obtain ⟨f, of, ndf, zf⟩ := L2o
  obtain ⟨nD, ng⟩ := List.nodup_cons.mp nd
  have dj : ∀ a ∈ D :: g, a ∉ f := fun a m m2 => al a m (zf a m2).1
  have up : ∀ a o, a ≠ D → H2 a = some o → upd H2 D (.lst (vs ++ [v])) a = some o := fun a o n e => (upd_ne n).trans e
  have zD := z2 D List.mem_cons_self
  have fH : ∀ a ∈ f, H a = none := fun a m => by
    cases q : H a with
    | none => rfl
    | some o => exact absurd (zf a m).1 (L.t.al a (some_ne q))
  refine ⟨vs, hD2, ow.len, ⟨?_, ?_, ?_⟩, S2.wr zD.2.1 zD.2.2, vs ++ [v], g ++ f, upd_same, ?_, ?_, fun a m => ?_⟩
  · exact (L.t.tr0 t1).wx
  · intro a o e m s
    refine up a o (fun q => by rw [q, zD.1] at e; cases e) ((L.t.tr0 t1).kp a o e m s)
  · intro a n
    by_cases q : a = D
    · rw [q, upd_same]; exact fun z => nomatch z
    · rw [upd_ne q]; exact (L.t.tr0 t1).al a n
  · refine OwnAll.snoc (ow2.mono (.refl _) fun a m o e => up a o (fun q => nD (by rw [← q]; exact m)) e) (of.mono (.refl _) fun a m o e => up a o (fun q => dj D List.mem_cons_self (by rw [← q]; exact m)) e)
  · rw [← List.cons_append]
    exact List.nodup_append.mpr ⟨nd, ndf, fun a m b m2 e => by subst e; exact dj a m m2⟩
  · rw [← List.cons_append] at m
    rcases List.mem_append.mp m with m | m
    · exact z2 a m
    · exact ⟨fH a m, (zf a m).2⟩
theorem lc_all {mi : DI} {g : DG} {t : DT} {e : DE} {ws : List Nat} (h : LP K (mLc mi g t e ws) σ H Q) : tLc (LI K mi) (LG K (fun i => i ∉ ws) g) (LT K t) (LP K e) ws σ H Q := by
  obtain ⟨W, env, fp, xf, Q0, E, S, hm, k⟩ := h
  refine ⟨W, env, fp, xf, _, E, S, hm, fun st xs ⟨Pv, p0, turn, done⟩ J W1 H1 t1 S1 it D nD => ?_⟩
  have IO := it [] (.inr rfl) fun _ m => by cases m
  have hD0 : H D = none := by
    cases q : H D with
    | none => rfl
    | some o => exact absurd nD (t1.al D (some_ne q))
  have L0 : LcOk K W H fp xf D [] W1 (upd H1 D (.lst [])) := ⟨t1.tr0 (.new nD), S1.new nD, [], [], upd_same, .nil, List.nodup_cons.mpr ⟨by simp, List.nodup_nil⟩, fun a m => by
    rw [List.mem_singleton.mp m]
    exact ⟨hD0, (S1.free nD).1, (S1.free nD).2⟩⟩
  refine ⟨fun i n H' => i + n = xs.length ∧ ∃ acc W', Pv i acc ∧ LcOk K W H fp xf D acc W' H' ∧ Stp W1 H1 [] W' H', ⟨xs.length, by omega, [], W1, p0, L0, .new nD⟩, fun i n H' ⟨hl, acc, W', pi, L, t2⟩ => ?_⟩
  have l2 := t2.le S1 fun _ m => by cases m
  obtain ⟨i1, i2, i3⟩ := IO W' H' fp xf t2 l2 L.S fun _ m => .inl m
  cases n with
  | zero =>
    have ei : i = xs.length := by omega
    subst ei
    refine .inl ⟨i1 _ (Nat.le_refl _), ?_⟩
    obtain ⟨vs, gg, hD, ow, nd, z⟩ := L.own
    exact k _ (done acc pi) _ W' H' L.t L.S ⟨D :: gg, .lst hD ow, nd, z⟩
  | succ n =>
    have hi : i < xs.length := by omega
    refine .inr ⟨i2 i hi, fun H2 => ∃ acc W', Pv (i + 1) acc ∧ LcOk K W H fp xf D acc W' H2 ∧ Stp W1 H1 [] W' H2, fun H2 ⟨acc, W', a, b, c⟩ => ⟨n, Nat.lt_succ_self n, by omega, acc, W', a, b, c⟩, fun x H2 hy => ?_⟩
    obtain ⟨t3, S3, o3⟩ := i3 i x H2 _ hy (List.getElem?_eq_getElem hi)
    have L3 := L.keep t3 S3
    have E3 : EnvOk K W' H2 σ env fp xf := (E.keep S L.t).keep L.S t3
    obtain ⟨hsz, hg⟩ := turn i _ acc (List.getElem?_eq_getElem hi) pi
    obtain ⟨xf1, E4, y4⟩ := E3.lent
    obtain ⟨xf2, E5, y5⟩ := E4.wipe ws
    obtain ⟨f0, oA, rfl⟩ := o3.lent
    have S5 : Sat K W' H2 [] xf2 := S3.lend.less0 fun a m => List.mem_append.mpr (y4 a (y5 a m))
    refine ⟨W', _, [], xf2, [], [], _, _, E5, S5, oA.refp fun _ m => m, hg, fun e1 ⟨hlen, ht⟩ σ6 fp6 xf6 E6 S6 y6 z6 => ?_⟩
    have hfp6 : fp6 = [] := by
      cases fp6 with
      | nil => rfl
      | cons a l => exact ((y6 a List.mem_cons_self).elim (fun m => by cases m) fun m => by cases m)
    subst hfp6
    refine ⟨wipe_same (by rw [E6.len, hlen, E3.len]) fun i hi => z6 i hi, W', e1, [], xf6, _, E6, S6, ht, fun b hb W7 H7 t7 S7 => ?_⟩
    have t37 := t2.tr0 (t3.tr0 t7)
    have Sb : Sat K W7 H7 fp xf := S3.back t7 S7
    have L7 := L3.keep t7 Sb
    cases b with
    | false => exact iteF ⟨acc, W7, hb, L7, t37⟩
    | true =>
      refine iteT ⟨W7, e1, [], xf6, _, E6.keep S6 t7, S7, hb, fun y ⟨ty, ey, py⟩ vy W8 H8 t8 S8 o8 => ?_⟩
      have Sb8 : Sat K W8 H8 fp xf := Sb.back t8 S8
      obtain ⟨vs, hD8, hl8, L9⟩ := L7.snoc ey t8 Sb8 o8
      refine ⟨vs, hD8, by rw [← sizeL_eq, hl8]; exact hsz, acc ++ [ty], W8, py, L9, ?_⟩
      have t18 := t37.tr0 t8
      refine ⟨t18.wx, fun a o e m s => ?_, fun a n => ?_⟩
      · rw [upd_ne fun q => by rw [q, nD] at e; cases e]
        exact t18.kp a o e m s
      · by_cases q : a = D
        · rw [q, upd_same]; exact fun z => nomatch z
        · rw [upd_ne q]; exact t18.al a n
end
section
variable {X : Cx} {tg a b c : Expr} {ma mb mc : DE} {pos : Pos} {ta tb : DT} {st : Stmt} {rest s1 s2 : List Stmt} {m m1 m2 : DS} {pr : List Nat} {g : DG} {gs : List DG} {es : List Expr} {mi : DI} {mr : DA} {elt iter : Expr} {ifs : List Expr} {scope : Scope} {own : List (Str × Nat)}
theorem dts_nil : PTs X [] (LT X.K mYes) := ⟨fun pins s σ H Q I h => by
  obtain ⟨W, env, fp, xf, Q0, E, S, hm, k⟩ := h
  exact pts_nil.run pins s σ H Q I (k true hm W H .refl S)⟩
theorem dp_lc (hc : X.calm = true) (hN : X.N.Nodup) (hi : PI X tg iter (LI X.K mi)) (ok : BlkOk X.N X.env.scope scope own)
    (hg : ∀ (s : Shared) (H : Hp) (C : Addr) (cl : List (Str × Addr)) (fp : List Addr), PG (X.blk s H scope (compEnvC scope cl C X.env) fp) tg (LG X.K (fun i => i ∉ own.map (·.2)) g)) (ht : ∀ (s : Shared) (H : Hp) (C : Addr) (cl : List (Str × Addr)) (fp : List Addr), PTs (X.blk s H scope (compEnvC scope cl C X.env) fp) ifs (LT X.K ta))
    (he : ∀ (s : Shared) (H : Hp) (C : Addr) (cl : List (Str × Addr)) (fp : List Addr), PE (X.blk s H scope (compEnvC scope cl C X.env) fp) elt (LP X.K ma)) (hs : ∀ x, foldedSetIterable iter X.env x = pure x := by intro _; rfl) :
    PE X (.ListComp elt [⟨tg, iter, ifs, 0⟩] scope pos) (LP X.K (mLc mi g ta ma (own.map (·.2)))) := pe_imp (pe_lc hc hN hi ok hg ht he hs) fun σ H Q h => lc_all h
end
end R
namespace R
open PySem PySem.Spec PyProof.Rows L2
structure Room (k : Nat) (A : Around) : Prop extends L2.Room k A where
  gd : A.guards = some []
theorem Room.mono {j k : Nat} {A : Around} (r : Room k A) (h : j ≤ k) : Room j A := ⟨r.toRoom.mono h, r.gd⟩
theorem Room.deeper {k : Nat} {A : Around} (r : Room (k + 1) A) (env : PySem.Env) : Room k (A.deeper env) := ⟨r.toRoom.deeper env, r.gd⟩
theorem Room.make {k : Nat} {A : Around} (r : Room (k + 1) A) (C : Addr) (us : List Value) (kw : List (Str × Value)) : Room k (A.under (.builtin "type.__call__" ⟨.ref C :: us, kw⟩)) := ⟨r.toRoom.make C us kw, by
  have h := r.gd
  first | exact h | simpa [Around.under, Code.guards, Code.isGuard, pushGuards, guardIds] using h⟩
structure FnOk (P : Program) (w : World) (K : PySem.W.Frag) (mg : Str → Option Value) (base : Heap) (CX : CXT) (k : Nat) (f : Addr) (fd : FuncData) (ps : List Str) (sp : Sp) : Prop where
  len : ∀ vs H Q E, sp vs H Q E → vs.length = ps.length
  run : ∀ (A : Around) (outer : List PySem.Env) (s : Shared) (H : Hp) (args : Args) (us : List Value) (vs : List V) (Q : VK) (E : XK), Room k A → Env0 P w K mg base A outer s H → BindsTo s fd args (ps.zip us) → Vals vs us → sp vs H Q E →
    codeAny (model P w) A (.call (.ref f) args) (CR CX outer P w H s Q E) s
section
variable {X : Cx} {CX : CXT} {k n : Nat} {f C : Addr} {fd : FuncData} {ps ks : List Str} {sp : Sp} {dvs : List V} {ds : List Value} {E : XK} {x m : Str} {p pos apos : Pos} {e o : Expr} {es : List Expr} {kws : List Keyword} {ta : TE} {t tk : TA} {pins : List (Addr × Obj)} {σ : L2.St} {H : Hp} {s : Shared} {Q : VK} {us ws : List Value} {vs zs : List V} {g : List Value → List Value → List Value} {gV : List V → List V → List V}
theorem seen (hx : Passes CX X E) (I : Inv X pins σ H s) {r : Result} {s' : Shared} (h : CR CX X.stack X.prog X.w H s Q E r s') : match (generalizing := false) r with | .ok (.ret v) => EP X pins σ Q v s' | .ok _ => False | .error e => X.xe e s' := by
  match r, h with
  | .error e, h => exact hx pins σ H s e s' I h
  | .ok (.ret u), h => exact I.after h
  | .ok .next, h => exact h
  | .ok .brk, h => exact h
  | .ok .cont, h => exact h
theorem run_fn (F : FnOk X.prog X.w X.K X.mg X.base CX k f fd ps sp) (hr : Room k X.A) (hb : Binds X.K fd ps ds) (hd : Vals dvs ds) (hx : Passes CX X E) (I : Inv X pins σ H s) (r : Vals vs us) (h : sp (vs ++ dvs) H Q E) : wpAny (model X.prog X.w) X.A (call (.ref f) us) (EP X pins σ Q) X.xe s :=
  have r2 := r.append hd
  wpAny_call (codeAny_mono (F.run X.A X.stack s H ⟨us, []⟩ _ _ Q E hr I.env0 (hb s us I.kIn (r2.length.symm.trans (F.len _ _ _ _ h))) r2 h) fun _ _ q => seen hx I q)
theorem pe_call (F : FnOk X.prog X.w X.K X.mg X.base CX k f fd ps sp) (hr : Room k X.A) (hg : Gl X x) (hm : X.mg x = some (.ref f)) (hk : PySem.W.keepIn X.K (.ref f) = true) (hb : Binds X.K fd ps ds) (hd : Vals dvs ds) (hx : Passes CX X E)
    (ha : PA X (e :: es) t) (hdb : (x == ("__debug__" : Str)) = false := by decide) (he : starEach (e :: es) X.env = (false, eval e X.env) :: starEach es X.env := by rfl) (hpl : (backTo pos (starEach es X.env)).any (·.1) = false := by rfl) :
    PE X (.Call (.Name x p) (e :: es) [] pos) (tCall sp dvs E t) :=
  ⟨fun pins s σ _ _ I h => wpAny_Call_Name_kw (ld_glob I hg hm (PySem.W.callWith_K (h₀ := X.base) I.ok.mod.kin hk (thn (ha.run pos pins s σ _ _ I h) fun _ _ ⟨_, _, I1, r, q⟩ => ⟨I1.kIn, run_fn F hr hb hd hx I1 r q⟩) he hpl) hdb)⟩
end
section
variable {P : Program} {w : World} {K : PySem.W.Frag} {mg : Str → Option Value} {base : Heap} {x qual : Str} {params : Arguments} {body : List Stmt} {scope : Scope} {dvs : List V} {kws : List (Str × V)} {f : Addr} {fd : FuncData}
def CodeAt (K : PySem.W.Frag) (f : Addr) (cdv : Value) (q : Str) : Prop := ∃ (oc : Value) (od : Option Addr) (osl : Array (Option Value)) (fd : FuncData), K.lookup f = some ⟨oc, od, .func fd, osl⟩ ∧ fd.code = cdv ∧ PySem.W.codeIn K cdv q = true
theorem def_okL {CX : CXT} {N ps : List Str} {k : Nat} {sp : Sp} (F : FunD K x qual params body scope dvs kws f fd) (S : FnScope N ps scope) (len : ∀ vs H Q E, sp vs H Q E → vs.length = ps.length)
    (hbody : ∀ (cdv : Value), CodeAt K f cdv qual → ∀ (A : Around) (outer : List PySem.Env) (s : Shared) (H : Hp) (vs : List V) (Q : VK) (E : XK), Room k (A.deeper (envOfC qual scope s.heap.objs.size f cdv)) → sp vs H Q E →
      ∃ t, PSs (cxOf CX P w K mg base N qual scope f cdv A outer s H E) body t ∧ t { nx := fun _ H' => Q .non H', rt := Q } (L2.start N vs) H) : FnOk P w K mg base CX (k + 1) f fd ps sp := by
  obtain ⟨oc, od, dV, kV, doc, pm, an, cdv, ct, osl, rfl, lk, hcd, _, _⟩ := F.ex
  refine ⟨len, fun A outer s H args us vs Q E hr e0 hb r hsp => ?_⟩
  have KX : K.In s.heap := e0.mod.kin.keeps fun b o e => (e0.bs b o e).1
  refine codeAny_call_function hr.depth (KX _ _ lk) rfl S.co S.gen rfl (PySem.W.codeRec_of KX hcd) (hb _ _ _ _ (wpAny_newFunctionEnv_cells S.kind (fun ⟨n, v⟩ hy => (S.par n (List.of_mem_zip hy).1).imp id fun q => ⟨q, PySem.W.cellsFrom_some _ _ _ (.inl q)⟩) fun env he s1 z => ?_))
  subst he
  refine ⟨(e0.mod.nolimit.keeps fun b o e => (e0.bs b o e).1).keeps z.toInCall.keep, codeAny_func ?_⟩
  obtain ⟨t, ht, hq⟩ := hbody cdv ⟨oc, od, osl, _, lk, rfl, hcd⟩ A outer s H vs Q E (hr.deeper _) hsp
  refine wpAny_mono (ht.run [] s1 (L2.start N vs) H _ (inv_start S hr.hd e0 (len _ _ _ _ hsp) r z) hq) (fun fl s' hs => ?_) fun e s' hs => hs
  match fl, hs with
  | .ret u, ⟨v, _, H', J, rv, q⟩ => exact ⟨v, H', J.os, J.bare, J.base, J.hok, rv, q⟩
  | .next, ⟨_, H', J, q⟩ => exact ⟨.non, H', J.os, J.bare, J.base, J.hok, rfl, q⟩
  | .brk, ⟨_, _, _, q⟩ => exact (show False from q).elim
  | .cont, ⟨_, _, _, q⟩ => exact (show False from q).elim
end
end R
namespace R
open PySem PySem.Spec PyProof.Rows L2
def spR (K : PySem.W.Frag) (n : Nat) (F : Spec) : Sp := fun vs H Q _ => vs.length = n ∧ ∃ (W : Wd) (ss : Env) (fp xf : List Addr) (Q0 : Rs → Env → Prop), EnvOk K W H (vs.map some) ss fp xf ∧ Sat K W H fp xf ∧ F ss Q0 ∧
  ∀ r ss', Q0 r ss' → ∀ v W' H' fp' xf', Stp W H fp W' H' → EnvOk K W' H' (vs.map some) ss' fp' xf' → Sat K W' H' fp' xf' → (∀ a ∈ fp', a ∈ fp ∨ H a = none) → RetOk K H fp fp' W' H' v r → Q v H'
section
variable {K : PySem.W.Frag} {W W1 W2 W' : Wd} {H H1 H2 H' : Hp} {f f1 fp fp1 fp2 xf xf1 xf2 : List Addr} {σ σ1 σ2 : L2.St} {Q : VK} {r : Rs} {v : V} {env env1 env2 : Env}
theorem EnvOk.pick {σ : L2.St} {env : Env} {fp xf : List Addr} (E : EnvOk K W H σ env fp xf) : ∀ (us : L2.St) (es : Env), us.length = es.length → (∀ (i : Nat) (s : Rs), es[i]? = some (some s) → env[i]? = some (some s) ∧ us[i]? = σ[i]?) → ∃ fp' xf', EnvOk K W H us es fp' xf' ∧ fp'.Sublist fp ∧ ∀ a ∈ xf', a ∈ xf := by
  induction E with
  | nil =>
    intro us es hl h
    have key : ∀ (us : L2.St) (es : Env), us.length = es.length → (∀ (i : Nat) (s : Rs), es[i]? = some (some s) → False) → EnvOk K W H us es [] [] := by
      intro us
      induction us with
      | nil => intro es hl _; cases es with | nil => exact .nil | cons _ _ => simp at hl
      | cons u us ih =>
        intro es hl h
        cases es with
        | nil => simp at hl
        | cons e es =>
          cases e with
          | none => exact .no (ih es (by simpa using hl) fun i s q => h (i + 1) s (by simpa using q))
          | some s => exact (h 0 s rfl).elim
    exact ⟨[], [], key us es hl fun i s q => by have := (h i s q).1; simp at this, .refl _, fun _ m => m⟩
  | no E ih =>
    intro us es hl h
    cases es with
    | nil => cases us with | nil => exact ⟨[], [], .nil, List.nil_sublist _, fun _ m => by cases m⟩ | cons _ _ => simp at hl
    | cons e es =>
      cases us with
      | nil => simp at hl
      | cons u us =>
        obtain ⟨fp', xf', a, b, c⟩ := ih us es (by simpa using hl) fun i s q => by have := h (i + 1) s (by simpa using q); simpa using this
        cases e with
        | none => exact ⟨fp', xf', .no a, b, c⟩
        | some s => have := (h 0 s rfl).1; simp at this
  | fz q E ih =>
    intro us es hl h
    cases es with
    | nil => cases us with | nil => exact ⟨[], [], .nil, List.nil_sublist _, fun _ m => by cases m⟩ | cons _ _ => simp at hl
    | cons e es =>
      cases us with
      | nil => simp at hl
      | cons u us =>
        obtain ⟨fp', xf', a, b, c⟩ := ih us es (by simpa using hl) fun i s q => by have := h (i + 1) s (by simpa using q); simpa using this
        cases e with
        | none => exact ⟨fp', xf', .no a, b, c⟩
        | some s =>
          obtain ⟨e1, e2⟩ := h 0 s rfl
          simp at e1 e2
          subst e1 e2
          exact ⟨fp', xf', .fz q a, b, c⟩
  | nw q E ih =>
    intro us es hl h
    cases es with
    | nil => cases us with | nil => exact ⟨[], [], .nil, List.nil_sublist _, fun _ m => by cases m⟩ | cons _ _ => simp at hl
    | cons e es =>
      cases us with
      | nil => simp at hl
      | cons u us =>
        obtain ⟨fp', xf', a, b, c⟩ := ih us es (by simpa using hl) fun i s q => by have := h (i + 1) s (by simpa using q); simpa using this
        cases e with
        | none => exact ⟨fp', xf', .no a, b.trans (List.sublist_append_right _ _), c⟩
        | some s =>
          obtain ⟨e1, e2⟩ := h 0 s rfl
          simp at e1 e2
          subst e1 e2
          exact ⟨_, xf', .nw q a, List.Sublist.append_left b _, c⟩
  | ex q E ih =>
    intro us es hl h
    cases es with
    | nil => cases us with | nil => exact ⟨[], [], .nil, List.nil_sublist _, fun _ m => by cases m⟩ | cons _ _ => simp at hl
    | cons e es =>
      cases us with
      | nil => simp at hl
      | cons u us =>
        obtain ⟨fp', xf', a, b, c⟩ := ih us es (by simpa using hl) fun i s q => by have := h (i + 1) s (by simpa using q); simpa using this
        cases e with
        | none => exact ⟨fp', xf', .no a, b, fun z m => List.mem_append_right _ (c z m)⟩
        | some s =>
          obtain ⟨e1, e2⟩ := h 0 s rfl
          simp at e1 e2
          subst e1 e2
          exact ⟨fp', _, .ex q a, b, fun z m => (List.mem_append.mp m).elim (List.mem_append_left _) fun m => List.mem_append_right _ (c z m)⟩
theorem Sat.sublist {fp' xf' : List Addr} (S : Sat K W H fp xf) (h : fp'.Sublist fp) (x : ∀ a ∈ xf', a ∈ xf) : Sat K W H fp' xf' :=
  ⟨S.sub, S.vol, S.nd.sublist h, fun a m => S.off a (h.subset m), fun a m => ⟨fun q => (S.xof a (x a m)).1 (h.subset q), (S.xof a (x a m)).2⟩⟩
theorem EnvOk.app {σ2 : L2.St} {env2 : Env} {fp2 xf2 : List Addr} (b : EnvOk K W H σ2 env2 fp2 xf2) {σ : L2.St} {env : Env} {fp xf : List Addr} (a : EnvOk K W H σ env fp xf) : ∃ xf', EnvOk K W H (σ ++ σ2) (env ++ env2) (fp ++ fp2) xf' ∧ ∀ a ∈ xf', a ∈ xf ∨ a ∈ xf2 := by
  induction a with
  | nil => exact ⟨_, b, fun _ m => .inr m⟩
  | no _ ih => obtain ⟨x, e, z⟩ := ih; exact ⟨x, .no e, z⟩
  | fz q _ ih => obtain ⟨x, e, z⟩ := ih; exact ⟨x, .fz q e, z⟩
  | nw q _ ih =>
    obtain ⟨x, e, z⟩ := ih
    refine ⟨x, ?_, z⟩
    have w := EnvOk.nw q e
    rw [← List.append_assoc] at w
    exact w
  | ex q _ ih => obtain ⟨x, e, z⟩ := ih; exact ⟨_, .ex q e, fun a m => (List.mem_append.mp m).elim (fun m => .inl (List.mem_append_left _ m)) fun m => (z a m).imp (List.mem_append_right _) id⟩
theorem EnvOk.nones : ∀ (n : Nat), EnvOk K W H (List.replicate n none) (List.replicate n none) [] []
  | 0 => .nil
  | n + 1 => .no (EnvOk.nones n)
theorem ResAll.lend {vs : List V} {rs : List Rs} {g : List Addr} (os : ResAll K H fp W1 H1 vs rs g) (F : ∀ a ∈ g, W1.S a = none) : ∃ xf', EnvOk K W1 H1 (vs.map some) (rs.map fun r => some r.arg) [] xf' ∧ ∀ a ∈ xf', W1.S a = none ∧ H1 a ≠ none := by
  induction os with
  | nil => exact ⟨[], .nil, fun _ m => by cases m⟩
  | fz q _ ih => obtain ⟨x, e, z⟩ := ih F; exact ⟨x, .fz q e, z⟩
  | nw q _ ih =>
    obtain ⟨x, e, z⟩ := ih fun a m => F a (List.mem_append_right _ m)
    exact ⟨_, .ex q e, fun a m => (List.mem_append.mp m).elim (fun m => ⟨F a (List.mem_append_left _ m), q.alloc a m⟩) (z a)⟩
  | br q y _ ih => obtain ⟨x, e, z⟩ := ih F; exact ⟨_, .ex q e, fun a m => (List.mem_append.mp m).elim (fun m => ⟨y a m, q.alloc a m⟩) (z a)⟩
  | ex q y _ ih => obtain ⟨x, e, z⟩ := ih F; exact ⟨_, .ex q e, fun a m => (List.mem_append.mp m).elim (fun m => ⟨(y a m).1, q.alloc a m⟩) (z a)⟩
theorem Sat.only {xf' : List Addr} (S : Sat K W H fp xf) (h : ∀ a ∈ xf', W.S a = none ∧ H a ≠ none) : Sat K W H [] xf' := ⟨S.sub, S.vol, List.nodup_nil, fun _ m => (by cases m), fun a m => ⟨by simp, h a m⟩⟩
theorem EnvOk.consts : ∀ {vs : List V} {ds : List D}, RepAll K W vs ds → EnvOk K W H (vs.map some) (ds.map fun d => some (.fz d)) [] []
  | _, _, .nil => .nil
  | _, _, .cons a b => .fz a (EnvOk.consts b)
theorem map_none {α : Type} (ss : Env) : (ss.map fun _ => (none : Option α)) = List.replicate ss.length none := by
  induction ss with
  | nil => rfl
  | cons s ss ih => rw [List.map_cons, ih, List.length_cons, List.replicate_succ]
theorem call1 {F : Spec1} {vs dvs : List V} {rs : List Rs} {dv : List D} {n : Nat} {E : XK} {Q0 : Rs → Prop} {g : List Addr} (hn : (vs ++ dvs).length = n) (O : Ops K H Q Q0 W2 H2 W fp xf) (os : ResAll K H fp W2 H2 vs rs g) (G : Fresh H W2 g) (hd : ∀ W, RepAll K W dvs dv)
    (h : F (rs.map (fun r => some r.arg) ++ dv.map fun d => some (.fz d)) fun r => r.own ∧ Q0 r) : spR K n F.io (vs ++ dvs) H2 Q E := by
  obtain ⟨xf1, E1, z1⟩ := os.lend fun a m => (G.2 a m).2.2
  obtain ⟨xf2, E2, z2⟩ := (EnvOk.consts (hd W2)).app E1
  have S2 : Sat K W2 H2 [] xf2 := O.S2.only fun a m => (z2 a m).elim (z1 a) fun m => by cases m
  rw [← List.map_append] at E2
  refine ⟨hn, W2, _, [], xf2, fun r _ => r.own ∧ Q0 r, E2, S2, h, fun r ss' ⟨ho, q⟩ v W' H' fp' xf' t E' S' nf o => ?_⟩
  have Sb := O.S2.back t (S'.sublist (List.nil_sublist _) fun _ m => m)
  refine O.k r q v W' H' (O.t.tr0 t) Sb ?_
  cases r with
  | fz d => exact o
  | nw x =>
    obtain ⟨f, ow, nd, z⟩ := o
    refine ⟨f, ow, nd, fun a m => ⟨?_, (z a m).2.2⟩⟩
    rcases (z a m).1 with q | q
    · cases q2 : H a with
      | none => rfl
      | some o => exact absurd q (O.t.al a (some_ne q2))
    · cases q
  | br x => exact ho.elim
  | ex x => exact ho.elim
end
section
variable {X : Cx} {CX : CXT} {k n : Nat} {f C : Addr} {fd : FuncData} {ps : List Str} {F1 : Spec1} {F0 : Spec} {dvs : List V} {dv : List D} {ds : List Value} {E : XK} {x m : Str} {p pos apos : Pos} {e o : Expr} {es : List Expr} {mo : DE} {ma : DA}
theorem args_eq {rs : List Rs} {dv : List D} : args rs dv = (rs.map Rs.ffz).map (fun r => some r.arg) ++ dv.map fun d => some (.fz d) := by
  unfold args
  rw [List.map_map] <;> rfl
theorem args_len {rs : List Rs} {dv : List D} {vs : List V} {dvs : List V} (h : vs.length = rs.length) (hd : dvs.length = dv.length) : (args rs dv).length = (vs ++ dvs).length := by
  unfold args
  rw [List.length_append, List.length_append, List.length_map, List.length_map, h, hd]
theorem dp_call (F : FnOk X.prog X.w X.K X.mg X.base CX k f fd ps (spR X.K n F1.io)) (hr : Room k X.A) (hm : X.mg x = some (.ref f)) (hk : PySem.W.keepIn X.K (.ref f) = true) (hb : Binds X.K fd ps ds) (hv : Vals dvs ds) (hd : ∀ W, RepAll X.K W dvs dv) (hx : Passes CX X E) (ha : PA X (e :: es) (LA X.K ma))
    (hg : Gl X x := by rfl) (hst : starEach (e :: es) X.env = (false, eval e X.env) :: starEach es X.env := by rfl) (hpl : (backTo pos (starEach es X.env)).any (·.1) = false := by rfl) (hdb : (x == ("__debug__" : Str)) = false := by decide) :
    PE X (.Call (.Name x p) (e :: es) [] pos) (LP X.K (mCall n F1 ma dv)) := pe_imp (pe_call F hr hg hm hk hb hv hx ha hdb hst hpl) fun σ H Q h => by
  obtain ⟨W, env, fp, xf, Q0, En, S, hm, k⟩ := h
  refine LA.next En S hm fun rs ⟨hn, hr⟩ vs W1 H1 g t1 S1 E1 os G => ?_
  obtain ⟨W4, g', t4, S4, _, _, o4, G4, _, _⟩ := os.ffz (.refl _) rfl S t1 S1 G.1 G.2
  rw [args_eq] at hr
  exact call1 ((args_len os.len (hd W1).len).symm.trans hn) ⟨S, t4, S4, k⟩ o4 G4 hd hr
end
section
variable {P : Program} {w : World} {K : PySem.W.Frag} {mg : Str → Option Value} {base : Heap}
theorem start_env {K : PySem.W.Frag} {W : Wd} {H : Hp} {vs : List V} {ss : Env} {fp xf : List Addr} {N : List Str} {n : Nat} (E : EnvOk K W H (vs.map some) ss fp xf) (h : vs.length = n) : ∃ xf', EnvOk K W H (L2.start N vs) (ss ++ List.replicate (N.length - n) none) fp xf' ∧ ∀ a ∈ xf', a ∈ xf := by
  obtain ⟨xf', e, z⟩ := (EnvOk.nones (K := K) (W := W) (H := H) (N.length - n)).app E
  rw [List.append_nil] at e
  refine ⟨xf', ?_, fun a m => (z a m).elim id fun m => by cases m⟩
  unfold L2.start
  rw [h]
  exact e
theorem fn_RL {x qual : Str} {params : Arguments} {bodyS : List Stmt} {scope : Scope} {dfl : List V} {kws : List (Str × V)} {f : Addr} {fd : FuncData} {N ps : List Str} {k n : Nat} {F0 : Spec} {pr : List Nat} {m : DS} (F : FunD K x qual params bodyS scope dfl kws f fd) (S : FnScope N ps scope) (hn : ps.length = n)
    (body : ∀ (cdv : Value), CodeAt K f cdv qual → ∀ (A : Around) (outer : List PySem.Env) (s : Shared) (H : Hp) (E : XK), Room k (A.deeper (envOfC qual scope s.heap.objs.size f cdv)) → PSs (cxOf CX0 P w K mg base N qual scope f cdv A outer s H E).nox bodyS (LS K exT pr m))
    (wp : ∀ ss Q0, ss.length = n → F0 ss Q0 → m (ss ++ List.replicate (N.length - n) none) { nx := fun e => Q0 (.fz .non) (outs pr n e), rt := fun r e => Q0 r (outs pr n e) }) : FnOk P w K mg base CX0 (k + 1) f fd ps (spR K n F0) := by
  refine def_okL F S (fun vs H Q E h => by rw [hn]; exact h.1) (fun cdv hc A outer s H vs Q E hr h => ⟨LS K exT pr m, (body cdv hc A outer s H E hr).nox, ?_⟩)
  obtain ⟨hl, W, ss, fp, xf, Q0, E0, S0, hF, kk⟩ := h
  have hss : ss.length = n := by
    have e := E0.len
    rw [List.length_map] at e
    omega
  obtain ⟨xf1, E1, z1⟩ := start_env (N := N) E0 hl
  have pick : ∀ {σ' : L2.St} {e : Env} {W' : Wd} {H' : Hp} {fp' xf' : List Addr}, Post K W H fp pr (L2.start N vs) σ' W' H' e fp' xf' → ∃ fp2 xf2, EnvOk K W' H' (vs.map some) (outs pr n e) fp2 xf2 ∧ fp2.Sublist fp' ∧ ∀ a ∈ xf2, a ∈ xf' := by
    intro σ' e W' H' fp' xf' Pt
    refine Pt.E.pick _ _ ?_ fun i s hs => ?_
    · unfold outs
      rw [List.length_map, List.length_map, List.length_range, hl]
    · unfold outs at hs
      rw [List.getElem?_map] at hs
      cases q : (List.range n)[i]? with
      | none => rw [q] at hs; cases hs
      | some j =>
        obtain ⟨hi, ej⟩ := List.getElem?_eq_some_iff.mp q
        rw [List.getElem_range] at ej
        subst ej
        rw [List.length_range] at hi
        rw [q] at hs
        have hs : some (if i ∈ pr then (e[i]?).join else none) = some (some s) := hs
        by_cases hp : i ∈ pr
        · rw [if_pos hp] at hs
          have e2 : (e[i]?).join = some s := Option.some.inj hs
          have e3 : e[i]? = some (some s) := by
            cases q2 : e[i]? with
            | none => rw [q2] at e2; cases e2
            | some y => rw [q2] at e2; exact congrArg some e2
          refine ⟨e3, ?_⟩
          have h4 := Pt.pr i hp
          have h5 : (L2.start N vs)[i]? = (vs.map some)[i]? := by
            unfold L2.start
            rw [List.getElem?_append_left (by rw [List.length_map]; omega)]
          rw [h4, h5]
        · rw [if_neg hp] at hs
          cases hs
  have fin : ∀ r e, Q0 r (outs pr n e) → ∀ v σ' W' H' fp' xf', Post K W H fp pr (L2.start N vs) σ' W' H' e fp' xf' → RetOk K H fp fp' W' H' v r → Q v H' := fun r e q v σ' W' H' fp' xf' Pt o => by
    obtain ⟨fp2, xf2, E2, sl, z2⟩ := pick Pt
    refine kk r _ q v W' H' fp2 xf2 Pt.t E2 (Pt.S.sublist sl z2) (fun a m => Pt.nf a (sl.subset m)) ?_
    cases r with
    | fz d => exact o
    | nw t =>
      obtain ⟨f, ow, nd, z⟩ := o
      exact ⟨f, ow, nd, fun a m => ⟨(z a m).1, fun q => (z a m).2.1 (sl.subset q), (z a m).2.2⟩⟩
    | br t => exact o
    | ex t => exact o
  refine ⟨W, _, fp, xf1, _, E1, S0.less0 z1, wp ss Q0 hss hF, fun e q σ' W' H' fp' xf' Pt => fin _ e q .non σ' W' H' fp' xf' Pt Rep.non, fun _ q => q.elim, fun _ q => q.elim, ⟨fin, fun _ _ _ _ _ _ _ _ _ => trivial⟩⟩
theorem fn_R {x qual : Str} {params : Arguments} {bodyS : List Stmt} {scope : Scope} {dfl : List V} {kws : List (Str × V)} {f : Addr} {fd : FuncData} {N ps : List Str} {k n : Nat} {F0 : Spec} {pr : List Nat} {m : DS} (F : FunD K x qual params bodyS scope dfl kws f fd) (S : FnScope N ps scope) (hn : ps.length = n)
    (body : ∀ (cdv : Value) (A : Around) (outer : List PySem.Env) (s : Shared) (H : Hp) (E : XK), Room k (A.deeper (envOfC qual scope s.heap.objs.size f cdv)) → PSs (cxOf CX0 P w K mg base N qual scope f cdv A outer s H E).nox bodyS (LS K exT pr m))
    (wp : ∀ ss Q0, ss.length = n → F0 ss Q0 → m (ss ++ List.replicate (N.length - n) none) { nx := fun e => Q0 (.fz .non) (outs pr n e), rt := fun r e => Q0 r (outs pr n e) }) : FnOk P w K mg base CX0 (k + 1) f fd ps (spR K n F0) := fn_RL F S hn (fun cdv _ => body cdv) wp
end
end R
namespace R
open PySem PySem.Spec PyProof.Rows L2
section
variable {K : PySem.W.Frag} {W W1 W2 W' : Wd} {H H1 H2 H' : Hp} {f f1 fp fp1 fp2 xf xf1 xf2 : List Addr} {σ σ1 σ2 : L2.St} {Q : VK} {r : Rs} {v : V} {env env1 env2 : Env}
theorem OwnAll.split : ∀ {vs : List V} {ts : List OT} {f : List Addr} {j : Nat} {c : OT}, OwnAll K W H vs ts f → ts[j]? = some c → ∃ u fc rest, vs[j]? = some u ∧ Own K W H u c fc ∧ f.Perm (fc ++ rest) ∧
    ∀ (W' : Wd) (H' : Hp) (u' : V) (c' : OT) (fc' : List Addr), W.Le W' → (∀ a ∈ rest, ∀ o, H a = some o → H' a = some o) → Own K W' H' u' c' fc' → ∃ f', OwnAll K W' H' (vs.set j u') (ts.set j c') f' ∧ f'.Perm (fc' ++ rest)
  | _, _, _, _, _, .nil, h => by simp at h
  | _, _, _, 0, _, .cons (f := f) (g := g) o r, h => by
    simp at h
    subst h
    refine ⟨_, f, g, rfl, o, .refl _, fun W' H' u' c' fc' l k o' => ⟨fc' ++ g, .cons o' (r.mono l k), .refl _⟩⟩
  | _, _, _, j + 1, _, .cons (f := f) (g := g) o r, h => by
    obtain ⟨u, fc, rest, e, o2, p, k⟩ := OwnAll.split (j := j) r (by simpa using h)
    have pc : ∀ (x : List Addr), (f ++ (x ++ rest)).Perm (x ++ (f ++ rest)) := fun x => by
      rw [← List.append_assoc, ← List.append_assoc]
      exact List.perm_append_comm.append_right _
    refine ⟨u, fc, f ++ rest, by simpa using e, o2, (p.append_left f).trans (pc fc), fun W' H' u' c' fc' l q o' => ?_⟩
    obtain ⟨f', a, b⟩ := k W' H' u' c' fc' l (fun a m => q a (List.mem_append_right _ m)) o'
    exact ⟨f ++ f', .cons (o.mono l fun a m => q a (List.mem_append_left _ m)) a, (b.append_left f).trans (pc fc')⟩
inductive AtP (K : PySem.W.Frag) (W : Wd) (H : Hp) : V → OT → List Nat → V → OT → Prop where
  | nil {v : V} {t : OT} : AtP K W H v t [] v t
  | lst {p : Addr} {vs : List V} {ts : List OT} {j : Nat} {js : List Nat} {u v' : V} {c s : OT} : H p = some (.lst vs) → vs[j]? = some u → ts[j]? = some c → AtP K W H u c js v' s → AtP K W H (.ref p) (.lst ts) (j :: js) v' s
  | tup {p : Addr} {vs : List V} {ts : List OT} {j : Nat} {js : List Nat} {u v' : V} {c s : OT} : H p = some (.tup vs) → vs[j]? = some u → ts[j]? = some c → AtP K W H u c js v' s → AtP K W H (.ref p) (.tup ts) (j :: js) v' s
  | ins {p C dx : Addr} {fs : List (Str × V)} {ks : List Str} {ts : List OT} {j : Nat} {js : List Nat} {u v' : V} {c s : OT} : H p = some (.ins C dx fs) → (fs.map (·.2))[j]? = some u → ts[j]? = some c → AtP K W H u c js v' s → AtP K W H (.ref p) (.ins C ks ts) (j :: js) v' s
  | dk {p : Addr} {kvs : List (L2.Key × V)} {ks : List L2.Key} {ts : List OT} {j : Nat} {js : List Nat} {u v' : V} {c s : OT} : H p = some (.dK kvs) → (kvs.map (·.2))[j]? = some u → ts[j]? = some c → AtP K W H u c js v' s → AtP K W H (.ref p) (.dk ks ts) (j :: js) v' s
theorem AtP.at {v v' : V} {t s : OT} {js : List Nat} (h : AtP K W H v t js v' s) : t.at? js = some s := by
  induction h with
  | nil => rfl
  | lst _ _ e _ ih => show (_ : Option OT).bind _ = _; rw [OT.kid?, e]; exact ih
  | tup _ _ e _ ih => show (_ : Option OT).bind _ = _; rw [OT.kid?, e]; exact ih
  | ins _ _ e _ ih => show (_ : Option OT).bind _ = _; rw [OT.kid?, e]; exact ih
  | dk _ _ e _ ih => show (_ : Option OT).bind _ = _; rw [OT.kid?, e]; exact ih
theorem AtP.snoc {v v' u : V} {t s c : OT} {js : List Nat} {j : Nat} (h : AtP K W H v t js v' s) (k : AtP K W H v' s [j] u c) : AtP K W H v t (js ++ [j]) u c := by
  induction h with
  | nil => exact k
  | lst a b e _ ih => exact .lst a b e (ih k)
  | tup a b e _ ih => exact .tup a b e (ih k)
  | ins a b e _ ih => exact .ins a b e (ih k)
  | dk a b e _ ih => exact .dk a b e (ih k)
theorem EnvOk.slot {σ : L2.St} {env : Env} {fp xf : List Addr} (E : EnvOk K W H σ env fp xf) : ∀ {i : Nat} {t : OT} {v : V}, env[i]? = some (some (.nw t)) → σ[i]? = some (some v) → ∃ f rest, Own K W H v t f ∧ fp.Perm (f ++ rest) ∧
    ∀ (W' : Wd) (H' : Hp) (t' : OT) (f' : List Addr), W.Le W' → (∀ a, a ∈ rest ∨ a ∈ xf → ∀ o, H a = some o → H' a = some o) → Own K W' H' v t' f' → ∃ fp', EnvOk K W' H' σ (env.set i (some (.nw t'))) fp' xf ∧ fp'.Perm (f' ++ rest) := by
  induction E with
  | nil => intro i t v e; simp at e
  | no E ih =>
    intro i t v e1 e2
    cases i with
    | zero => simp at e1
    | succ i =>
      obtain ⟨f, rest, a, b, c⟩ := ih (i := i) (t := t) (v := v) (by simpa using e1) (by simpa using e2)
      refine ⟨f, rest, a, b, fun W' H' t' f' l k o => ?_⟩
      obtain ⟨fp', x, y⟩ := c W' H' t' f' l k o
      exact ⟨fp', .no x, y⟩
  | fz q E ih =>
    intro i t v e1 e2
    cases i with
    | zero => simp at e1
    | succ i =>
      obtain ⟨f, rest, a, b, c⟩ := ih (i := i) (t := t) (v := v) (by simpa using e1) (by simpa using e2)
      refine ⟨f, rest, a, b, fun W' H' t' f' l k o => ?_⟩
      obtain ⟨fp', x, y⟩ := c W' H' t' f' l k o
      exact ⟨fp', .fz (q.mono l) x, y⟩
  | nw q E ih =>
    rename_i v0 t0 f0 σ e fp xf
    intro i t v e1 e2
    have pc : ∀ (x rest : List Addr), (f0 ++ (x ++ rest)).Perm (x ++ (f0 ++ rest)) := fun x rest => by
      rw [← List.append_assoc, ← List.append_assoc]
      exact List.perm_append_comm.append_right _
    cases i with
    | zero =>
      simp at e1 e2
      subst e1 e2
      exact ⟨f0, fp, q, .refl _, fun W' H' t' f' l k o => ⟨f' ++ fp, .nw o (E.mono l fun a m => k a m), .refl _⟩⟩
    | succ i =>
      obtain ⟨f, rest, a, b, c⟩ := ih (i := i) (t := t) (v := v) (by simpa using e1) (by simpa using e2)
      refine ⟨f, f0 ++ rest, a, (b.append_left f0).trans (pc f rest), fun W' H' t' f' l k o => ?_⟩
      obtain ⟨fp', x, y⟩ := c W' H' t' f' l (fun a m => k a (m.imp (List.mem_append_right _) id)) o
      exact ⟨f0 ++ fp', .nw (q.mono l fun a m => k a (.inl (List.mem_append_left _ m))) x, (y.append_left f0).trans (pc f' rest)⟩
  | ex q E ih =>
    intro i t v e1 e2
    cases i with
    | zero => simp at e1
    | succ i =>
      obtain ⟨f, rest, a, b, c⟩ := ih (i := i) (t := t) (v := v) (by simpa using e1) (by simpa using e2)
      refine ⟨f, rest, a, b, fun W' H' t' f' l k o => ?_⟩
      obtain ⟨fp', x, y⟩ := c W' H' t' f' l (fun a m => k a (m.imp id (List.mem_append_right _))) o
      exact ⟨fp', .ex (q.mono l fun a m => k a (.inr (List.mem_append_left _ m))) x, y⟩
def PlOk (K : PySem.W.Frag) (W : Wd) (H : Hp) (σ : L2.St) (env : Env) (u : V) (i : Nat) (js : List Nat) : Prop := ∃ t v s, env[i]? = some (some (.nw t)) ∧ σ[i]? = some (some v) ∧ AtP K W H v t js u s
theorem AtP.mono {v u : V} {t s : OT} {js : List Nat} (h : AtP K W H v t js u s) : ∀ {f : List Addr}, Own K W H v t f → (∀ a ∈ f, ∀ o, H a = some o → H' a = some o) → AtP K W' H' v t js u s := by
  induction h with
  | nil => intro _ _ _; exact .nil
  | lst a b c _ ih =>
    intro f o k
    cases o with
    | lst g w =>
      rw [a] at g
      cases g
      obtain ⟨u2, fc, rest, e2, o2, p2, _⟩ := w.split c
      rw [b] at e2
      cases e2
      exact .lst (k _ List.mem_cons_self _ a) b c (ih o2 fun x m => k x (List.mem_cons_of_mem _ (p2.mem_iff.mpr (List.mem_append_left _ m))))
  | tup a b c _ ih =>
    intro f o k
    cases o with
    | tup g w =>
      rw [a] at g
      cases g
      obtain ⟨u2, fc, rest, e2, o2, p2, _⟩ := w.split c
      rw [b] at e2
      cases e2
      exact .tup (k _ List.mem_cons_self _ a) b c (ih o2 fun x m => k x (List.mem_cons_of_mem _ (p2.mem_iff.mpr (List.mem_append_left _ m))))
  | ins a b c _ ih =>
    intro f o k
    cases o with
    | ins g w =>
      rw [a] at g
      cases g
      obtain ⟨u2, fc, rest, e2, o2, p2, _⟩ := w.split c
      rw [b] at e2
      cases e2
      exact .ins (k _ List.mem_cons_self _ a) b c (ih o2 fun x m => k x (List.mem_cons_of_mem _ (p2.mem_iff.mpr (List.mem_append_left _ m))))
  | dk a b c _ ih =>
    intro f o k
    cases o with
    | dk g w =>
      rw [a] at g
      cases g
      obtain ⟨u2, fc, rest, e2, o2, p2, _⟩ := w.split c
      rw [b] at e2
      cases e2
      exact .dk (k _ List.mem_cons_self _ a) b c (ih o2 fun x m => k x (List.mem_cons_of_mem _ (p2.mem_iff.mpr (List.mem_append_left _ m))))
theorem PlOk.keep {σ : L2.St} {u : V} {i : Nat} {js : List Nat} (P : PlOk K W H σ env u i js) (E : EnvOk K W H σ env fp xf) (S : Sat K W H fp xf) (t : Stp W H [] W' H') : PlOk K W' H' σ env u i js := by
  obtain ⟨t0, v, s2, he, ev, ap⟩ := P
  obtain ⟨f, rest, ow, p, _⟩ := E.slot he ev
  exact ⟨t0, v, s2, he, ev, ap.mono ow fun a m o e => t.kp a o e (by simp) (S.off a (p.mem_iff.mpr (List.mem_append_left _ m))).2.1⟩
def LPl (K : PySem.W.Frag) (m : DP) : TE := fun σ H Q => ∃ (W : Wd) (env : Env) (fp xf : List Addr) (Q0 : Nat → List Nat → Prop), EnvOk K W H σ env fp xf ∧ Sat K W H fp xf ∧ m env Q0 ∧
  ∀ i p, Q0 i p → ∀ u W' H', Stp W H [] W' H' → Sat K W' H' fp xf → PlOk K W' H' σ env u i p → Q u H'
theorem LPl.next {m : DP} {σ : L2.St} {Q1 : Nat → List Nat → Prop} {q : V → Hp → Prop} (E : EnvOk K W H σ env fp xf) (S : Sat K W H fp xf) (h : m env Q1)
    (k : ∀ i p, Q1 i p → ∀ u W1 H1, Stp W H [] W1 H1 → Sat K W1 H1 fp xf → EnvOk K W1 H1 σ env fp xf → PlOk K W1 H1 σ env u i p → q u H1) : LPl K m σ H q :=
  ⟨W, env, fp, xf, Q1, E, S, h, fun i p hq u W1 H1 t1 S1 o => k i p hq u W1 H1 t1 S1 (E.keep S t1) o⟩
end
section
variable {X : Cx} {tg a b c : Expr} {ma mb mc : DE} {pos : Pos} {ta tb : DT} {st : Stmt} {rest s1 s2 : List Stmt} {m m1 m2 : DS} {pr : List Nat} {pl : DP} {x : Str} {C : Addr}
theorem ds_setVol (ha : PE X a (LP X.K ma)) (hk : PE X b (LP X.K mb)) (he : PE X c (LP X.K mc)) {p1 : Pos} (hs : swapsWithSole [.Subscript a b p1] c pos.line X.env = pure false := by rfl) (hw : swappedStores [.Subscript a b p1] c X.env = pure none := by rfl)
    (h1 : (assignEach [.Subscript a b p1] X.env).map (·.2) = [assign (.Subscript a b p1) X.env] := by rfl) (hg : ∀ (t1 t2 : TE), PE X a t1 → PE X b t2 → PG X (.Subscript a b p1) (gSub t1 t2 rSetL) := by exact fun _ _ x y => pg_sub x y set_list) :
    PS X (.Assign [.Subscript a b p1] c pos) (LS X.K ex pr (mSetVol ma mb mc)) := ps_imp (ps_asg he (hg _ _ ha hk) hs hw h1) fun D σ H h => by
  obtain ⟨W, env, fp, xf, K0, E, S, hm, nx, bk, ct, rt⟩ := h
  refine LP.next E S hm fun r hr v W1 H1 t1 S1 E1 o => ?_
  split at hr
  · rename_i n0
    refine LP.next E1 S1 hr fun r2 hr2 v2 W2 H2 t2 S2 E2 o2 => ?_
    split at hr2
    · rename_i ps
      refine LP.next E2 S2 hr2 fun r3 hr3 v3 W3 H3 t3 S3 E3 o3 => ?_
      split at hr3
      · rename_i n
        obtain ⟨h0, h3, hn⟩ := hr3
        have o2' : Rep X.K W3 v2 (.vol 0 ps) := Rep.mono (t3.le S2 fun _ m => by cases m) o2
        cases o2' with
        | vol s =>
          rename_i p0
          obtain ⟨gn, ob, hp0, x, y, z, e⟩ := S3.vol _ _ _ s
          subst e
          have ev : v = .int n0 := int_of o
          have ej : ∃ j : Nat, ixN 3 n = some j ∧ ∃ x' y' z' : Int, ([V.int x, .int y, .int z] : List V).set j v = [.int x', .int y', .int z'] := by
            have hi : n = 0 ∨ n = 1 ∨ n = 2 := by omega
            rw [ev]
            rcases hi with rfl | rfl | rfl
            · exact ⟨0, rfl, n0, y, z, rfl⟩
            · exact ⟨1, rfl, x, n0, z, rfl⟩
            · exact ⟨2, rfl, x, y, n0, rfl⟩
          obtain ⟨j, ej1, x', y', z', ej2⟩ := ej
          have ne : ∀ a, W3.S a = none → a ≠ p0 := fun a q e => by rw [e, s] at q; cases q
          have up : ∀ a, W3.S a = none → ∀ o, H3 a = some o → upd H3 p0 (.lst ([V.int x, .int y, .int z].set j v)) a = some o := fun a q o e => (upd_ne (ne a q)).trans e
          have al : ∀ a, H3 a ≠ none → upd H3 p0 (.lst ([V.int x, .int y, .int z].set j v)) a ≠ none := fun a n => by
            by_cases q : a = p0
            · rw [q, upd_same]; exact fun z => nomatch z
            · rw [upd_ne q]; exact n
          refine ⟨p0, _, n, j, rfl, int_of o3, hp0, ej1, nx _ hn σ W3 _ fp xf ⟨?_, E3.mono (.refl _) fun a m o e => up a (m.elim (fun q => (S3.off a q).2.1) fun q => (S3.xof a q).2.1) o e, ⟨fun a o e => ?_, ⟨fun a k ps e => ?_, fun p q e => let ⟨x, cs, y⟩ := S3.vol.tb p q e; ⟨x, cs, (upd_ne (fun z => by rw [z, s] at x; cases x)).trans y⟩⟩, S3.nd, fun a m => ⟨(S3.off a m).1, (S3.off a m).2.1, al a (S3.off a m).2.2⟩, fun a m => ⟨(S3.xof a m).1, (S3.xof a m).2.1, al a (S3.xof a m).2.2⟩⟩, fun a m => .inl m, fun _ _ => rfl⟩⟩
          · refine (((t1.tr0 t2).tr0 t3).trans (f1 := []) ⟨fun _ _ _ => ⟨rfl, rfl⟩, fun a o e _ s => up a s o e, al⟩ fun _ m => by cases m).up
          · exact (upd_ne (fun q => by rw [q, gn] at e; cases e)).trans (S3.sub a o e)
          · obtain ⟨g1, ob, g2, g3⟩ := S3.vol a k ps e
            by_cases q : a = p0
            · subst q
              rw [s] at e
              cases e
              exact ⟨g1, _, upd_same, x', y', z', congrArg HO.lst ej2⟩
            · exact ⟨g1, ob, (upd_ne q).trans g2, g3⟩
      · exact hr3.elim
    · exact hr2.elim
  · exact hr.elim
theorem dp_src (ha : PE X a (LP X.K ma)) : PE X a (LP X.K (mSrc ma)) := pe_imp ha fun σ H Q h => by
  obtain ⟨W, env, fp, xf, Q0, E, S, hm, k⟩ := h
  refine LP.next E S hm fun r hr v W1 H1 t1 S1 E1 o => ?_
  split at hr
  · obtain ⟨f, ow, nd, z⟩ := o
    cases ow with
    | @lst p vs _ g hp w =>
      obtain ⟨hn, g1, s1⟩ := z p List.mem_cons_self
      have ev : ∃ x y z : Int, vs = [.int x, .int y, .int z] := by
        cases w with
        | cons a1 w1 =>
          cases w1 with
          | cons a2 w2 =>
            cases w2 with
            | cons a3 w3 =>
              cases w3
              cases a1 with | leaf a1 => cases a1; cases a2 with | leaf a2 => cases a2; cases a3 with | leaf a3 => cases a3; exact ⟨_, _, _, rfl⟩
      obtain ⟨x, y, zz, rfl⟩ := ev
      have np : ∀ a, W1.S a = none ∨ True := fun _ => .inr trivial
      refine k _ hr _ ⟨W1.G, fun a => if a = p then some (0, []) else W1.S a⟩ H1 ⟨fun a h m => ?_, t1.kp, t1.al⟩ ⟨S1.sub, ⟨fun a kk ps e => ?_, fun p' q e => let ⟨x, y⟩ := S1.vol.tb p' q e; ⟨(if_neg (fun z => by rw [z, s1] at x; cases x)).trans x, y⟩⟩, S1.nd, fun a m => ?_, fun a m => ?_⟩ (.vol (if_pos rfl))
      · have q : a ≠ p := fun q => h (by rw [q]; exact hn)
        exact ⟨(t1.wx a h m).1, (if_neg q).trans (t1.wx a h m).2⟩
      · have l : W1.Le ⟨W1.G, fun a => if a = p then some (0, []) else W1.S a⟩ := ⟨fun _ _ e => e, fun a k e => by
          have q : a ≠ p := fun q => by rw [q, s1] at e; cases e
          exact (if_neg q).trans e⟩
        have e : (if a = p then some (0, []) else W1.S a) = some (kk, ps) := e
        by_cases q : a = p
        · rw [if_pos q] at e
          cases e
          rw [q]
          exact ⟨g1, _, hp, x, y, zz, rfl⟩
        · rw [if_neg q] at e
          obtain ⟨x1, ob, x2, x3⟩ := S1.vol a kk ps e
          exact ⟨x1, ob, x2, x3.mono fun _ _ w => w.mono l⟩
      · have q : a ≠ p := fun q => (S.off a m).2.2 (by rw [q]; exact hn)
        exact ⟨(S1.off a m).1, (if_neg q).trans (S1.off a m).2.1, (S1.off a m).2.2⟩
      · have q : a ≠ p := fun q => (S.xof a m).2.2 (by rw [q]; exact hn)
        exact ⟨(S1.xof a m).1, (if_neg q).trans (S1.xof a m).2.1, (S1.xof a m).2.2⟩
  · exact hr.elim
end
end R
namespace R
open PySem PySem.Spec PyProof.Rows L2
theorem pd_shape : ∀ {n : Nat} {d : D} {p : PyData}, d.pd n = some p → p.canLay0 = true ∧ p.depth ≤ n := by
  have key : ∀ {α : Type} (f : D → Option PyData) {n : Nat}, (∀ {d : D} {p : PyData}, f d = some p → p.canLay0 = true ∧ p.depth ≤ n) → ∀ {ds : List D} {ps : List PyData}, allOf f ds = some ps → PyData.canLayAll0 ps = true ∧ PyData.depthAll ps ≤ n := by
    intro α f n h ds
    induction ds with
    | nil => intro ps e; cases e; exact ⟨by rw [PyData.canLayAll0], by rw [PyData.depthAll]; omega⟩
    | cons d ds ih =>
      intro ps e
      rw [allOf] at e
      cases q : f d with
      | none => rw [q] at e; cases e
      | some p =>
        rw [q] at e
        cases q2 : allOf f ds with
        | none => rw [q2] at e; cases e
        | some qs =>
          rw [q2] at e
          cases e
          obtain ⟨a, b⟩ := h q
          obtain ⟨a2, b2⟩ := ih q2
          exact ⟨by rw [PyData.canLayAll0, a, a2] <;> rfl, by rw [PyData.depthAll]; omega⟩
  intro n
  induction n with
  | zero =>
    intro d p e
    cases d with
    | non => cases e; exact ⟨by rw [PyData.canLay0], by rw [PyData.depth]; omega⟩
    | bl b => cases e; exact ⟨by rw [PyData.canLay0], by rw [PyData.depth]; omega⟩
    | int b => cases e; exact ⟨by rw [PyData.canLay0], by rw [PyData.depth]; omega⟩
    | str x =>
      have e : (if PyData.strOk x = true then some (PyData.str x) else none) = some p := e
      by_cases h : PyData.strOk x = true
      · rw [if_pos h] at e; cases e; exact ⟨by rw [PyData.canLay0]; exact h, by rw [PyData.depth]; omega⟩
      · rw [if_neg h] at e; cases e
    | lst _ => cases e
    | tup _ => cases e
    | rol _ => cases e
    | ins _ _ _ => cases e
    | vol _ _ => cases e
    | dct _ _ => cases e
    | any => cases e
    | adr _ => cases e
    | cod _ => cases e
    | obj _ _ => cases e
    | exn _ => cases e
  | succ n ih =>
    intro d p e
    cases d with
    | non => cases e; exact ⟨by rw [PyData.canLay0], by rw [PyData.depth]; omega⟩
    | bl b => cases e; exact ⟨by rw [PyData.canLay0], by rw [PyData.depth]; omega⟩
    | int b => cases e; exact ⟨by rw [PyData.canLay0], by rw [PyData.depth]; omega⟩
    | str x =>
      have e : (if PyData.strOk x = true then some (PyData.str x) else none) = some p := e
      by_cases h : PyData.strOk x = true
      · rw [if_pos h] at e; cases e; exact ⟨by rw [PyData.canLay0]; exact h, by rw [PyData.depth]; omega⟩
      · rw [if_neg h] at e; cases e
    | lst ds =>
      have e : (allOf (D.pd n) ds).map .list = some p := e
      cases q : allOf (D.pd n) ds with
      | none => rw [q] at e; cases e
      | some ps =>
        rw [q] at e
        cases e
        obtain ⟨a, b⟩ := key (α := Nat) _ ih q
        exact ⟨by rw [PyData.canLay0]; exact a, by rw [PyData.depth]; omega⟩
    | tup ds =>
      have e : (allOf (D.pd n) ds).map .tuple = some p := e
      cases q : allOf (D.pd n) ds with
      | none => rw [q] at e; cases e
      | some ps =>
        rw [q] at e
        cases e
        obtain ⟨a, b⟩ := key (α := Nat) _ ih q
        exact ⟨by rw [PyData.canLay0]; exact a, by rw [PyData.depth]; omega⟩
    | rol ds =>
      have e : (allOf (D.pd n) ds).map .list = some p := e
      cases q : allOf (D.pd n) ds with
      | none => rw [q] at e; cases e
      | some ps =>
        rw [q] at e
        cases e
        obtain ⟨a, b⟩ := key (α := Nat) _ ih q
        exact ⟨by rw [PyData.canLay0]; exact a, by rw [PyData.depth]; omega⟩
    | ins _ _ _ => cases e
    | vol _ _ => cases e
    | dct _ _ => cases e
    | any => cases e
    | adr _ => cases e
    | cod _ => cases e
    | obj _ _ => cases e
    | exn _ => cases e
section
variable {K : PySem.W.Frag} {W : Wd} {H : Hp}
theorem rep_dp (sub : ∀ a o, W.G a = some o → H a = some o) : ∀ {n : Nat} {v : V} {d : D} {p : PyData}, Rep K W v d → d.pd n = some p → Dp K H v p := by
  have key : ∀ (f : D → Option PyData), (∀ {v : V} {d : D} {p : PyData}, Rep K W v d → f d = some p → Dp K H v p) → ∀ {ds : List D} {vs : List V} {ps : List PyData}, RepAll K W vs ds → allOf f ds = some ps → DpAll K H vs ps := by
    intro f h ds
    induction ds with
    | nil => intro vs ps r e; cases r; cases e; exact .nil
    | cons d ds ih =>
      intro vs ps r e
      rw [allOf] at e
      cases q : f d with
      | none => rw [q] at e; cases e
      | some p =>
        rw [q] at e
        cases q2 : allOf f ds with
        | none => rw [q2] at e; cases e
        | some qs =>
          rw [q2] at e
          cases e
          cases r with
          | cons a b => exact .cons (h a q) (ih b q2)
  have sc : ∀ {n : Nat} {v : V} {x : Str} {p : PyData}, Rep K W v (.str x) → (D.str x).pd n = some p → Dp K H v p := by
    intro n v x p r e
    have e : (if PyData.strOk x = true then some (PyData.str x) else none) = some p := by cases n <;> exact e
    by_cases h : PyData.strOk x = true
    · rw [if_pos h] at e; cases e; cases r; exact .str x
    · rw [if_neg h] at e; cases e
  intro n
  induction n with
  | zero =>
    intro v d p r e
    cases r with
    | non => cases e; exact .non
    | bl b => cases e; exact .bl b
    | int b => cases e; exact .int b
    | str x => exact sc (n := 0) (.str x) e
    | lst _ _ => cases e
    | tup _ _ => cases e
    | rol _ _ => cases e
    | ins _ _ => cases e
    | vol _ => cases e
    | dct _ _ => cases e
    | any _ => cases e
    | adr _ => cases e
    | cod _ => cases e
    | obj _ _ => cases e
  | succ n ih =>
    intro v d p r e
    cases r with
    | non => cases e; exact .non
    | bl b => cases e; exact .bl b
    | int b => cases e; exact .int b
    | str x => exact sc (n := n + 1) (.str x) e
    | @lst a xs ds g r =>
      have e : (allOf (D.pd n) ds).map .list = some p := e
      cases q : allOf (D.pd n) ds with
      | none => rw [q] at e; cases e
      | some ps => rw [q] at e; cases e; exact .lst (.of (sub _ _ g)) (key _ ih r q)
    | @tup a xs ds g r =>
      have e : (allOf (D.pd n) ds).map .tuple = some p := e
      cases q : allOf (D.pd n) ds with
      | none => rw [q] at e; cases e
      | some ps => rw [q] at e; cases e; exact .tup (.of (sub _ _ g)) (key _ ih r q)
    | @rol a xs ds g r =>
      have e : (allOf (D.pd n) ds).map .list = some p := e
      cases q : allOf (D.pd n) ds with
      | none => rw [q] at e; cases e
      | some ps => rw [q] at e; cases e; exact .lst (SqL.mono sub g) (key _ ih r q)
    | ins _ _ => cases e
    | vol _ => cases e
    | dct _ _ => cases e
    | any _ => cases e
    | adr _ => cases e
    | cod _ => cases e
    | obj _ _ => cases e
theorem own_dp (sub : ∀ a o, W.G a = some o → H a = some o) : ∀ {n : Nat} {v : V} {t : OT} {f : List Addr} {p : PyData}, Own K W H v t f → t.pd n = some p → Dp K H v p ∧ p.canLay0 = true ∧ p.depth ≤ n := by
  have key : ∀ (g : OT → Option PyData) (n : Nat), (∀ {v : V} {t : OT} {f : List Addr} {p : PyData}, Own K W H v t f → g t = some p → Dp K H v p ∧ p.canLay0 = true ∧ p.depth ≤ n) → ∀ {ts : List OT} {vs : List V} {f : List Addr} {ps : List PyData}, OwnAll K W H vs ts f → allOfT g ts = some ps →
      DpAll K H vs ps ∧ PyData.canLayAll0 ps = true ∧ PyData.depthAll ps ≤ n := by
    intro g n h ts
    induction ts with
    | nil => intro vs f ps r e; cases r; cases e; exact ⟨.nil, by rw [PyData.canLayAll0], by rw [PyData.depthAll]; omega⟩
    | cons d ds ih =>
      intro vs f ps r e
      rw [allOfT] at e
      cases q : g d with
      | none => rw [q] at e; cases e
      | some p =>
        rw [q] at e
        cases q2 : allOfT g ds with
        | none => rw [q2] at e; cases e
        | some qs =>
          rw [q2] at e
          cases e
          cases r with
          | cons a b =>
            obtain ⟨x1, x2, x3⟩ := h a q
            obtain ⟨y1, y2, y3⟩ := ih b q2
            exact ⟨.cons x1 y1, by rw [PyData.canLayAll0, x2, y2] <;> rfl, by rw [PyData.depthAll]; omega⟩
  have lf : ∀ {n : Nat} {v : V} {d : D} {p : PyData}, Rep K W v d → (OT.leaf d).pd n = some p → Dp K H v p ∧ p.canLay0 = true ∧ p.depth ≤ n := fun {n} {v} {d} {p} r e => by
    have e : d.pd n = some p := by cases n <;> exact e
    exact ⟨rep_dp sub r e, pd_shape e⟩
  intro n
  induction n with
  | zero =>
    intro v t f p o e
    cases o with
    | leaf r => exact lf (n := 0) r e
    | lst _ _ => cases e
    | tup _ _ => cases e
    | ins _ _ => cases e
    | d0 _ => cases e
    | xo _ => cases e
    | dk _ _ => cases e
  | succ n ih =>
    intro v t f p o e
    cases o with
    | leaf r => exact lf (n := n + 1) r e
    | @lst a xs ts f g r =>
      have e : (allOfT (OT.pd n) ts).map .list = some p := e
      cases q : allOfT (OT.pd n) ts with
      | none => rw [q] at e; cases e
      | some ps =>
        rw [q] at e
        cases e
        obtain ⟨x1, x2, x3⟩ := key _ n ih r q
        exact ⟨.lst (.of g) x1, by rw [PyData.canLay0]; exact x2, by rw [PyData.depth]; omega⟩
    | @tup a xs ts f g r =>
      have e : (allOfT (OT.pd n) ts).map .tuple = some p := e
      cases q : allOfT (OT.pd n) ts with
      | none => rw [q] at e; cases e
      | some ps =>
        rw [q] at e
        cases e
        obtain ⟨x1, x2, x3⟩ := key _ n ih r q
        exact ⟨.tup (.of g) x1, by rw [PyData.canLay0]; exact x2, by rw [PyData.depth]; omega⟩
    | ins _ _ => cases e
    | d0 _ => cases e
    | xo _ => cases e
    | dk _ _ => cases e
theorem shaped8 {p : PyData} (h : p.canLay0 = true ∧ p.depth ≤ 8) : SeqAt.shaped p = true := by
  unfold SeqAt.shaped
  rw [h.1, decide_eq_true (show p.depth ≤ 64 by omega)] <;> rfl
end
section
variable {X : Cx} {a b c : Expr} {ma mb mc : DE} {pos : Pos}
theorem I_eq {σ : L2.St} {H : Hp} {Q : VK} (h : LP X.K (mOp (oEq false) ma mb) σ H Q) : tOp (rEqD X.K) (LP X.K ma) (LP X.K mb) σ H Q := h.two fun W fp xf Q0 r1 r2 v1 v2 W2 H2 hr O o1 o2 => by
  obtain ⟨p, q, e1, e2, hq⟩ := hr
  obtain ⟨f1, w1⟩ := o1.own
  obtain ⟨f2, w2⟩ := o2.own
  obtain ⟨x1, y1⟩ := own_dp O.S2.sub w1 e1
  obtain ⟨x2, y2⟩ := own_dp O.S2.sub w2 e2
  refine ⟨p, q, x1, x2, shaped8 y1, shaped8 y2, O.fin hq ?_⟩
  rw [Bool.bne_false]
  exact .bl _
theorem I_ne {σ : L2.St} {H : Hp} {Q : VK} (h : LP X.K (mOp (oEq true) ma mb) σ H Q) : tOp (rNeD X.K) (LP X.K ma) (LP X.K mb) σ H Q := h.two fun W fp xf Q0 r1 r2 v1 v2 W2 H2 hr O o1 o2 => by
  obtain ⟨p, q, e1, e2, hq⟩ := hr
  obtain ⟨f1, w1⟩ := o1.own
  obtain ⟨f2, w2⟩ := o2.own
  obtain ⟨x1, y1⟩ := own_dp O.S2.sub w1 e1
  obtain ⟨x2, y2⟩ := own_dp O.S2.sub w2 e2
  refine ⟨p, q, x1, x2, shaped8 y1, shaped8 y2, O.fin hq ?_⟩
  rw [Bool.bne_true]
  exact .bl _
theorem dp_eq (hu : X.A.units + 64 < cLine) (ha : PE X a (LP X.K ma)) (hb : PE X b (LP X.K mb)) : PE X (.Compare a [.Eq] [b] pos) (LP X.K (mOp (oEq false) ma mb)) := pe_imp (pe_cmpR (op_eqD hu) ha hb (nomark _)) fun _ _ _ h => I_eq h
theorem dt_ne (hu : X.A.units + 64 < cLine) (ha : PE X a (LP X.K ma)) (hb : PE X b (LP X.K mb)) : PT X (.Compare a [.NotEq] [b] pos) (LT X.K (mT (mOp (oEq true) ma mb))) := dt_of (op_neD hu) (fun _ _ _ h => I_ne h) ha hb (nomark _)
end
end R
namespace R
open PySem PySem.Spec PyProof.Rows L2
def mCh (f g : Int → Int → Bool) (a b c : DE) : DE := fun env Q => a env fun x => b env fun y => ∃ i j, x.ffz = .fz (.int i) ∧ y.ffz = .fz (.int j) ∧
  if f i j = true then c env fun z => ∃ k, z.ffz = .fz (.int k) ∧ Q (.fz (.bl (g j k))) else Q (.fz (.bl false))
def bLt : Int → Int → Bool := fun i j => decide (i < j)
def bLe : Int → Int → Bool := fun i j => decide (i ≤ j)
def bGt : Int → Int → Bool := fun i j => decide (j < i)
def bGe : Int → Int → Bool := fun i j => decide (j ≤ i)
def OT.ty : OT → Option String
  | .leaf .non => some "NoneType"
  | .leaf (.bl _) => some "bool"
  | .leaf (.int _) => some "int"
  | .leaf (.str _) => some "str"
  | .leaf (.lst _) => some "list"
  | .leaf (.tup _) => some "tuple"
  | .leaf (.dct _ _) => some "dict"
  | .lst _ => some "list"
  | .tup _ => some "tuple"
  | _ => none
def isTy (a b : String) : Bool := a == b || (a == "bool" && b == "int")
def oIs (T : String) (r : Rs) (Q : Rs → Prop) : Prop := ∃ n, r.t.ty = some n ∧ Q (.fz (.bl (isTy n T)))
def mD0 : DE := fun _ Q => Q (.nw .d0)
def mSetP (C : Nat) (f : Str) (a : DP) (e : DE) : DS := fun env D => e env fun r => a env fun i p => ∃ t ks ts, r.item = some t ∧ tree env i p = some (.ins C ks ts) ∧ ks.length < 1000 ∧ ks.length = ts.length ∧ D.nx (put env i p (.ins C (putK f t ks ts).1 (putK f t ks ts).2))
section
variable {X : Cx} {tg a b c : Expr} {ma mb mc : DE} {pos : Pos} {ta tb : DT} {st : Stmt} {rest s1 s2 : List Stmt} {m m1 m2 : DS} {pr : List Nat} {pl : DP} {x : Str} {C : Addr} {es : List Expr}
structure CmpI (X : Cx) (op : CmpOp) (f : Int → Int → Bool) : Prop where
  o : OpR X (compareOp op) (rI0 fun i j => .bl (f i j))
structure IsC (K : PySem.W.Frag) (C : Addr) : Prop where
  cl : Cls K C
  ha : PySem.W.findIn K (.ref C) "__class__" = some (some (.builtin "object.__class__"))
  hn : PySem.W.specialIn K (.builtin "object.__class__") "__get__" = some (some (.builtin "getset_descriptor.__get__"))
  htk : PySem.W.takesIn K (.builtin "object.__class__") = some true
  hm : PySem.W.mroIn K C (.type "object") = some true
  eq : PySem.W.kitOne K (.ref C) (.ref C) = some true
  ne : PySem.W.findIn K (.ref C) "__ne__" = some (some (.builtin "object.__ne__"))
  no : ∀ t ∈ tyNs, PySem.W.kitOne K (.type t) (.ref C) = some false ∧ PySem.W.subIn K (.type t) (.ref C) = some false
end
end R
namespace R
open PySem PySem.Spec PyProof.Rows L2
section
variable {K : PySem.W.Frag} {W W1 W2 W' : Wd} {H H1 H2 H' : Hp} {f f1 fp fp1 fp2 xf xf1 xf2 : List Addr} {σ σ1 σ2 : L2.St} {Q : VK} {r : Rs} {v : V} {env env1 env2 : Env}
theorem EnvOk.take {i : Nat} {t : OT} (E : EnvOk K W H σ env fp xf) (S : Sat K W H fp xf) (e : env[i]? = some (some (.nw t))) : ∃ v f fp' xf', σ[i]? = some (some v) ∧ Own K W H v t f ∧ EnvOk K W H σ (env.set i none) fp' xf' ∧ Sat K W H fp' xf' ∧ fp.Perm (f ++ fp') ∧ ∀ a ∈ xf', a ∈ xf := by
  obtain ⟨v, ev, _⟩ := E.get e S
  obtain ⟨f, fp1, xf1, E1, p1, x1, ow⟩ := E.clear i (some v)
  have es : σ.set i (some v) = σ := List.set_getElem_self_some ev
  rw [es] at E1
  have sp : Sat K W H (f ++ fp1) xf1 := S.perm p1.symm x1
  exact ⟨v, f, fp1, xf1, ev, ow t v e ev, E1, sp.less, p1, x1⟩
def VarsAt (σ : L2.St) : List Nat → List V → Prop
  | [], vs => vs = []
  | i :: is, vs => ∃ v us, vs = v :: us ∧ σ[i]? = some (some v) ∧ VarsAt σ is us
end
section
variable {X : Cx} {tg a b c : Expr} {ma mb mc : DE} {pos : Pos} {ta tb : DT} {st : Stmt} {rest s1 s2 : List Stmt} {m m1 m2 : DS} {pr : List Nat} {pl : DP} {x : Str} {C : Addr} {es : List Expr}
theorem VarsAt.len {σ : L2.St} : ∀ {is : List Nat} {vs : List V}, VarsAt σ is vs → vs.length = is.length
  | [], _, h => by rw [show _ = [] from h] <;> rfl
  | i :: is, _, ⟨v, us, e, _, q⟩ => by rw [e, List.length_cons, List.length_cons, VarsAt.len q]
end
end R
namespace R
open PySem PySem.Spec PyProof.Rows L2
section
variable {K : PySem.W.Frag} {W W1 W2 W' : Wd} {H H1 H2 H' : Hp} {f f1 fp fp1 fp2 xf xf1 xf2 : List Addr} {σ σ1 σ2 : L2.St} {Q : VK} {r : Rs} {v : V} {env env1 env2 : Env}
end
section
variable {X : Cx} {tg a b c : Expr} {ma mb mc : DE} {pos : Pos} {ta tb : DT} {st : Stmt} {rest s1 s2 : List Stmt} {m m1 m2 : DS} {pr : List Nat} {pl : DP} {x : Str} {C : Addr} {es : List Expr}
end
end R
namespace R
open PySem PySem.Spec PyProof.Rows L2
structure MAt (K : PySem.W.Frag) (W : Wd) (σ : L2.St) (i : Nat) (C : Nat) (f : Str) (js : List Nat) (a : Addr) (k : Nat) (ps : List D) (keys : List Key) : Prop where
  o : ∃ (a0 dx : Addr) (fs : List (Str × V)), σ[i]? = some (some (.ref a0)) ∧ W.G a0 = some (.ins C dx fs) ∧ fs.lookup f = some (.ref a)
  s : W.S a = some (k + 1, ps)
  k : VarsAt σ js (keys.map kV)
section
variable {K : PySem.W.Frag} {W W1 W2 W' : Wd} {H H1 H2 H' : Hp} {f f1 fp fp1 fp2 xf xf1 xf2 : List Addr} {σ σ1 σ2 : L2.St} {Q : VK} {r : Rs} {v : V} {env env1 env2 : Env} {i C k : Nat} {fl : Str} {js : List Nat} {a : Addr} {ps : List D} {keys : List Key}
theorem VarsAt.same {σ' : L2.St} : ∀ {js : List Nat} {vs : List V}, VarsAt σ js vs → (∀ j ∈ js, σ'[j]? = σ[j]?) → VarsAt σ' js vs
  | [], _, h, _ => h
  | j :: js, _, ⟨v, us, e, ev, q⟩, h => ⟨v, us, e, by rw [h j List.mem_cons_self]; exact ev, q.same fun x m => h x (List.mem_cons_of_mem _ m)⟩
theorem MAt.keep (M : MAt K W σ i C fl js a k ps keys) (l : W.Le W') (hi : σ1[i]? = σ[i]?) (hj : ∀ j ∈ js, σ1[j]? = σ[j]?) : MAt K W' σ1 i C fl js a k ps keys := by
  obtain ⟨a0, dx, fs, e1, e2, e3⟩ := M.o
  exact ⟨⟨a0, dx, fs, by rw [hi]; exact e1, l.g _ _ e2, e3⟩, l.s _ _ M.s, M.k.same hj⟩
end
section
variable {X : Cx} {tg a b c o o1 o3 : Expr} {ma mb mc : DE} {pos p1 : Pos} {ta tb : DT} {st : Stmt} {rest s1 s2 : List Stmt} {m m1 m2 : DS} {pr pr0 : List Nat} {pl : DP} {x f : Str} {C : Addr} {es es1 es3 : List Expr} {i : Nat} {js : List Nat}
end
end R
namespace R
open PySem PySem.Spec PyProof.Rows L2
def pairR (x y : D) : Rs := .nw (.tup [.leaf x, .leaf y])
def enumR (ds : List D) : List Rs := (List.range ds.length).map fun (i : Nat) => pairR (.int (i : Int)) (ds.getD i .non)
def mItE (a : DE) : DI := fun env Q => a env fun r => ∃ ds, r.ffz.els true = some ds ∧ Q r.ffz.stays (enumR ds)
section
variable {K : PySem.W.Frag} {W W1 W2 W' : Wd} {H H1 H2 H' : Hp} {f f1 fp fp1 fp2 xf xf1 xf2 : List Addr} {σ σ1 σ2 : L2.St} {Q : VK} {r : Rs} {v : V} {env env1 env2 : Env}
theorem list_stay {ds : List D} (o : ResOk K H fp W1 H1 v r) (h : r.els true = some ds) (S1 : Sat K W1 H1 fp xf) : ∃ (p : Addr) (vs : List V), v = .ref p ∧ SqL K H1 p vs ∧ RepAll K W1 vs ds ∧
    ∀ f, (r.stays = true ∨ f = []) → (∀ a ∈ f, a ∈ fp) → ∀ W' H' fp' xf', Stp W1 H1 f W' H' → W1.Le W' → Sat K W' H' fp' xf' → SqL K H' p vs ∧ RepAll K W' vs ds := by
  unfold Rs.els at h
  split at h
  · cases h
    cases (show Rep K W1 v (.lst ds) from o) with
    | lst g w => exact ⟨_, _, rfl, .of (S1.sub _ _ g), w, fun f _ _ W' H' fp' xf' _ l S => ⟨.of (S.sub _ _ (l.g _ _ g)), w.mono l⟩⟩
  · cases h
  · have e := show leaves _ = some ds from h
    obtain ⟨f0, ow, z⟩ := o
    cases ow with
    | lst hp w =>
      refine ⟨_, _, rfl, .of hp, w.reps e, fun f hf hs W' H' fp' xf' t l S => ?_⟩
      have hf : f = [] := hf.resolve_left (by intro q; cases q)
      subst hf
      exact ⟨.of (t.kp _ _ hp (by simp) (z _ List.mem_cons_self)), (w.reps e).mono l⟩
  · have e := show leaves _ = some ds from h
    obtain ⟨f0, ow, z⟩ := o
    cases ow with
    | lst hp w => exact ⟨_, _, rfl, .of hp, w.reps e, fun f hf hs W' H' fp' xf' t l S => ⟨.of (t.kp _ _ hp (fun m => (z _ List.mem_cons_self).2 (hs _ m)) (z _ List.mem_cons_self).1), (w.reps e).mono l⟩⟩
  · cases h
  · cases h
  · cases h
theorem RepAll.get {W : Wd} : ∀ {vs : List V} {ds : List D} {i : Nat} {u : V}, RepAll K W vs ds → vs[i]? = some u → Rep K W u (ds.getD i .non)
  | _, _, _, _, .nil, h => by simp at h
  | _, _, 0, _, .cons a _, h => by simp at h; subst h; exact a
  | _ :: vs0, _ :: ds0, i + 1, u, .cons _ b, h => by
    have h2 : vs0[i]? = some u := by simpa using h
    exact RepAll.get (vs := vs0) (ds := ds0) (i := i) b h2
theorem pair_ok {T : Addr} {x y : V} {d e : D} (S : Sat K W H fp xf) (n : H T = none) (a : Rep K W x d) (b : Rep K W y e) : Stp W H [] W (upd H T (.tup [x, y])) ∧ Sat K W (upd H T (.tup [x, y])) fp xf ∧ ResOk K H fp W (upd H T (.tup [x, y])) (.ref T) (pairR d e) :=
  ⟨.new n, S.new n, [T], .tup upd_same (.cons (f := []) (.leaf a) (.cons (f := []) (.leaf b) .nil)), by simp, fun c m => by rw [List.mem_singleton.mp m]; exact ⟨n, S.free n⟩⟩
theorem range_map_get {α : Type} {f : Nat → α} {n i : Nat} {c : α} (h : ((List.range n).map f)[i]? = some c) : c = f i := by
  rw [List.getElem?_map] at h
  cases q : (List.range n)[i]? with
  | none => rw [q] at h; cases h
  | some j =>
    obtain ⟨hi, e⟩ := List.getElem?_eq_some_iff.mp q
    rw [List.getElem_range] at e
    rw [q] at h
    cases h
    rw [e]
end
section
variable {X : Cx} {tg a b c : Expr} {ma mb mc : DE} {pos tpos : Pos} {ta tb : DT} {elts : List Expr} {kk : Nat}
theorem di_enum {p : Pos} (hm : X.mg "enumerate" = none) (ha : PE X a (LP X.K ma)) (hg : Gl X "enumerate" := by rfl) (hs : starEach [a] X.env = [(false, eval a X.env)] := by rfl) : PI X (.Tuple elts kk tpos) (.Call (.Name "enumerate" p) [a] [] pos) (LI X.K (mItE ma)) :=
  pi_imp (pi_enum hg hm (pa_cons ha pa_nil hs) hs) fun σ H R h => by
  obtain ⟨W, env, fp, xf, Q0, E, S, hm, k⟩ := h
  refine LP.next E S hm fun r ⟨ds, ek, hq⟩ v W1' H1 t1' S1' E1' o' => ?_
  obtain ⟨W1, t1, S1, _, o⟩ := ffz_ok S t1' S1' o'
  obtain ⟨p, vs, rfl, hl, hr, st⟩ := list_stay o ek S1
  have ll : (enumR ds).length = vs.length := by unfold enumR; rw [List.length_map, List.length_range, hr.len]
  refine ⟨p, vs, rfl, hl, k _ _ hq _ W1 H1 t1 S1 fun f hf hs W' H' fp' xf' t l S' y => ?_⟩
  obtain ⟨q1, q2⟩ := st f hf hs W' H' fp' xf' t l S'
  refine ⟨fun i hi => ⟨vs, q1, by omega⟩, fun i hi => ⟨vs, vs[i]'(by omega), q1, List.getElem?_eq_getElem (by omega)⟩, fun i x H'' c hy hx => ?_⟩
  obtain ⟨T, x0, rfl, hn, rfl, hv⟩ := hy
  rw [range_map_get hx]
  exact pair_ok S' hn (.int _) (q2.get (hv vs q1))
end
end R
namespace R
open PySem PySem.Spec PyProof.Rows L2
section
variable (P : Program) (w : World) (K : PySem.W.Frag) (mg : Str → Option Value) (base : Heap)
structure CalR (x : Str) (n : Nat) (F : Spec1) (dv : List D) (k : Nat) : Prop where
  ex : ∃ (f : Addr) (fd : FuncData) (ps : List Str) (ds : List Value) (dvs : List V), FnOk P w K mg base CX0 k f fd ps (spR K n F.io) ∧ mg x = some (.ref f) ∧ PySem.W.keepIn K (.ref f) = true ∧ Binds K fd ps ds ∧ Vals dvs ds ∧ ∀ W, RepAll K W dvs dv
structure MetR (C : Addr) (m : Str) (n : Nat) (F : Spec1) (dv : List D) (k : Nat) : Prop where
  ex : ∃ (f : Addr) (fd : FuncData) (ps : List Str) (ds : List Value) (dvs : List V), Cls K C ∧ Meth K C m f ∧ FnOk P w K mg base CX0 k f fd ps (spR K n F.io) ∧ Binds K fd ps ds ∧ Vals dvs ds ∧ ∀ W, RepAll K W dvs dv
structure MakR (x : Str) (C : Addr) (n : Nat) (F : Spec) (dv : List D) (k : Nat) : Prop where
  ex : ∃ (f : Addr) (fd : FuncData) (ps : List Str) (ds : List Value) (dvs : List V), Mk K C f ∧ FnOk P w K mg base CX0 k f fd ps (spR K n F) ∧ mg x = some (.ref C) ∧ Binds K fd ps ds ∧ Vals dvs ds ∧ ∀ W, RepAll K W dvs dv
structure MakKR (x : Str) (C : Addr) (n : Nat) (F : Spec) (np : Nat) (ks : List Str) (k : Nat) : Prop where
  ex : ∃ (f : Addr) (fd : FuncData) (ps : List Str) (g : List Value → List Value → List Value), Mk K C f ∧ FnOk P w K mg base CX0 k f fd ps (spR K n F) ∧ mg x = some (.ref C) ∧ KBn K fd ps (np + 1) ks g (fun vs zs => vs ++ zs)
end
section
variable {X : Cx} {k j n : Nat} {C : Addr} {F1 : Spec1} {F0 : Spec} {dv : List D} {x m : Str} {p pos apos : Pos} {e o : Expr} {es : List Expr} {mo mv : DE} {ma mk : DA} {kws : List Keyword} {nm : Option Str} {kpos : Pos}
theorem dp_cal (c : CalR X.prog X.w X.K X.mg X.base x n F1 dv k) (hr : Room j X.A) (hk : k ≤ j) (ha : PA X (e :: es) (LA X.K ma))
    (hg : Gl X x := by rfl) (hst : starEach (e :: es) X.env = (false, eval e X.env) :: starEach es X.env := by rfl) (hpl : (backTo pos (starEach es X.env)).any (·.1) = false := by rfl) (hdb : (x == ("__debug__" : Str)) = false := by decide) :
    PE X (.Call (.Name x p) (e :: es) [] pos) (LP X.K (mCall n F1 ma dv)) := by
  obtain ⟨f, fd, ps, ds, dvs, F, hm, kp, b, d, r⟩ := c.ex
  exact dp_call F (hr.mono hk) hm kp b d r (E := E0) pass0 ha hg hst hpl hdb
end
end R
namespace R
open PySem PySem.Spec PyProof.Rows L2
section
variable {K : PySem.W.Frag} {W W1 W2 W' : Wd} {H H1 H2 H' : Hp} {f f1 fp fp1 fp2 xf xf1 xf2 : List Addr} {σ σ1 σ2 : L2.St} {Q : VK} {r : Rs} {v : V} {env env1 env2 : Env}
theorem ResAll.app {vs us : List V} {rs ss : List Rs} {g h : List Addr} (a : ResAll K H fp W' H' vs rs g) (b : ResAll K H fp W' H' us ss h) : ResAll K H fp W' H' (vs ++ us) (rs ++ ss) (g ++ h) := by
  induction a with
  | nil => exact b
  | fz q _ ih => exact .fz q ih
  | nw q _ ih =>
    have w := ResAll.nw q ih
    rw [← List.append_assoc] at w
    exact w
  | br q z _ ih => exact .br q z ih
  | ex q z _ ih => exact .ex q z ih
end
section
variable {X : Cx} {k j n np : Nat} {C : Addr} {F0 : Spec} {x : Str} {p pos : Pos} {e : Expr} {es : List Expr} {ma mk : DA} {kws : List Keyword} {ks : List Str} {a b c : Expr} {mb : DE} {pr : List Nat}
end
end R
namespace R
open PySem PySem.Spec PyProof.Rows L2
section
variable {X : Cx} {a b : Expr} {mb : DE} {pos : Pos} {pl : DP}
end
end R
namespace R
open PySem
theorem w_add (i j : Int) : oAdd (.fz (.int i)) (.fz (.int j)) = fun Q => Q (.fz (.int (i + j))) := rfl
theorem w_mul (i j : Int) : oMul (.fz (.int i)) (.fz (.int j)) = fun Q => ((-(2 ^ 64) < i ∧ i < 2 ^ 64) ∨ (-(2 ^ 64) < j ∧ j < 2 ^ 64)) ∧ Q (.fz (.int (i * j))) := rfl
theorem w_ix_vol (ps : List D) (i : Int) : oIx (.fz (.vol 0 ps)) (.fz (.int i)) = fun Q => 0 ≤ i ∧ i < 3 ∧ ∀ x, Q (.fz (.int x)) := rfl
theorem w_ix_lst (ds : List D) (i : Int) : oIx (.fz (.lst ds)) (.fz (.int i)) = fun Q => ∃ d, at' ds i = some d ∧ Q (.fz d) := rfl
theorem w_ix_tup (ds : List D) (i : Int) : oIx (.fz (.tup ds)) (.fz (.int i)) = fun Q => ∃ d, at' ds i = some d ∧ Q (.fz d) := rfl
theorem w_ix_rol (ds : List D) (i : Int) : oIx (.fz (.rol ds)) (.fz (.int i)) = fun Q => ∃ d, at' ds i = some d ∧ Q (.fz d) := rfl
theorem w_ix_br (ts : List OT) (i : Int) : oIx (.br (.lst ts)) (.fz (.int i)) = fun Q => ∃ t, at' ts i = some t ∧ Q (brOf t) := by
  funext Q
  refine propext ⟨fun ⟨ts', t, e, h⟩ => ?_, fun ⟨t, h⟩ => ⟨ts, t, rfl, h⟩⟩
  cases e
  exact ⟨t, h⟩
theorem w_ix_brT (ts : List OT) (i : Int) : oIx (.br (.tup ts)) (.fz (.int i)) = fun Q => ∃ t, at' ts i = some t ∧ Q (brOf t) := by
  funext Q
  refine propext ⟨fun ⟨ts', t, e, h⟩ => ?_, fun ⟨t, h⟩ => ⟨ts, t, rfl, h⟩⟩
  cases e
  exact ⟨t, h⟩
theorem w_len_lst (ds : List D) : oLen [.fz (.lst ds)] = fun Q => Q (.fz (.int ds.length)) := by
  funext Q
  refine propext ⟨fun ⟨ts, e, h⟩ => ?_, fun h => ⟨_, rfl, by rw [List.length_map]; exact h⟩⟩
  cases e
  rw [List.length_map] at h
  exact h
theorem w_len_tup (ds : List D) : oLen [.fz (.tup ds)] = fun Q => Q (.fz (.int ds.length)) := by
  funext Q
  refine propext ⟨fun ⟨ts, e, h⟩ => ?_, fun h => ⟨_, rfl, by rw [List.length_map]; exact h⟩⟩
  cases e
  rw [List.length_map] at h
  exact h
theorem w_len_rol (ds : List D) : oLen [.fz (.rol ds)] = fun Q => Q (.fz (.int ds.length)) := by
  funext Q
  refine propext ⟨fun ⟨ts, e, h⟩ => ?_, fun h => ⟨_, rfl, by rw [List.length_map]; exact h⟩⟩
  cases e
  rw [List.length_map] at h
  exact h
theorem w_len_br (ts : List OT) : oLen [.br (.lst ts)] = fun Q => Q (.fz (.int ts.length)) := by
  funext Q
  refine propext ⟨fun ⟨ts, e, h⟩ => ?_, fun h => ⟨_, rfl, h⟩⟩
  cases e
  exact h
theorem w_len_nw (ts : List OT) : oLen [.nw (.lst ts)] = fun Q => Q (.fz (.int ts.length)) := by
  funext Q
  refine propext ⟨fun ⟨ts, e, h⟩ => ?_, fun h => ⟨_, rfl, h⟩⟩
  cases e
  exact h
theorem outs_nil (n : Nat) (e : Env) : outs [] n e = List.replicate n none := by
  unfold outs
  apply List.ext_getElem
  · simp
  · intro i h1 h2
    simp
theorem ffz_lst (ds : List D) : (Rs.nw (.lst (ds.map .leaf))).ffz = .fz (.lst ds) := by
  show (match (OT.lst (ds.map .leaf)).fzd with | some d => Rs.fz d | none => _) = _
  rw [fzd_lst]
theorem ffz_tup (ds : List D) : (Rs.nw (.tup (ds.map .leaf))).ffz = .fz (.tup ds) := by
  show (match (OT.tup (ds.map .leaf)).fzd with | some d => Rs.fz d | none => _) = _
  rw [fzd_tup]
theorem log2_lt {b : Int} (h : 0 < b) (h2 : b < 2 ^ 200) : b.natAbs.log2 < 9000 := by
  have h3 : b.natAbs < 2 ^ 200 := by omega
  have := (Nat.log2_lt (by omega : b.natAbs ≠ 0) (k := 200)).mpr h3
  omega
end R
namespace R
open PySem
theorem lc_any {it : DI} {g : DG} {e : DE} {ws : List Nat} {env : Env} {Q : Rs → Prop} (xs : List Rs) (st : Bool) (out : Nat → OT) (hit : ∀ Q' : Bool → List Rs → Prop, Q' st xs → it env Q') (hl : xs.length ≤ sizeL)
    (he : ∀ n r, xs[n]? = some r → g (Env.wipe (Env.lent env) ws) r.arg fun e1 => e1.length = env.length ∧ e e1 fun y => ∃ ty, y.item = some ty ∧ (List.range n).map out ++ [ty] = (List.range (n + 1)).map out) (hQ : Q (.nw (.lst ((List.range xs.length).map out)))) : mLc it g mYes e ws env Q := by
  refine hit _ ⟨fun n acc => acc = (List.range n).map out, rfl, fun n r acc hr ha => ⟨?_, ?_⟩, fun acc ha => by rw [ha]; exact hQ⟩
  · rw [ha, List.length_map, List.length_range]
    have := (List.getElem?_eq_some_iff.mp hr).1
    omega
  · subst ha
    exact he n r hr
theorem item_snoc {out : Nat → OT} {n : Nat} : (List.range n).map out ++ [out n] = (List.range (n + 1)).map out := by rw [List.range_succ, List.map_append] <;> rfl
end R
namespace R
open PySem
theorem w_eq_int (neg : Bool) (i j : Int) : oEq neg (.fz (.int i)) (.fz (.int j)) = fun Q => Q (.fz (.bl (decide (i = j) != neg))) := by
  funext Q
  have e : PyData.eqv (.int i) (.int j) = decide (i = j) := by
    rw [PyData.eqv]
    exact Bool.beq_eq_decide_eq i j
  refine propext ⟨fun ⟨p, q, e1, e2, h⟩ => ?_, fun h => ⟨_, _, rfl, rfl, by rw [e]; exact h⟩⟩
  cases e1
  cases e2
  rw [e] at h
  exact h
theorem eqvAll_of {f : D → Option PyData} (hf : ∀ d p, f d = some p → PyData.eqv p p = true) : ∀ {ds : List D} {ps : List PyData}, allOf f ds = some ps → PyData.eqvAll ps ps = true
  | [], ps, h => by cases h; rw [PyData.eqvAll]
  | d :: ds, ps, h => by
    rw [allOf] at h
    cases q : f d with
    | none => rw [q] at h; cases h
    | some p =>
      rw [q] at h
      cases q2 : allOf f ds with
      | none => rw [q2] at h; cases h
      | some qs =>
        rw [q2] at h
        cases h
        rw [PyData.eqvAll, hf d p q, eqvAll_of hf q2] <;> rfl
theorem pd_refl : ∀ (n : Nat) (d : D) (p : PyData), d.pd n = some p → PyData.eqv p p = true := by
  intro n
  induction n with
  | zero =>
    intro d p h
    cases d with
    | non => cases h; rw [PyData.eqv]
    | bl b => cases h; rw [PyData.eqv]; exact beq_self_eq_true b
    | int i => cases h; rw [PyData.eqv]; exact beq_self_eq_true i
    | str x =>
      have h : (if PyData.strOk x = true then some (PyData.str x) else none) = some p := h
      split at h
      · cases h; rw [PyData.eqv]; exact beq_self_eq_true x
      · cases h
    | lst _ => cases h
    | tup _ => cases h
    | rol _ => cases h
    | ins _ _ _ => cases h
    | vol _ _ => cases h
    | dct _ _ => cases h
    | any => cases h
    | adr _ => cases h
    | cod _ => cases h
    | obj _ _ => cases h
    | exn _ => cases h
  | succ n ih =>
    intro d p h
    cases d with
    | non => cases h; rw [PyData.eqv]
    | bl b => cases h; rw [PyData.eqv]; exact beq_self_eq_true b
    | int i => cases h; rw [PyData.eqv]; exact beq_self_eq_true i
    | str x =>
      have h : (if PyData.strOk x = true then some (PyData.str x) else none) = some p := h
      split at h
      · cases h; rw [PyData.eqv]; exact beq_self_eq_true x
      · cases h
    | lst ds =>
      have h : (allOf (D.pd n) ds).map .list = some p := h
      cases q : allOf (D.pd n) ds with
      | none => rw [q] at h; cases h
      | some ps => rw [q] at h; cases h; rw [PyData.eqv]; exact eqvAll_of ih q
    | tup ds =>
      have h : (allOf (D.pd n) ds).map .tuple = some p := h
      cases q : allOf (D.pd n) ds with
      | none => rw [q] at h; cases h
      | some ps => rw [q] at h; cases h; rw [PyData.eqv]; exact eqvAll_of ih q
    | rol ds =>
      have h : (allOf (D.pd n) ds).map .list = some p := h
      cases q : allOf (D.pd n) ds with
      | none => rw [q] at h; cases h
      | some ps => rw [q] at h; cases h; rw [PyData.eqv]; exact eqvAll_of ih q
    | ins _ _ _ => cases h
    | vol _ _ => cases h
    | dct _ _ => cases h
    | any => cases h
    | adr _ => cases h
    | cod _ => cases h
    | obj _ _ => cases h
    | exn _ => cases h
theorem oEq_same {neg : Bool} {x y : Rs} {Q : Rs → Prop} {d : D} {p : PyData} (hd : d.pd 8 = some p) (hx : x.t.pd 8 = some p) (hy : y.t.pd 8 = some p) (h : Q (.fz (.bl (true != neg)))) : oEq neg x y Q := ⟨p, p, hx, hy, by rw [pd_refl 8 d p hd]; exact h⟩
theorem w_setP (C : Nat) (f : Str) (e : DE) (ks : List Str) (ts : List OT) (rest : Env) (Z : DK) : mSetP C f (plN 0) e (some (.nw (.ins C ks ts)) :: rest) Z =
    e (some (.nw (.ins C ks ts)) :: rest) fun r => ∃ t, r.item = some t ∧ ks.length < 1000 ∧ ks.length = ts.length ∧ Z.nx (some (.nw (.ins C (putK f t ks ts).1 (putK f t ks ts).2)) :: rest) := by
  unfold mSetP
  congr 1
  funext r
  refine propext ⟨fun ⟨_, t, ks', ts', h1, h2, h3, h4, h5⟩ => ?_, fun ⟨t, h1, h2, h3, h4⟩ => ⟨⟨_, rfl⟩, t, ks, ts, h1, rfl, h2, h3, h4⟩⟩
  have h2 : some (OT.ins C ks ts) = some (.ins C ks' ts') := h2
  cases h2
  exact ⟨t, h1, h3, h4, h5⟩
theorem pk0 {g : Str} {t : OT} : putK g t [] [] = ([g], [t]) := rfl
end R
namespace R
theorem s_seq {a b : DS} {env : Env} {Z : DK} (h : ∀ K : Env → Prop, (∀ e, b e Z → K e) → a env { Z with nx := K }) : mSeq a b env Z := h (fun e => b e Z) (fun _ q => q)
end R
namespace R
theorem gT2 {i j : Nat} {env : Env} {x y : D} {Q : Env → Prop} (h : Q ((env.set i (some (.fz x))).set j (some (.fz y)))) : gT [gN i, gN j] env (pairR x y) Q := ⟨_, rfl, rfl, trivial, trivial, h⟩
end R
namespace R
open PySem
theorem fz_lst (ds : List D) : Fz (.lst (ds.map .leaf)) (.lst ds) := .lst (FzAll.leafs ds)
end R
namespace R
open PySem
end R
namespace R
open PySem
end R
namespace R
open PySem
end R
namespace R
open PySem
theorem sum_pred : ∀ {l : List Nat}, (∀ s ∈ l, 1 ≤ s) → (l.map (· - 1)).sum + l.length = l.sum
  | [], _ => rfl
  | x :: l, h => by
    have ih := sum_pred (l := l) fun s m => h s (List.mem_cons_of_mem _ m)
    have := h x List.mem_cons_self
    rw [List.map_cons, List.sum_cons, List.sum_cons, List.length_cons]
    omega
end R
namespace R
open PySem
end R
namespace R
open PySem
end R
namespace R
open PySem
end R
namespace R
open PySem
end R
namespace R
end R
namespace R
open PySem
end R
namespace R
open PySem
end R
namespace R
open PySem
end R
namespace R
open PySem
theorem mIfS_ff {t : DT} {a b : DS} {env : Env} {Z : DK} (h1 : ∀ P : Bool → Prop, P false → t env P) (q : b env Z) : mIfS t a b env Z := h1 _ (by rw [if_neg Bool.false_ne_true]; exact q)
end R
namespace R
open PySem
end R
namespace R
open PySem PySem.Spec PyProof.Rows L2 in
theorem hu_R {A : Around} {k : Nat} (hr : Room k A) : A.units + 64 < cLine := hr.units
end R
namespace R
open PySem PySem.Spec PyProof.Rows L2
end R
namespace R
open PySem PySem.Spec PyProof.Rows L2
abbrev tab0 : Obj := { cls := .none, data := .fields #[] }
structure TabsAt (K : PySem.W.Frag) (mg : Str → Option Value) (h : Heap) (T : List (Addr × Addr)) : Prop where
  e : ∀ p ∈ T, h.get? p.2 = some tab0
  n : ∀ p ∈ T, K.lookup p.2 = none
  c : ∀ p ∈ T, PySem.W.CodeHd h p.1 p.2
  b : ∃ (m : Addr) (o : Obj), mg "__builtins__" = some (.ref m) ∧ m ≠ builtinsNs ∧ h.get? m = some o ∧ o.cls = .type "module" ∧ o.dict = some builtinsNs ∧ o.data = .plain
theorem law_run {P : Program} {w : World} {K : PySem.W.Frag} {mg mb : Str → Option Value} {CX : CXT} {k : Nat} {fa a : Addr} {fd : FuncData} {x : Str} {sp : Sp} {s₁ : Shared} {vs : List Value} {ns : List Int} {T : List (Addr × Addr)}
    (KX : K.In s₁.heap) (hns : s₁.heap.Ns mainGlobals mg) (hb : s₁.heap.Ns builtinsNs mb) (hbb : ∀ x : Str, x ≠ "__name__" → mb x = bootBuiltins x) (hlim : s₁.heap.NoLimit) (hg : s₁.gens = #[]) (tk : TabsAt K mg s₁.heap T)
    (ha : s₁.heap.get? a = some { cls := .type "list", data := .seq vs.toArray }) (hi : IntsAre vs ns) (hl : ns.length ≤ sizeLine) (hr : Room k callerA)
    (F : ∀ base : Heap, K.In base → base.Ns mainGlobals mg → (∀ p ∈ T, LamX.TabB base mg p.1 p.2) → FnOk P w K mg base CX k fa fd [x] sp) (hbind : ∀ (s : Shared) (u : Value), BindsTo s fd ⟨[u], []⟩ [(x, u)])
    (hsp : ∀ H : Hp, (∀ p ∈ T, H p.2 = some (.tbl #[])) → SqL K H a (ns.map V.int) → sp [.ref a] H (fun v _ => v = .bl true) fun _ _ _ => False)
    (hCX : ∀ H e s', CX [] H s₁ (fun _ _ _ => False) e s' → False) :
    codeAny (model P w) callerA (.call (.ref fa) ⟨[.ref a], []⟩) (fun r s' => r = .ok (.ret (.bool true)) ∧ OldK s₁.heap s'.heap ∧ s'.os = s₁.os ∧ AllBare s'.gens) s₁ := by
  have rv := vals_ints hi
  let tb : List Addr := T.map (·.2)
  have at0 : ∀ b ∈ tb, s₁.heap.get? b = some tab0 := fun b m => by
    obtain ⟨p, hp, e⟩ := List.mem_map.mp m
    rw [← e]; exact tk.e p hp
  have nTa : a ∉ tb := fun m => by
    have z := (at0 a m).symm.trans ha
    cases (show Data.fields #[] = Data.seq vs.toArray _ from congrArg Obj.data (Option.some.inj z))
  -- H tells of the script and of the tables; what it does not tell of is the base
  have go : ∀ H : Hp, (∀ b u, H b = some u → (b = a ∧ K.lookup a = none ∧ u = .frz { cls := .type "list", data := .seq vs.toArray } (.lst (ns.map V.int))) ∨ b ∈ tb ∧ u = .tbl #[]) → (∀ b ∈ tb, H b = some (.tbl #[])) → SqL K H a (ns.map V.int) →
      codeAny (model P w) callerA (.call (.ref fa) ⟨[.ref a], []⟩) (fun r s' => r = .ok (.ret (.bool true)) ∧ OldK s₁.heap s'.heap ∧ s'.os = s₁.os ∧ AllBare s'.gens) s₁ := by
    intro H hH hT hS
    have out : ∀ {b : Addr} {o : Obj}, s₁.heap.get? b = some o → (b = a → K.lookup a ≠ none ∨ ∀ l n, o.data ≠ .seq l n) → (o.data = .fields #[] → b ∉ tb) → (hidT s₁.heap H).get? b = some o := fun {b o} e n1 n2 => hidT_get e (by
      cases q : H b with
      | none => rfl
      | some u =>
        rcases hH b u q with ⟨e1, e2, _⟩ | ⟨m, _⟩
        · rcases n1 e1 with z | z
          · exact absurd e2 z
          · rw [e1, ha] at e
            cases e
            exact absurd rfl (z _ _)
        · have e' := Option.some.inj (e.symm.trans (at0 b m))
          exact absurd m (n2 (by rw [e'])))
    have plain : ∀ {b : Addr} {o : Obj}, s₁.heap.get? b = some o → (∀ l n, o.data ≠ .seq l n) → o.data ≠ .fields #[] → (hidT s₁.heap H).get? b = some o := fun e h1 h2 => out e (fun _ => .inr h1) fun z => absurd z h2
    have ns' : ∀ {b : Addr} {m : Str → Option Value}, s₁.heap.Ns b m → (hidT s₁.heap H).Ns b m := fun ⟨o, es, ep, e, d, r⟩ => ⟨o, es, ep, plain e (fun _ _ z => by rw [d] at z; cases z) (fun z => by rw [d] at z; cases z), d, r⟩
    have KB : K.In (hidT s₁.heap H) := fun b o e => out (KX b o e) (fun z => .inl (by rw [← z, e]; exact fun w => nomatch w)) fun _ m => by
      obtain ⟨p, hp, z⟩ := List.mem_map.mp m
      have := tk.n p hp
      rw [z, e] at this
      cases this
    have hok : HOk P w H s₁.heap := fun b u e => by
      rcases hH b u e with ⟨rfl, _, rfl⟩ | ⟨m, rfl⟩
      · exact ⟨ha, by rw [List.length_map]; exact hl, vs, _, rv, ha⟩
      · exact at0 b m
    have TB : ∀ p ∈ T, LamX.TabB (hidT s₁.heap H) mg p.1 p.2 := fun p hp => by
      obtain ⟨m, o, b1, b2, b3, b4, b5, b6⟩ := tk.b
      obtain ⟨oc, us, file, tf, flags, tg, inF, text, tt, c1, c2, c3, c4, cr⟩ := tk.c p hp
      have nM : ∀ {c : Addr} {o : Obj}, s₁.heap.get? c = some o → (∀ es ep, o.data ≠ .dict es ep) → c ≠ mainGlobals := fun {c o} e z q => by
        obtain ⟨o2, es, ep, e2, d2, _⟩ := hns
        rw [q, e2] at e
        cases e
        exact z _ _ d2
      refine ⟨⟨oc, us, file, tf, flags, tg, inF, text, tt, plain c1 (fun _ _ z => by rw [c3] at z; cases z) (fun z => ?_), c2, c3, c4, cr⟩, ⟨m, o, b1, b2, nM b3 (fun _ _ z => by rw [b6] at z; cases z), fun z => ?_, plain b3 (fun _ _ z => by rw [b6] at z; cases z) (fun z => by rw [b6] at z; cases z), b4, b5, b6⟩, fun z => nM (tk.e p hp) (fun _ _ q => by cases q) z.symm⟩
      · rw [c3] at z
        cases z
        cases c4
      · have e := tk.e p hp
        rw [← z, b3] at e
        cases e
        cases b6
    have e0 : Env0 P w K mg (hidT s₁.heap H) callerA [] s₁ H := ⟨rfl, ⟨KB, ns' hns, ⟨mb, ns' hb, hbb⟩, hlim.elim fun m h => ⟨m, ns' h.1, h.2⟩⟩, fun b o e => of_hidT e, Nat.le_of_eq (hidT_size _ _), trivial, (fun b z => nomatch (show b ∈ ([] : List Addr) from z)), hok, .of_eq hg⟩
    refine codeAny_mono ((F _ KB (ns' hns) TB).run callerA [] s₁ H ⟨[.ref a], []⟩ [.ref a] [.ref a] _ _ hr e0 (hbind s₁ (.ref a)) (.cons rfl .nil) (hsp H (fun p hp => hT _ (List.mem_map.mpr ⟨p, hp, rfl⟩)) hS)) fun r s' h => ?_
    match r, h with
    | .error e, h => exact (hCX H e s' h).elim
    | .ok .next, h => exact (show False from h).elim
    | .ok .brk, h => exact (show False from h).elim
    | .ok .cont, h => exact (show False from h).elim
    | .ok (.ret u), ⟨v, H', os, bare, un, hok', r', q⟩ =>
      subst q
      obtain rfl : u = Value.bool true := r'
      have stay : ∀ b o, b ∉ tb → s₁.heap.get? b = some o → s'.heap.get? b = some o := fun b o nm e => by
        cases q : H b with
        | none => exact un.keep b o e q (by intro z; exact nomatch (show b ∈ ([] : List Addr) from z)) (by simp)
        | some u =>
          rcases hH b u q with ⟨_, _, rfl⟩ | ⟨m, _⟩
          · have e2 := (hok' b _ (un.frzs b _ _ q)).1
            rw [Option.some.inj (e.symm.trans (hok b _ q).1)]
            exact e2
          · exact absurd m nm
      have grow : ∀ b ∈ tb, ∃ l : Array Value, s'.heap.get? b = some { cls := .none, data := .fields l } := fun b m => by
        obtain ⟨l, z⟩ := un.tbls b #[] (hT b m)
        exact ⟨_, hok' b _ z⟩
      refine ⟨rfl, ⟨fun b o e => ?_, fun b o e => ?_⟩, os, bare⟩
      · by_cases m : b ∈ tb
        · obtain ⟨p, hp, rfl⟩ := List.mem_map.mp m
          obtain ⟨l, z⟩ := grow _ m
          obtain rfl := Option.some.inj (e.symm.trans (at0 _ m))
          exact .inr (.inl ⟨((tk.c p hp).tab (tk.e p hp)).isCodeTable, rfl, #[], l, rfl, by rw [Array.empty_append]; exact z⟩)
        · exact .inl (stay b o m e)
      · by_cases m : b ∈ tb
        · obtain ⟨l, z⟩ := grow b m
          exact ⟨_, z⟩
        · exact ⟨o, stay b o m e⟩
  cases hk : K.lookup a with
  | some o =>
    have e := KX a o hk
    rw [ha] at e
    cases e
    refine go (fun b => if b ∈ tb then some (.tbl #[]) else none) (fun b u z => .inr ?_) (fun b m => if_pos m) (.inr ⟨_, vs.toArray, _, hk, rfl, rfl, rfl, by rw [List.size_toArray, hi.length]; exact hl, by simpa using rv⟩)
    by_cases m : b ∈ tb
    · exact ⟨m, (Option.some.inj ((if_pos m).symm.trans z)).symm⟩
    · exact nomatch (if_neg m).symm.trans z
  | none =>
    refine go (fun b => if b ∈ tb then some (.tbl #[]) else if b = a then some (.frz { cls := .type "list", data := .seq vs.toArray } (.lst (ns.map V.int))) else none) (fun b u z => ?_) (fun b m => if_pos m) (.inl (.inr ⟨{ cls := .type "list", data := .seq vs.toArray }, (if_neg nTa).trans (if_pos rfl)⟩))
    by_cases m : b ∈ tb
    · exact .inr ⟨m, (Option.some.inj ((if_pos m).symm.trans z)).symm⟩
    · have z := (if_neg m).symm.trans z
      by_cases hb : b = a
      · exact .inl ⟨hb, hk, (Option.some.inj ((if_pos hb).symm.trans z)).symm⟩
      · exact nomatch (if_neg hb).symm.trans z
theorem walk_ofG {l : PySem.W.OpenLaw} {n k : Nat} {q : Program} {loose : List Str} {XP : (Str → Option Value) → Heap → Prop} {YP : World → Heap → Prop} {d : DefRec} {CX : World → CXT} {x : Str}
    (hn : l.most = some n) (hn2 : n ≤ sizeLine) (hdf : d.params.defaults = []) (hr : Room k callerA)
    (F : ∀ (w : World) (mg : Str → Option Value) (fa : Addr) (h : Heap), YP w h → h.Ns mainGlobals mg → mg d.name = some (.ref fa) →
      ∃ (K : PySem.W.Frag) (fd : FuncData) (sp : Sp) (T : List (Addr × Addr)), K.In h ∧ ((∃ (m : Addr) (o : Obj), mg "__builtins__" = some (.ref m) ∧ m ≠ builtinsNs ∧ h.get? m = some o ∧ o.cls = .type "module" ∧ o.dict = some builtinsNs ∧ o.data = .plain) → TabsAt K mg h T) ∧ (∀ (s : Shared) (u : Value), BindsTo s fd ⟨[u], []⟩ [(x, u)]) ∧
        (∀ (H : Hp) (a : Addr) (ns : List Int), ns.length ≤ n → (∀ p ∈ T, H p.2 = some (.tbl #[])) → SqL K H a (ns.map V.int) → sp [.ref a] H (fun v _ => v = .bl true) fun _ _ _ => False) ∧
        ∀ base : Heap, K.In base → base.Ns mainGlobals mg → (∀ p ∈ T, LamX.TabB base mg p.1 p.2) → FnOk l.prog w K mg base (CX w) k fa fd [x] sp)
    (hCX : ∀ (w : World) (H : Hp) (s : Shared) (e : Value) (s' : Shared), CX w [] H s (fun _ _ _ => False) e s' → False) :
    PySem.W.WalkO q loose XP YP l.row.toRowW d [] (fun f vs => PySem.call f vs) :=
  Att.attach_call hn hdf fun w _ s₁ mg _ fa _ _ _ _ a _ ns G Y _ _ _ hmg hobj hints hlen hg => by
    obtain ⟨K, fd, sp, T, KX, tk, hb, hsp, hF⟩ := F w mg fa _ Y G.T.g hmg
    exact law_run KX G.T.g G.T.b G.T.builtins G.T.nolimit hg (tk G.T.bmain) hobj hints (Nat.le_trans hlen hn2) hr hF hb (fun H hO hS => hsp H a ns hlen hO hS) fun H e s' => hCX w H s₁ e s'
end R
namespace R
open PySem PySem.Spec PyProof.Rows L2
theorem sp_end {K : PySem.W.Frag} {F : Spec1} {H : Hp} {a : Addr} {ns : List Int} {E : XK} (hT : ∀ P q, (lamTab K).lookup P = some q → H P = some (.tbl #[])) (hS : SqL K H a (ns.map .int)) (h : ∀ Q : Rs → Prop, Q (.fz (.bl true)) → F [some (.fz (.rol (ns.map D.int)))] Q) : spR K 1 F.io [.ref a] H (fun v _ => v = .bl true) E := by
  let W : Wd := ⟨fun b => if (lamTab K).lookup b = none then H b else none, fun b => ((lamTab K).lookup b).map fun q => (99, [.str q])⟩
  have rp : ∀ ns : List Int, RepAll K W (ns.map V.int) (ns.map D.int) := fun ns => by
    induction ns with
    | nil => exact .nil
    | cons n ns ih => exact .cons (.int n) ih
  have out : ∀ {o : HO}, H a = some o → (∀ c, o ≠ .tbl c) → W.G a = some o := fun {o} e n => by
    cases q : (lamTab K).lookup a with
    | none => exact (if_pos q).trans e
    | some x => exact absurd (Option.some.inj (e.symm.trans (hT _ _ q))) (n _)
  have hS2 : SqL K W.G a (ns.map .int) := by
    rcases hS with (q | ⟨o, q⟩) | q
    · exact .inl (.inl (out q fun _ z => by cases z))
    · exact .inl (.inr ⟨o, out q fun _ z => by cases z⟩)
    · exact .inr q
  refine ⟨rfl, W, _, [], [], fun r _ => r = .fz (.bl true), .fz (.rol hS2 (rp ns)) .nil, ⟨fun b o e => ?_, ⟨fun b k ps e => ?_, fun P q e => ?_⟩, List.nodup_nil, fun _ m => (by cases m), fun _ m => (by cases m)⟩, h _ rfl, ?_⟩
  · have e : (if (lamTab K).lookup b = none then H b else none) = some o := e
    split at e
    · exact e
    · cases e
  · have e : ((lamTab K).lookup b).map (fun q => (99, [D.str q])) = some (k, ps) := e
    cases q : (lamTab K).lookup b with
    | none => rw [q] at e; cases e
    | some x =>
      rw [q] at e
      cases e
      refine ⟨if_neg (by rw [q]; exact fun z => nomatch z), _, hT _ _ q, .inr ⟨rfl, x, #[], rfl, rfl, trivial, fun pos cv z => ?_⟩⟩
      cases (show none = some cv from z)
  · exact ⟨congrArg (Option.map fun q => (99, [D.str q])) e, #[], hT P q e⟩
  · intro r ss' e v W' H' fp' xf' _ _ _ _ ro
    subst e
    cases ro
    rfl
end R
namespace R
open PySem PySem.Spec PyProof.Rows L2
section
variable {X : Cx} {a b c : Expr} {x : Str} {ma mb mc : DE} {pos : Pos} {mr : DA} {pr : List Nat} {pl : DP}
end
end R
namespace R
open PySem
theorem ent_congr {sz fw sz' fw' : List Nat} : ∀ {c : Nat}, (∀ i, i < c → pk sz i = pk sz' i) → (∀ i, i < c → pk fw i = pk fw' i) → ∀ n, ent sz fw c n = ent sz' fw' c n
  | 0, _, _, _ => rfl
  | c + 1, h1, h2, n => by
    have ih : ent sz fw c = ent sz' fw' c := funext (ent_congr (fun i hi => h1 i (by omega)) fun i hi => h2 i (by omega))
    rw [ent, ent, ih, h1 c (by omega), h2 c (by omega)]
theorem pk_app {l m : List Nat} {i : Nat} (h : i < l.length) : pk (l ++ m) i = pk l i := by
  rw [pk_lt h, pk_lt (by rw [List.length_append]; omega), List.getElem_append_left h]
theorem pk_app2 {l m : List Nat} {i : Nat} (h : i < m.length) : pk (l ++ m) (l.length + i) = pk m i := by
  rw [pk_lt h, pk_lt (by rw [List.length_append]; omega), List.getElem_append_right (by omega)]
  congr 1
  omega
end R
namespace R
open PySem
end R
namespace R
open PySem PySem.Spec PyProof.Rows L2
structure MAtV (K : PySem.W.Frag) (W : Wd) (σ : L2.St) (i : Nat) (js : List Nat) (a : Addr) (k : Nat) (ps : List D) (keys : List Key) : Prop where
  o : σ[i]? = some (some (.ref a))
  s : W.S a = some (k + 1, ps)
  k : VarsAt σ js (keys.map kV)
section
variable {K : PySem.W.Frag} {W W1 W2 W' : Wd} {H H1 H2 H' : Hp} {fp xf : List Addr} {σ σ1 : L2.St} {env : Env} {i k : Nat} {js : List Nat} {a : Addr} {ps : List D} {keys : List Key}
theorem MAtV.keep (M : MAtV K W σ i js a k ps keys) (l : W.Le W') (hi : σ1[i]? = σ[i]?) (hj : ∀ j ∈ js, σ1[j]? = σ[j]?) : MAtV K W' σ1 i js a k ps keys := ⟨by rw [hi]; exact M.o, l.s _ _ M.s, M.k.same hj⟩
end
section
variable {X : Cx} {tg a b c o o1 o3 : Expr} {ma mb mc : DE} {pos p1 : Pos} {ta tb : DT} {st : Stmt} {rest s1 s2 : List Stmt} {m m1 m2 : DS} {pr pr0 : List Nat} {pl : DP} {x f : Str} {es es1 es3 : List Expr} {i : Nat} {js : List Nat}
end
section
variable {X : Cx} {a b : Expr} {ma mb : DE} {pos : Pos} {pr : List Nat} {x y : Str}
end
end R
namespace R
open PySem
def lastN (c : List Nat) : Nat := pk c (c.length - 1)
def tgt (ord : List Nat) (k : Nat) : Nat := ord.idxOf k
def cycLoop (t : Nat → Nat) (i : Nat) : Nat → List Nat → List Nat
  | 0, c => c
  | f + 1, c => if t (lastN c) = i then c else cycLoop t i f (c ++ [t (lastN c)])
def cycleOf (t : Nat → Nat) (n i : Nat) : List Nat := cycLoop t i (n - 1) [i]
def cycs (t : Nat → Nat) (n : Nat) : Nat → List (List Nat)
  | 0 => []
  | i + 1 => if i ∈ (cycs t n i).flatten then cycs t n i else cycs t n i ++ [cycleOf t n i]
structure Tg (t : Nat → Nat) (n : Nat) : Prop where
  lt : ∀ x, x < n → t x < n
  inj : ∀ x y, x < n → y < n → t x = t y → x = y
theorem nodup_pk {c : List Nat} (h : c.Nodup) {i j : Nat} (hi : i < c.length) (hj : j < c.length) (e : pk c i = pk c j) : i = j := by
  rw [pk_lt hi, pk_lt hj] at e
  exact (List.getElem_inj h).mp e
theorem mem_pk {c : List Nat} {x : Nat} (h : x ∈ c) : ∃ j, j < c.length ∧ pk c j = x := by
  obtain ⟨j, hj, e⟩ := List.getElem_of_mem h
  exact ⟨j, hj, by rw [pk_lt hj]; exact e⟩
theorem nodup_le {n : Nat} : ∀ {c : List Nat}, c.Nodup → (∀ x ∈ c, x < n) → c.length ≤ n := by
  induction n with
  | zero =>
    intro c _ h
    cases c with
    | nil => exact Nat.le_refl _
    | cons x c => exact absurd (h x List.mem_cons_self) (Nat.not_lt_zero _)
  | succ n ih =>
    intro c nd h
    have h1 := ih (c := c.erase n) (nd.erase n) fun x m => by
      obtain ⟨a, b⟩ := nd.mem_erase_iff.mp m
      have := h x b
      omega
    by_cases m : n ∈ c
    · have := List.length_erase_of_mem m
      omega
    · rw [List.erase_of_not_mem m] at h1
      omega
theorem perm_range : ∀ {n : Nat} {c : List Nat}, c.Nodup → (∀ x, x ∈ c ↔ x < n) → c.Perm (List.range n)
  | 0, c, _, h => by
    cases c with
    | nil => exact .refl _
    | cons x c => exact absurd ((h x).mp List.mem_cons_self) (Nat.not_lt_zero _)
  | n + 1, c, nd, h => by
    have ih := perm_range (n := n) (c := c.erase n) (nd.erase n) fun x => by
      rw [nd.mem_erase_iff, h x]
      omega
    refine (List.perm_cons_erase ((h n).mpr (Nat.lt_succ_self n))).trans ((ih.cons n).trans ?_)
    rw [List.range_succ]
    exact (List.perm_append_comm (l₁ := [n]) (l₂ := List.range n))
theorem tgt_spec {ord : List Nat} {k : Nat} (h : k ∈ ord) : tgt ord k < ord.length ∧ pk ord (tgt ord k) = k := by
  have h1 : ord.idxOf k < ord.length := List.idxOf_lt_length_iff.mpr h
  exact ⟨h1, by rw [tgt, pk_lt h1]; exact List.getElem_idxOf h1⟩
theorem tgt_tg {ord : List Nat} (p : ord.Perm (List.range ord.length)) : Tg (tgt ord) ord.length := by
  have mem : ∀ x, x < ord.length → x ∈ ord := fun x h => p.mem_iff.mpr (List.mem_range.mpr h)
  refine ⟨fun x h => (tgt_spec (mem x h)).1, fun x y hx hy e => ?_⟩
  rw [← (tgt_spec (mem x hx)).2, ← (tgt_spec (mem y hy)).2, e]
structure Orb (t : Nat → Nat) (n i : Nat) (c : List Nat) : Prop where
  h0 : 0 < c.length
  hd : pk c 0 = i
  nx : ∀ j, j + 1 < c.length → pk c (j + 1) = t (pk c j)
  nd : c.Nodup
  lt : ∀ x ∈ c, x < n
section
variable {t : Nat → Nat} {n i : Nat} {c : List Nat}
theorem Orb.start (h : i < n) : Orb t n i [i] := ⟨by simp, rfl, fun j hj => by simp at hj, by simp, fun x m => by rw [List.mem_singleton.mp m]; exact h⟩
theorem Orb.len (o : Orb t n i c) : c.length ≤ n := nodup_le o.nd o.lt
theorem Orb.last (o : Orb t n i c) : lastN c ∈ c := pk_mem (by have := o.h0; omega)
theorem Orb.fresh (T : Tg t n) (o : Orb t n i c) (h : t (lastN c) ≠ i) : t (lastN c) ∉ c := by
  intro m
  obtain ⟨j, hj, e⟩ := mem_pk m
  cases j with
  | zero => exact h (by rw [← e]; exact o.hd)
  | succ j =>
    rw [o.nx j hj] at e
    have e2 := T.inj _ _ (o.lt _ (pk_mem (by omega))) (o.lt _ o.last) e
    have h0 := o.h0
    have := nodup_pk o.nd (by omega) (by omega) e2
    omega
theorem Orb.step (T : Tg t n) (o : Orb t n i c) (h : t (lastN c) ≠ i) : Orb t n i (c ++ [t (lastN c)]) := by
  have f := o.fresh T h
  have h0 := o.h0
  refine ⟨by rw [List.length_append]; omega, by rw [pk_app h0]; exact o.hd, fun j hj => ?_, ?_, fun x m => ?_⟩
  · rw [List.length_append, List.length_singleton] at hj
    by_cases q : j + 1 < c.length
    · rw [pk_app q, pk_app (by omega)]
      exact o.nx j q
    · have e : j + 1 = c.length + 0 := by omega
      rw [e, pk_app2 (by simp), pk_app (by omega), show j = c.length - 1 by omega] <;> rfl
  · rw [List.nodup_append]
    exact ⟨o.nd, by simp, fun a m b m2 e => f (by rw [← List.mem_singleton.mp m2, ← e]; exact m)⟩
  · rcases List.mem_append.mp m with m | m
    · exact o.lt x m
    · rw [List.mem_singleton.mp m]
      exact T.lt _ (o.lt _ o.last)
structure Cyc (t : Nat → Nat) (n i : Nat) (c : List Nat) : Prop extends Orb t n i c where
  ls : t (lastN c) = i
theorem cycLoop_cyc (T : Tg t n) : ∀ {f : Nat} {c : List Nat}, Orb t n i c → c.length + f = n → Cyc t n i (cycLoop t i f c)
  | 0, c, o, h => by
    refine ⟨o, ?_⟩
    by_cases q : t (lastN c) = i
    · exact q
    · have := (o.step T q).len
      rw [List.length_append, List.length_singleton] at this
      omega
  | f + 1, c, o, h => by
    rw [cycLoop]
    by_cases q : t (lastN c) = i
    · rw [if_pos q]
      exact ⟨o, q⟩
    · rw [if_neg q]
      exact cycLoop_cyc T (o.step T q) (by rw [List.length_append, List.length_singleton]; omega)
theorem cycleOf_cyc (T : Tg t n) (h : i < n) : Cyc t n i (cycleOf t n i) := cycLoop_cyc T (.start h) (by simp; omega)
theorem Cyc.cl (o : Cyc t n i c) {x : Nat} (m : x ∈ c) : t x ∈ c := by
  obtain ⟨j, hj, rfl⟩ := mem_pk m
  by_cases q : j + 1 < c.length
  · rw [← o.nx j q]
    exact pk_mem q
  · have e : j = c.length - 1 := by omega
    have := o.ls
    rw [e]
    show t (lastN c) ∈ c
    rw [this, ← o.hd]
    exact pk_mem o.h0
theorem Cyc.back (T : Tg t n) (o : Cyc t n i c) {x : Nat} (hx : x < n) (m : t x ∈ c) : x ∈ c := by
  obtain ⟨j, hj, e⟩ := mem_pk m
  cases j with
  | zero =>
    rw [o.hd, ← o.ls] at e
    have := T.inj _ _ (o.lt _ o.last) hx e
    rw [← this]
    exact o.last
  | succ j =>
    rw [o.nx j hj] at e
    have := T.inj _ _ (o.lt _ (pk_mem (by omega))) hx e
    rw [← this]
    exact pk_mem (by omega)
theorem Orb.off {S : List Nat} (back : ∀ x, x < n → t x ∈ S → x ∈ S) (o : Orb t n i c) (h : i ∉ S) : ∀ x ∈ c, x ∉ S := by
  have key : ∀ j, j < c.length → pk c j ∉ S := by
    intro j
    induction j with
    | zero => intro _; rw [o.hd]; exact h
    | succ j ih =>
      intro hj m
      rw [o.nx j hj] at m
      exact ih (by omega) (back _ (o.lt _ (pk_mem (by omega))) m)
  intro x m
  obtain ⟨j, hj, rfl⟩ := mem_pk m
  exact key j hj
structure CS (t : Nat → Nat) (n i : Nat) (cs : List (List Nat)) : Prop where
  all : ∀ c ∈ cs, ∃ j, j < i ∧ Cyc t n j c ∧ ∀ x ∈ c, j ≤ x
  nd : cs.flatten.Nodup
  cov : ∀ x, x < i → x ∈ cs.flatten
  st : (cs.map fun c => pk c 0).Pairwise (· < ·)
theorem CS.lt {cs : List (List Nat)} (s : CS t n i cs) {x : Nat} (m : x ∈ cs.flatten) : x < n := by
  obtain ⟨c, hc, mx⟩ := List.mem_flatten.mp m
  obtain ⟨j, _, o, _⟩ := s.all c hc
  exact o.lt x mx
theorem CS.back (T : Tg t n) {cs : List (List Nat)} (s : CS t n i cs) {x : Nat} (hx : x < n) (m : t x ∈ cs.flatten) : x ∈ cs.flatten := by
  obtain ⟨c, hc, mx⟩ := List.mem_flatten.mp m
  obtain ⟨j, _, o, _⟩ := s.all c hc
  exact List.mem_flatten.mpr ⟨c, hc, o.back T hx mx⟩
theorem cycs_ok (T : Tg t n) : ∀ {i : Nat}, i ≤ n → CS t n i (cycs t n i)
  | 0, _ => ⟨fun c m => (by cases m), (by simp [cycs]), fun x h => absurd h (Nat.not_lt_zero _), (by simp [cycs])⟩
  | i + 1, h => by
    have s := cycs_ok T (i := i) (by omega)
    rw [cycs]
    split
    · rename_i m
      refine ⟨fun c hc => ?_, s.nd, fun x hx => ?_, s.st⟩
      · obtain ⟨j, a, b⟩ := s.all c hc
        exact ⟨j, by omega, b⟩
      · by_cases q : x = i
        · rw [q]; exact m
        · exact s.cov x (by omega)
    · rename_i m
      have o := cycleOf_cyc T (show i < n by omega)
      have off := o.toOrb.off (fun x hx => s.back T hx) m
      refine ⟨fun c hc => ?_, ?_, fun x hx => ?_, ?_⟩
      · rcases List.mem_append.mp hc with hc | hc
        · obtain ⟨j, a, b⟩ := s.all c hc
          exact ⟨j, by omega, b⟩
        · rw [List.mem_singleton.mp hc]
          refine ⟨i, by omega, o, fun x mx => ?_⟩
          have := off x mx
          apply Classical.byContradiction
          intro q
          exact this (s.cov x (by omega))
      · rw [List.flatten_append, List.nodup_append]
        refine ⟨s.nd, by simpa using o.nd, fun a ma b mb e => ?_⟩
        rw [List.flatten_singleton] at mb
        exact off b mb (by rw [← e]; exact ma)
      · rw [List.flatten_append, List.flatten_singleton, List.mem_append]
        by_cases q : x = i
        · right
          have w := pk_mem o.h0
          rw [o.hd] at w
          rw [q]
          exact w
        · left
          exact s.cov x (by omega)
      · rw [List.map_append, List.pairwise_append]
        refine ⟨s.st, by simp, fun a ma b mb => ?_⟩
        obtain ⟨c, hc, rfl⟩ := List.mem_map.mp ma
        obtain ⟨j, hj, oc, _⟩ := s.all c hc
        have : b = i := by
          simp at mb
          rw [mb]
          exact o.hd
        show pk c 0 < b
        rw [this, oc.hd]
        exact hj
theorem cycs_perm (T : Tg t n) : (cycs t n n).flatten.Perm (List.range n) := by
  have s := cycs_ok T (Nat.le_refl n)
  exact perm_range s.nd fun x => ⟨s.lt, s.cov x⟩
end
def lcmL (ks : List Nat) : Nat := ks.foldl Nat.lcm 1
theorem lcmL_pos {ks : List Nat} (h : ∀ k ∈ ks, 1 ≤ k) : 1 ≤ lcmL ks := by
  have key : ∀ (ks : List Nat) (a : Nat), 1 ≤ a → (∀ k ∈ ks, 1 ≤ k) → 1 ≤ ks.foldl Nat.lcm a := by
    intro ks
    induction ks with
    | nil => intro a h _; exact h
    | cons k ks ih => intro a h hk; exact ih _ (Nat.lcm_pos h (hk k List.mem_cons_self)) fun x m => hk x (List.mem_cons_of_mem _ m)
  exact key ks 1 (Nat.le_refl _) h
theorem le_two_pow : ∀ {k : Nat}, 1 ≤ k → k ≤ 2 ^ (k - 1)
  | 1, _ => by decide
  | k + 2, _ => by
    have := le_two_pow (k := k + 1) (by omega)
    have e : k + 2 - 1 = (k + 1 - 1) + 1 := by omega
    rw [e, Nat.pow_succ]
    omega
theorem prodL_le {sz : List Nat} (h : ∀ s ∈ sz, 1 ≤ s) : 1 ≤ prodL sz ∧ prodL sz ≤ 2 ^ (sz.sum - sz.length) := by
  have key : ∀ (sz : List Nat) (a e : Nat), 1 ≤ a → a ≤ 2 ^ e → (∀ k ∈ sz, 1 ≤ k) → 1 ≤ sz.foldl (· * ·) a ∧ sz.foldl (· * ·) a ≤ 2 ^ (e + (sz.sum - sz.length)) ∧ sz.length ≤ sz.sum := by
    intro sz
    induction sz with
    | nil => intro a e h0 h _; exact ⟨h0, by simpa using h, Nat.le_refl _⟩
    | cons k sz ih =>
      intro a e h0 h hk
      have h1 := hk k List.mem_cons_self
      have q2 := le_two_pow h1
      have q4 : a * k ≤ 2 ^ (e + (k - 1)) := by rw [Nat.pow_add]; exact Nat.mul_le_mul h q2
      obtain ⟨a1, a2, a3⟩ := ih (a * k) (e + (k - 1)) (Nat.mul_pos h0 h1) q4 fun x m => hk x (List.mem_cons_of_mem _ m)
      refine ⟨a1, ?_, by rw [List.length_cons, List.sum_cons]; omega⟩
      rw [List.sum_cons, List.length_cons]
      have e1 : e + (k - 1) + (sz.sum - sz.length) = e + (k + sz.sum - (sz.length + 1)) := by omega
      rw [← e1]
      exact a2
  obtain ⟨a, b, _⟩ := key sz 1 0 (Nat.le_refl _) (by decide) h
  rw [Nat.zero_add] at b
  exact ⟨a, b⟩
end R
namespace R
open PySem
def rnd (sz fw : List Nat) (n : Nat) : List Nat := (fil sz fw fw.length n).2 ++ (fil sz fw fw.length n).1
theorem rnd_perm {sz fw : List Nat} {n : Nat} (C : Cups sz fw fw.length) (hl : fw.length < sz.length) (hs : 1 ≤ pk sz fw.length) (h : least sz (fw.length + 1) ≤ n) : (rnd sz fw n).Perm (List.range n) := by
  rw [least_succ hl] at h
  have hl1 : 1 ≤ least sz fw.length := by unfold least; omega
  obtain ⟨a, _⟩ := fillN_perm (e := ent sz fw fw.length) (pk sz fw.length) ([], List.range n) (fun k hk => by
    show Pm (ent sz fw fw.length ((List.range n).length - k)) ((List.range n).length - k)
    rw [List.length_range]
    exact ent_perm C (by omega)) (by show pk sz fw.length ≤ (List.range n).length; rw [List.length_range]; omega)
  have a : ((fil sz fw fw.length n).1 ++ (fil sz fw fw.length n).2).Perm (List.range n) := a
  exact List.perm_append_comm.trans a
theorem Tg.of_perm {ord : List Nat} {n : Nat} (p : ord.Perm (List.range n)) : Tg (tgt ord) n := by
  have e : ord.length = n := by rw [p.length_eq, List.length_range]
  subst e
  exact tgt_tg p
structure CyOk (n : Nat) (cs : List (List Nat)) : Prop where
  len : cs.length ≤ n
  one : ∀ c ∈ cs, 1 ≤ c.length ∧ c.length ≤ n
  sum : (cs.map List.length).sum = n
  st : (cs.map fun c => pk c 0).Pairwise (· < ·)
theorem cycs_cyOk {t : Nat → Nat} {n : Nat} (T : Tg t n) : CyOk n (cycs t n n) := by
  have s := cycs_ok T (Nat.le_refl n)
  have p := cycs_perm T
  refine ⟨?_, fun c hc => ?_, ?_, s.st⟩
  · have nd : ((cycs t n n).map fun c => pk c 0).Nodup := List.nodup_iff_pairwise_ne.mpr (s.st.imp fun h => by omega)
    have := nodup_le (n := n) nd fun x m => by
      obtain ⟨c, hc, rfl⟩ := List.mem_map.mp m
      obtain ⟨j, _, o, _⟩ := s.all c hc
      exact o.lt _ (pk_mem o.h0)
    rw [List.length_map] at this
    exact this
  · obtain ⟨j, _, o, _⟩ := s.all c hc
    exact ⟨o.h0, o.len⟩
  · have := p.length_eq
    rw [List.length_flatten, List.length_range] at this
    exact this
end R
namespace R
open PySem PySem.Spec PyProof.Rows L2
section
variable {X : Cx} {tg a b c : Expr} {ma mb mc mk : DE} {pos : Pos} {ta tb : DT} {st : Stmt} {rest s1 s2 : List Stmt} {m m1 m2 : DS} {pr : List Nat} {pl : DP} {x y : Str} {C : Addr} {es : List Expr}
end
end R
namespace R
open PySem
def csc : List Nat → List Nat → List (List Nat) → Nat → List Nat → List (List Nat) × List Nat
  | [s], _, c :: cs, m, q => if c.length + 1 < s then ((c ++ [m]) :: cs, q) else ([] :: cs, q ++ (c ++ [m]))
  | s :: s2 :: ss, fw, c :: cs, m, q => if c.length + 1 < s then ((c ++ [m]) :: cs, q) else
      ([] :: (csc (s2 :: ss) (fw.drop 1) cs (pk (c ++ [m]) (pk fw 0)) (q ++ (c ++ [m]).eraseIdx (pk fw 0))).1, (csc (s2 :: ss) (fw.drop 1) cs (pk (c ++ [m]) (pk fw 0)) (q ++ (c ++ [m]).eraseIdx (pk fw 0))).2)
  | _, _, cs, _, q => (cs, q)
inductive Val : List Nat → List (List Nat) → Prop where
  | nil : Val [] []
  | cons {s : Nat} {ss : List Nat} {c : List Nat} {cs : List (List Nat)} : c.length < s → Val ss cs → Val (s :: ss) (c :: cs)
def ctr : List Nat → List (List Nat) → Nat
  | s :: ss, c :: cs => c.length + s * ctr ss cs
  | _, _ => 0
def prR : List Nat → Nat
  | [] => 1
  | s :: ss => s * prR ss
theorem prR_eq (sz : List Nat) : prodL sz = prR sz := by
  have key : ∀ (sz : List Nat) (a : Nat), sz.foldl (· * ·) a = a * prR sz := by
    intro sz
    induction sz with
    | nil => intro a; simp [prR]
    | cons s ss ih => intro a; rw [List.foldl_cons, ih, prR, Nat.mul_assoc]
  unfold prodL
  rw [key, Nat.one_mul]
theorem ctr_lt : ∀ {sz : List Nat} {cs : List (List Nat)}, Val sz cs → ctr sz cs < prR sz
  | _, _, .nil => by simp [ctr, prR]
  | _, _, .cons (s := s) (ss := ss) (cs := cs) h v => by
    have ih := ctr_lt v
    rw [ctr, prR]
    have : s * (ctr ss cs + 1) ≤ s * prR ss := Nat.mul_le_mul_left s ih
    rw [Nat.mul_succ] at this
    omega
theorem csc_ctr : ∀ {sz fw : List Nat} {cs : List (List Nat)} {m : Nat} {q : List Nat}, sz ≠ [] → Val sz cs → Val sz (csc sz fw cs m q).1 ∧ ctr sz (csc sz fw cs m q).1 = if ctr sz cs + 1 < prR sz then ctr sz cs + 1 else 0
  | [], _, _, _, _, h, _ => absurd rfl h
  | [s], fw, _, m, q, _, .cons (c := c) (cs := cs) h v => by
    cases v
    rw [csc]
    by_cases k : c.length + 1 < s
    · rw [if_pos k]
      refine ⟨.cons (by simpa using k) .nil, ?_⟩
      simp [ctr, prR, k]
    · rw [if_neg k]
      refine ⟨.cons (by simp; omega) .nil, ?_⟩
      simp [ctr, prR, k]
  | s :: s2 :: ss, fw, _, m, q, _, .cons (c := c) (cs := cs) h v => by
    rw [csc]
    obtain ⟨v2, e2⟩ := csc_ctr (sz := s2 :: ss) (fw := fw.drop 1) (cs := cs) (m := pk (c ++ [m]) (pk fw 0)) (q := q ++ (c ++ [m]).eraseIdx (pk fw 0)) (by simp) v
    have lt := ctr_lt v
    by_cases k : c.length + 1 < s
    · rw [if_pos k]
      refine ⟨.cons (by simpa using k) v, ?_⟩
      have : s * (ctr (s2 :: ss) cs + 1) ≤ s * prR (s2 :: ss) := Nat.mul_le_mul_left s lt
      rw [Nat.mul_succ] at this
      rw [ctr, ctr, prR, List.length_append, List.length_singleton, if_pos (by omega)]
      omega
    · rw [if_neg k]
      refine ⟨.cons (by show 0 < s; omega) v2, ?_⟩
      have hs : c.length + 1 = s := by omega
      show 0 + s * ctr (s2 :: ss) _ = _
      have e4 : ctr (s :: s2 :: ss) (c :: cs) = c.length + s * ctr (s2 :: ss) cs := rfl
      have e5 : prR (s :: s2 :: ss) = s * prR (s2 :: ss) := rfl
      rw [e2, e4, e5]
      have e3 : c.length + s * ctr (s2 :: ss) cs + 1 = s * (ctr (s2 :: ss) cs + 1) := by rw [Nat.mul_succ]; omega
      rw [e3]
      by_cases z : ctr (s2 :: ss) cs + 1 < prR (s2 :: ss)
      · rw [if_pos z, if_pos (Nat.mul_lt_mul_of_pos_left z (by omega)), Nat.zero_add]
      · rw [if_neg z, if_neg (by
          intro y
          exact z (Nat.lt_of_mul_lt_mul_left y)), Nat.mul_zero]
def totM (cs : List (List Nat)) : Nat := (cs.map List.length).sum
theorem ctr_zero : ∀ {sz : List Nat} {cs : List (List Nat)}, Val sz cs → (ctr sz cs = 0 ↔ totM cs = 0)
  | _, _, .nil => by simp [ctr, totM]
  | _, _, .cons (s := s) (ss := ss) (c := c) (cs := cs) h v => by
    have ih := ctr_zero v
    show (c.length + s * ctr ss cs = 0) ↔ ((c :: cs).map List.length).sum = 0
    rw [List.map_cons, List.sum_cons]
    show _ ↔ c.length + totM cs = 0
    constructor
    · intro e
      have h0 : c.length = 0 := by omega
      have h1 : s * ctr ss cs = 0 := by omega
      rcases Nat.mul_eq_zero.mp h1 with z | z
      · omega
      · have := ih.mp z
        omega
    · intro e
      have h0 : c.length = 0 := by omega
      have := ih.mpr (by omega)
      rw [this, h0, Nat.mul_zero]
theorem tot_zero : ∀ {cs : List (List Nat)}, totM cs = 0 → cs = List.replicate cs.length []
  | [], _ => rfl
  | c :: cs, h => by
    have h : c.length + totM cs = 0 := h
    rw [List.length_cons, List.replicate_succ, ← tot_zero (cs := cs) (by omega), List.eq_nil_of_length_eq_zero (l := c) (by omega)]
theorem val_len {sz : List Nat} {cs : List (List Nat)} (v : Val sz cs) : cs.length = sz.length := by
  induction v with
  | nil => rfl
  | cons _ _ ih => rw [List.length_cons, List.length_cons, ih]
theorem val_nil : ∀ {sz : List Nat}, (∀ s ∈ sz, 1 ≤ s) → Val sz (List.replicate sz.length [])
  | [], _ => .nil
  | s :: ss, h => .cons (h s List.mem_cons_self) (val_nil fun x m => h x (List.mem_cons_of_mem _ m))
theorem csc_tot : ∀ {sz fw : List Nat} {cs : List (List Nat)} {m : Nat} {q : List Nat}, sz ≠ [] → fw.length + 1 = sz.length → (∀ i, i < fw.length → pk fw i < pk sz i) → Val sz cs → (csc sz fw cs m q).2.length + totM (csc sz fw cs m q).1 = q.length + totM cs + 1
  | [], _, _, _, _, h, _, _, _ => absurd rfl h
  | [s], fw, _, m, q, _, _, _, .cons (c := c) (cs := cs) h v => by
    cases v
    rw [csc]
    split
    · simp [totM]; omega
    · simp [totM]; omega
  | s :: s2 :: ss, fw, _, m, q, _, hf, hi, .cons (c := c) (cs := cs) h v => by
    rw [csc]
    have ih := csc_tot (sz := s2 :: ss) (fw := fw.drop 1) (cs := cs) (m := pk (c ++ [m]) (pk fw 0)) (q := q ++ (c ++ [m]).eraseIdx (pk fw 0)) (by simp) (by rw [List.length_drop]; simp at hf ⊢; omega) (fun i h => by
      rw [List.length_drop] at h
      have := hi (i + 1) (by omega)
      have e1 : pk (fw.drop 1) i = pk fw (i + 1) := by
        rw [pk_lt (by rw [List.length_drop]; omega), pk_lt (by omega), List.getElem_drop]
        congr 1
        omega
      rw [e1]
      exact this) v
    have h0 := hi 0 (by simp at hf; omega)
    have h0 : pk fw 0 < s := h0
    split
    · simp [totM]; omega
    · rename_i k
      have e : ∀ x : List (List Nat), totM ([] :: x) = totM x := fun x => by simp [totM]
      show (csc (s2 :: ss) _ _ _ _).2.length + totM ([] :: (csc (s2 :: ss) _ _ _ _).1) = _
      rw [e, ih, List.length_append, List.length_eraseIdx, List.length_append, List.length_singleton, if_pos (by omega)]
      show _ = q.length + (c.length + totM cs) + 1
      omega
theorem csc_casc : ∀ {sz fw : List Nat} {cs : List (List Nat)} {m : Nat} {q : List Nat}, sz ≠ [] → fw.length + 1 = sz.length → Val sz cs →
    ((casc sz (fw ++ [0]) cs m q).2.2 = none → csc sz fw cs m q = ((casc sz (fw ++ [0]) cs m q).1, (casc sz (fw ++ [0]) cs m q).2.1)) ∧
    ∀ m', (casc sz (fw ++ [0]) cs m q).2.2 = some m' → ∃ A row, row.length = pk sz fw.length ∧ m' = pk row 0 ∧ (casc sz (fw ++ [0]) cs m q).2.1 = A ++ row.eraseIdx 0 ∧ csc sz fw cs m q = ((casc sz (fw ++ [0]) cs m q).1, A ++ row)
  | [], _, _, _, _, h, _, _ => absurd rfl h
  | [s], fw, _, m, q, _, hf, .cons (c := c) (cs := cs) h v => by
    cases v
    have : fw = [] := List.eq_nil_of_length_eq_zero (by simpa using hf)
    subst this
    show ((casc [s] [0] [c] m q).2.2 = none → _) ∧ ∀ m', (casc [s] [0] [c] m q).2.2 = some m' → _
    rw [List.nil_append, casc, csc]
    by_cases k : c.length + 1 = s
    · rw [if_pos k, if_neg (by omega)]
      refine ⟨fun e => ?_, fun m' e => ⟨q, c ++ [m], ?_, ?_, ?_, ?_⟩⟩
      · cases e
      · rw [List.length_append, List.length_singleton, k] <;> rfl
      · cases e; rfl
      · rfl
      · rfl
    · rw [if_neg k, if_pos (by omega)]
      exact ⟨fun _ => rfl, fun m' e => by cases e⟩
  | s :: s2 :: ss, fw, _, m, q, _, hf, .cons (c := c) (cs := cs) h v => by
    obtain ⟨f, fw, rfl⟩ : ∃ f fw', fw = f :: fw' := by
      cases fw with
      | nil => simp at hf
      | cons f fw => exact ⟨f, fw, rfl⟩
    obtain ⟨i1, i2⟩ := csc_casc (sz := s2 :: ss) (fw := fw) (cs := cs) (m := pk (c ++ [m]) f) (q := q ++ (c ++ [m]).eraseIdx f) (by simp) (by simpa using hf) v
    show ((casc (s :: s2 :: ss) (f :: (fw ++ [0])) (c :: cs) m q).2.2 = none → _ = ((casc (s :: s2 :: ss) (f :: (fw ++ [0])) (c :: cs) m q).1, _)) ∧ ∀ m', (casc (s :: s2 :: ss) (f :: (fw ++ [0])) (c :: cs) m q).2.2 = some m' → _
    rw [List.cons_append, casc, csc]
    by_cases k : c.length + 1 = s
    · rw [if_pos k, if_neg (by omega)]
      refine ⟨fun e => ?_, fun m' e => ?_⟩
      · have := i1 e
        show ([] :: (csc (s2 :: ss) fw cs (pk (c ++ [m]) f) (q ++ (c ++ [m]).eraseIdx f)).1, (csc (s2 :: ss) fw cs (pk (c ++ [m]) f) (q ++ (c ++ [m]).eraseIdx f)).2) = _
        rw [this]
      · obtain ⟨A, row, a, b, d, g⟩ := i2 m' e
        refine ⟨A, row, a, b, d, ?_⟩
        show ([] :: (csc (s2 :: ss) fw cs (pk (c ++ [m]) f) (q ++ (c ++ [m]).eraseIdx f)).1, (csc (s2 :: ss) fw cs (pk (c ++ [m]) f) (q ++ (c ++ [m]).eraseIdx f)).2) = _
        rw [g]
    · rw [if_neg k, if_pos (by omega)]
      exact ⟨fun _ => rfl, fun m' e => by cases e⟩
theorem round_end {sz fw : List Nat} {q : List Nat} (hl : fw.length + 1 = sz.length) (hs : ∀ i, i < sz.length → 1 ≤ pk sz i) (hi : ∀ i, i < fw.length → pk fw i < pk sz i) (hq : least sz sz.length ≤ q.length) :
    Run sz (fw ++ [0]) (prodL sz) (List.replicate sz.length []) q (pk q (ent sz (fw ++ [0]) sz.length q.length).1) ((ent sz (fw ++ [0]) sz.length q.length).2.map (pk q)) ∧
    ∀ A row, row.length = pk sz fw.length → pk q (ent sz (fw ++ [0]) sz.length q.length).1 = pk row 0 → (ent sz (fw ++ [0]) sz.length q.length).2.map (pk q) = A ++ row.eraseIdx 0 → A ++ row = (rnd sz fw q.length).map (pk q) := by
  have C : Cups sz (fw ++ [0]) sz.length := ⟨Nat.le_refl _, hs, fun i h => by
    by_cases k : i < fw.length
    · rw [pk_app k]; exact hi i k
    · have e : i = fw.length + 0 := by omega
      rw [e, pk_app2 (by simp)]
      exact hs _ (by omega)⟩
  have r := run_block (sz := sz) (fw := fw ++ [0]) C (by rw [List.length_append, List.length_singleton]; omega) hq
  rw [List.take_length, List.take_of_length_le (by rw [List.length_append, List.length_singleton]; omega)] at r
  refine ⟨r, fun A row h1 h2 h3 => ?_⟩
  have e1 : sz.length = fw.length + 1 := by omega
  have ec : ∀ n, ent sz (fw ++ [0]) fw.length n = ent sz fw fw.length n := fun n => ent_congr (fun _ _ => rfl) (fun i h => pk_app h) n
  have ef : fil sz (fw ++ [0]) fw.length q.length = fil sz fw fw.length q.length := by
    unfold fil
    rw [show ent sz (fw ++ [0]) fw.length = ent sz fw fw.length from funext ec]
  have p0 : pk (fw ++ [0]) fw.length = 0 := by
    have := pk_app2 (l := fw) (m := [0]) (i := 0) (by simp)
    rw [Nat.add_zero] at this
    rw [this] <;> rfl
  have ee : ent sz (fw ++ [0]) sz.length q.length = (pk (fil sz fw fw.length q.length).1 0, (fil sz fw fw.length q.length).2 ++ (fil sz fw fw.length q.length).1.eraseIdx 0) := by
    rw [e1]
    show (pk (fil sz (fw ++ [0]) fw.length q.length).1 (pk (fw ++ [0]) fw.length), (fil sz (fw ++ [0]) fw.length q.length).2 ++ (fil sz (fw ++ [0]) fw.length q.length).1.eraseIdx (pk (fw ++ [0]) fw.length)) = _
    rw [ef, p0]
  have hfl : (fil sz fw fw.length q.length).1.length = pk sz fw.length := by
    have C2 : Cups sz fw fw.length := ⟨by omega, fun i h => hs i (by omega), hi⟩
    have hq2 := hq
    rw [e1, least_succ (by omega)] at hq2
    have hl1 : 1 ≤ least sz fw.length := by unfold least; omega
    have := (fillN_perm (e := ent sz fw fw.length) (pk sz fw.length) ([], List.range q.length) (fun k hk => by
      show Pm (ent sz fw fw.length ((List.range q.length).length - k)) ((List.range q.length).length - k)
      rw [List.length_range]
      exact ent_perm C2 (by omega)) (by show pk sz fw.length ≤ (List.range q.length).length; rw [List.length_range]; omega)).2
    have b : (fil sz fw fw.length q.length).1.length = 0 + pk sz fw.length := this
    omega
  rw [ee] at h2 h3
  generalize hI : (fil sz fw fw.length q.length).1 = I at *
  generalize hRr : (fil sz fw fw.length q.length).2 = Rr at *
  have hs0 := hs fw.length (by omega)
  cases I with
  | nil => simp at hfl; omega
  | cons a I =>
    cases row with
    | nil => simp at h1; omega
    | cons b row =>
      have h2 : pk q a = b := h2
      have h3 : (Rr ++ I).map (pk q) = A ++ row := h3
      rw [List.map_append] at h3
      have hlen : (I.map (pk q)).length = row.length := by
        rw [List.length_map]
        simp at hfl h1
        omega
      obtain ⟨x1, x2⟩ := List.append_inj' h3 hlen
      unfold rnd
      rw [hI, hRr, List.map_append, List.map_cons, x1, x2, h2]
end R
namespace R
open PySem PySem.Spec PyProof.Rows L2
abbrev DX := Env → (Rs → Env → Prop) → Prop
section
variable {K : PySem.W.Frag} {W W1 W2 W' : Wd} {H H1 H2 H' : Hp} {f f1 fp fp1 fp2 xf xf1 xf2 : List Addr} {σ σ1 σ2 : L2.St} {Q : VK} {r : Rs} {v : V} {env env1 env2 : Env}
end
section
variable {X : Cx} {CX : CXT} {k n : Nat} {f : Addr} {fd : FuncData} {ps : List Str} {F0 : Spec} {dvs : List V} {dv : List D} {ds : List Value} {E : XK} {x nm : Str} {p pos apos : Pos} {e a : Expr} {es : List Expr} {ma : DA} {ta : DT} {pr : List Nat} {is : List Nat} {m m1 m2 : DS} {mx : DX} {s1 s2 : List Stmt} {i : Nat}
structure CalIO (P : Program) (w : World) (K : PySem.W.Frag) (mg : Str → Option Value) (base : Heap) (x : Str) (n : Nat) (F : Spec) (dv : List D) (k : Nat) : Prop where
  ex : ∃ (f : Addr) (fd : FuncData) (ps : List Str) (ds : List Value) (dvs : List V), FnOk P w K mg base CX0 k f fd ps (spR K n F) ∧ mg x = some (.ref f) ∧ PySem.W.keepIn K (.ref f) = true ∧ Binds K fd ps ds ∧ Vals dvs ds ∧ ∀ W, RepAll K W dvs dv
end
end R
namespace R
open PySem PySem.Spec PyProof.Rows L2
section
variable {prog : Program} {w : World} {A : Around}
end
end R
namespace R
open PySem PySem.Spec PyProof.Rows L2
section
variable {X : Cx} {tg a b c : Expr} {x y : Str} {ma mb mc : DE} {pos : Pos} {mr : DA} {pr : List Nat} {pl : DP}
theorem RepAll.rev {K : PySem.W.Frag} {W : Wd} : ∀ {vs : List V} {ds : List D}, RepAll K W vs ds → RepAll K W vs.reverse ds.reverse
  | _, _, .nil => .nil
  | _, _, .cons q r => by
    rw [List.reverse_cons, List.reverse_cons]
    exact RepAll.app (RepAll.rev r) (.cons q .nil)
end
end R
namespace R
open PySem
def memb (q : List Nat) (cs : List (List Nat)) : List Nat := q ++ cs.flatten
theorem perm_erase {l : List Nat} {i : Nat} (h : i < l.length) : (l.eraseIdx i ++ [pk l i]).Perm l := by
  rw [pk_lt h, List.eraseIdx_eq_take_drop_succ, List.append_assoc]
  have e : l = l.take i ++ ([l[i]] ++ l.drop (i + 1)) := by
    rw [List.singleton_append, ← List.drop_eq_getElem_cons h, List.take_append_drop]
  exact (List.perm_append_comm.append_left (l.take i)).trans (.of_eq e.symm)
theorem csc_perm : ∀ {sz fw : List Nat} {cs : List (List Nat)} {m : Nat} {q : List Nat}, sz ≠ [] → fw.length + 1 = sz.length → (∀ i, i < fw.length → pk fw i < pk sz i) → Val sz cs → (memb (csc sz fw cs m q).2 (csc sz fw cs m q).1).Perm (m :: memb q cs)
  | [], _, _, _, _, h, _, _, _ => absurd rfl h
  | [s], fw, _, m, q, _, _, _, .cons (c := c) (cs := cs) h v => by
    cases v
    rw [csc]
    split
    · show (q ++ ((c ++ [m]) ++ [])).Perm (m :: (q ++ (c ++ [])))
      rw [List.append_nil, List.append_nil, ← List.append_assoc]
      exact List.perm_append_comm (l₂ := [m])
    · show (q ++ (c ++ [m]) ++ []).Perm (m :: (q ++ (c ++ [])))
      rw [List.append_nil, List.append_nil, ← List.append_assoc]
      exact List.perm_append_comm (l₂ := [m])
  | s :: s2 :: ss, fw, _, m, q, _, hf, hi, .cons (c := c) (cs := cs) h v => by
    rw [csc]
    have h0 : pk fw 0 < s := hi 0 (by simp at hf; omega)
    split
    · show (q ++ ((c ++ [m]) ++ cs.flatten)).Perm (m :: (q ++ (c ++ cs.flatten)))
      rw [List.append_assoc, ← List.append_assoc q, ← List.append_assoc q]
      exact List.perm_middle
    · rename_i k
      have ih := csc_perm (sz := s2 :: ss) (fw := fw.drop 1) (cs := cs) (m := pk (c ++ [m]) (pk fw 0)) (q := q ++ (c ++ [m]).eraseIdx (pk fw 0)) (by simp) (by rw [List.length_drop]; simp at hf ⊢; omega) (fun i h => by
        rw [List.length_drop] at h
        have := hi (i + 1) (by omega)
        have e1 : pk (fw.drop 1) i = pk fw (i + 1) := by
          rw [pk_lt (by rw [List.length_drop]; omega), pk_lt (by omega), List.getElem_drop]
          congr 1
          omega
        rw [e1]
        exact this) v
      show (memb (csc (s2 :: ss) _ _ _ _).2 (csc (s2 :: ss) _ _ _ _).1).Perm (m :: (q ++ (c ++ cs.flatten)))
      refine ih.trans ?_
      have hl : pk fw 0 < (c ++ [m]).length := by rw [List.length_append, List.length_singleton]; omega
      have e := perm_erase hl
      show (pk (c ++ [m]) (pk fw 0) :: ((q ++ (c ++ [m]).eraseIdx (pk fw 0)) ++ cs.flatten)).Perm _
      have a : (pk (c ++ [m]) (pk fw 0) :: ((q ++ (c ++ [m]).eraseIdx (pk fw 0)) ++ cs.flatten)).Perm (q ++ ((c ++ [m]).eraseIdx (pk fw 0) ++ [pk (c ++ [m]) (pk fw 0)]) ++ cs.flatten) := by
        rw [← List.append_assoc q, List.append_assoc _ [_] cs.flatten]
        exact (List.perm_middle (l₁ := q ++ (c ++ [m]).eraseIdx (pk fw 0)) (l₂ := cs.flatten)).symm
      refine a.trans (((e.append_left q).append_right cs.flatten).trans ?_)
      show (q ++ (c ++ [m]) ++ cs.flatten).Perm (m :: (q ++ (c ++ cs.flatten)))
      rw [← List.append_assoc q, List.append_assoc _ [m], ← List.append_assoc q]
      exact List.perm_middle
theorem val_tot : ∀ {sz : List Nat} {cs : List (List Nat)}, Val sz cs → totM cs + sz.length ≤ sz.sum
  | _, _, .nil => by simp [totM]
  | _, _, .cons (s := s) (ss := ss) (c := c) (cs := cs) h v => by
    have ih := val_tot v
    have e : totM (c :: cs) = c.length + totM cs := by simp [totM]
    rw [e, List.length_cons, List.sum_cons]
    omega
theorem val_sum : ∀ {sz : List Nat} {cs : List (List Nat)}, Val sz cs → ∀ s ∈ sz, 1 ≤ s
  | _, _, .nil => by simp
  | _, _, .cons (s := s) (ss := ss) (c := c) (cs := cs) h v => by
    intro x m
    rcases List.mem_cons.mp m with rfl | m
    · omega
    · exact val_sum v x m
end R
namespace R
open PySem PySem.Spec PyProof.Rows L2
section
variable {X : Cx} {a b : Expr} {ma mb : DE} {pos tpos : Pos} {elts : List Expr} {kk : Nat}
end
end R
namespace R
open PySem PySem.Spec PyProof.Rows L2
section
variable {prog : Program} {w : World} {A : Around}
end
end R
namespace R
open PySem PySem.Spec PyProof.Rows L2
section
variable {K : PySem.W.Frag} {W : Wd} {H : Hp}
end
section
variable {X : Cx} {a b : Expr} {pos : Pos} {mr : DA}
end
end R
namespace R
open PySem PySem.Spec PyProof.Rows L2
section
variable {K : PySem.W.Frag} {W : Wd} {H : Hp}
theorem OwnAll.take : ∀ (n : Nat) {vs : List V} {ts : List OT} {f : List Addr}, OwnAll K W H vs ts f → ∃ g, OwnAll K W H (vs.take n) (ts.take n) g ∧ ∀ a ∈ g, a ∈ f
  | 0, _, _, _, _ => ⟨[], .nil, fun _ m => by cases m⟩
  | n + 1, _, _, _, .nil => ⟨[], .nil, fun _ m => by cases m⟩
  | n + 1, _, _, _, .cons a b => by
    obtain ⟨g, o, z⟩ := OwnAll.take n b
    refine ⟨_, .cons a o, fun c m => ?_⟩
    rcases List.mem_append.mp m with m | m
    · exact List.mem_append_left _ m
    · exact List.mem_append_right _ (z c m)
theorem OwnAll.drop : ∀ (n : Nat) {vs : List V} {ts : List OT} {f : List Addr}, OwnAll K W H vs ts f → ∃ g, OwnAll K W H (vs.drop n) (ts.drop n) g ∧ ∀ a ∈ g, a ∈ f
  | 0, _, _, _, h => ⟨_, h, fun _ m => m⟩
  | n + 1, _, _, _, .nil => ⟨[], .nil, fun _ m => by cases m⟩
  | n + 1, _, _, _, .cons a b => by
    obtain ⟨g, o, z⟩ := OwnAll.drop n b
    exact ⟨_, o, fun c m => List.mem_append_right _ (z c m)⟩
end
section
variable {X : Cx} {a : Expr} {lo hi : Option Expr} {ma : DE} {ml mh : DO} {pos : Pos}
end
end R
namespace R
open PySem PySem.Spec PyProof.Rows L2
section
variable {K : PySem.W.Frag} {W W1 W2 W' : Wd} {H H1 H2 H' : Hp}
end
section
variable {X : Cx} {CX : CXT} {k n : Nat} {f : Addr} {fd : FuncData} {ps : List Str} {F0 : Spec} {dvs : List V} {dv : List D} {ds : List Value} {E : XK} {x nm m : Str} {p pos apos : Pos} {e a o : Expr} {es : List Expr} {ma : DA} {m0 : DE} {pr : List Nat} {is : List Nat} {mx : DX} {i : Nat} {C : Addr}
structure MetIO (P : Program) (w : World) (K : PySem.W.Frag) (mg : Str → Option Value) (base : Heap) (C : Addr) (m : Str) (n : Nat) (F : Spec) (dv : List D) (k : Nat) : Prop where
  ex : ∃ (f : Addr) (fd : FuncData) (ps : List Str) (ds : List Value) (dvs : List V), Cls K C ∧ Meth K C m f ∧ FnOk P w K mg base CX0 k f fd ps (spR K n F) ∧ Binds K fd ps ds ∧ Vals dvs ds ∧ ∀ W, RepAll K W dvs dv
end
end R
namespace R
open PySem
def stp (sz fw : List Nat) : List Nat × List (List Nat) → List Nat × List (List Nat)
  | (x :: q, cs) => ((csc sz fw cs x q).2, (csc sz fw cs x q).1)
  | ([], cs) => ([], cs)
def adv (sz fw : List Nat) : Nat → List Nat × List (List Nat) → List Nat × List (List Nat)
  | 0, s => s
  | n + 1, s => adv sz fw n (stp sz fw s)
theorem adv_add {sz fw : List Nat} : ∀ (m n : Nat) (s : List Nat × List (List Nat)), adv sz fw (m + n) s = adv sz fw n (adv sz fw m s)
  | 0, n, s => by rw [Nat.zero_add] <;> rfl
  | m + 1, n, s => by
    rw [show m + 1 + n = (m + n) + 1 by omega]
    show adv sz fw (m + n) (stp sz fw s) = adv sz fw n (adv sz fw m (stp sz fw s))
    exact adv_add m n _
structure RowM (sz fw : List Nat) : Prop where
  l0 : 0 < sz.length
  fl : fw.length + 1 = sz.length
  s1 : ∀ s ∈ sz, 1 ≤ s
  fi : ∀ i, i < fw.length → pk fw i < pk sz i
theorem RowM.ne {sz fw : List Nat} (h : RowM sz fw) : sz ≠ [] := fun z => by have := h.l0; rw [z] at this; simp at this
theorem RowM.cups {sz fw : List Nat} (h : RowM sz fw) {c : Nat} (hc : c ≤ fw.length) : Cups sz fw c :=
  ⟨by have := h.fl; omega, fun i hi => h.s1 _ (pk_mem (by have := h.fl; omega)), fun i hi => h.fi i (by omega)⟩
theorem casc_nil {fs : List Nat} {ca : List (List Nat)} {x : Nat} {q : List Nat} : casc [] fs ca x q = (ca, q, some x) := by
  rw [casc]
  intro _ _ _ _ _ _ e
  cases e
theorem casc_val : ∀ {ss fs : List Nat} {ca : List (List Nat)} {x : Nat} {q : List Nat}, fs.length = ss.length → Val ss ca → Val ss (casc ss fs ca x q).1
  | [], fs, _, x, q, _, .nil => by rw [casc_nil]; exact .nil
  | s :: ss, [], _, x, q, h, _ => by simp at h
  | s :: ss, f :: fs, _, x, q, h, .cons (c := c) (cs := cs) h1 v => by
    rw [casc]
    split
    · exact .cons (by show 0 < s; omega) (casc_val (by simpa using h) v)
    · exact .cons (by rw [List.length_append, List.length_singleton]; omega) v
theorem run_round {sz fw : List Nat} (hne : sz ≠ []) (hl : fw.length + 1 = sz.length) : ∀ {m : Nat} {cs : List (List Nat)} {q : List Nat} {mE : Nat} {qE : List Nat}, Run sz (fw ++ [0]) m cs q mE qE → Val sz cs →
    ∃ A row, row.length = pk sz fw.length ∧ mE = pk row 0 ∧ qE = A ++ row.eraseIdx 0 ∧ adv sz fw m (q, cs) = (A ++ row, List.replicate sz.length []) := by
  have hl2 : (fw ++ [0]).length = sz.length := by rw [List.length_append, List.length_singleton]; exact hl
  intro m cs q mE qE r
  induction r with
  | done e h =>
    rename_i cs cs' m x q q'
    intro v
    obtain ⟨A, row, a, b, d, g⟩ := (csc_casc (q := q) (m := x) hne hl v).2 m (by rw [e])
    rw [e] at d g
    have l := casc_len (ss := sz) (fs := fw ++ [0]) (cs := cs) (m := x) (q := q)
    rw [e] at l
    have l : cs'.length = cs.length := l
    refine ⟨A, row, a, b, d, ?_⟩
    show ((csc sz fw cs x q).2, (csc sz fw cs x q).1) = _
    rw [g]
    show (A ++ row, cs') = _
    rw [all_nil h, l, val_len v]
  | step e r ih =>
    rename_i cs cs' n m x q q1 q'
    intro v
    have a := (csc_casc (q := q) (m := x) hne hl v).1 (by rw [e])
    have v2 := casc_val (x := x) (q := q) hl2 v
    rw [e] at a v2
    obtain ⟨A, row, b, d, f, g⟩ := ih v2
    refine ⟨A, row, b, d, f, ?_⟩
    rw [← g]
    show adv sz fw n ((csc sz fw cs x q).2, (csc sz fw cs x q).1) = _
    rw [a]
theorem adv_round {sz fw : List Nat} (R : RowM sz fw) {q : List Nat} (hq : least sz sz.length ≤ q.length) :
    adv sz fw (prodL sz) (q, List.replicate sz.length []) = ((rnd sz fw q.length).map (pk q), List.replicate sz.length []) := by
  obtain ⟨r, hend⟩ := round_end R.fl (fun i hi => R.s1 _ (pk_mem hi)) R.fi hq
  obtain ⟨A, row, a, b, d, g⟩ := run_round R.ne R.fl r (val_nil R.s1)
  rw [g, hend A row a b d]
def ap (ord : List Nat) : Nat → List Nat → List Nat
  | 0, q => q
  | k + 1, q => ap ord k (ord.map (pk q))
theorem ap_len {ord : List Nat} : ∀ {k : Nat} {q : List Nat}, ord.length = q.length → (ap ord k q).length = q.length
  | 0, q, _ => rfl
  | k + 1, q, h => by
    show (ap ord k (ord.map (pk q))).length = _
    rw [ap_len (by rw [List.length_map]), List.length_map, h]
def itt (t : Nat → Nat) : Nat → Nat → Nat
  | 0, i => i
  | k + 1, i => itt t k (t i)
theorem itt_lt {t : Nat → Nat} {n : Nat} (T : Tg t n) : ∀ (k : Nat) {i : Nat}, i < n → itt t k i < n
  | 0, _, h => h
  | k + 1, _, h => itt_lt T k (T.lt _ h)
theorem itt_inj {t : Nat → Nat} {n : Nat} (T : Tg t n) : ∀ (k : Nat) {i j : Nat}, i < n → j < n → itt t k i = itt t k j → i = j
  | 0, _, _, _, _, e => e
  | k + 1, i, j, h, h2, e => T.inj _ _ h h2 (itt_inj T k (T.lt _ h) (T.lt _ h2) e)
theorem ap_pk {ord : List Nat} {n : Nat} (p : ord.Perm (List.range n)) : ∀ (k : Nat) {q : List Nat} {i : Nat}, q.length = n → i < n → pk (ap ord k q) (itt (tgt ord) k i) = pk q i
  | 0, q, i, _, _ => rfl
  | k + 1, q, i, hq, hi => by
    have hl : ord.length = n := by rw [p.length_eq, List.length_range]
    obtain ⟨s1, s2⟩ := tgt_spec (p.mem_iff.mpr (List.mem_range.mpr hi))
    show pk (ap ord k (ord.map (pk q))) (itt (tgt ord) k (tgt ord i)) = _
    rw [ap_pk p k (by rw [List.length_map, hl]) (by omega), pk_map s1, s2]
theorem itt_onto {t : Nat → Nat} {n : Nat} (T : Tg t n) (k : Nat) {j : Nat} (hj : j < n) : ∃ i, i < n ∧ itt t k i = j := by
  have nd : ((List.range n).map (itt t k)).Nodup := List.pairwise_map.mpr (List.nodup_range.imp_of_mem fun ha hb hne e => hne (itt_inj T k (List.mem_range.mp ha) (List.mem_range.mp hb) e))
  have hlt : ∀ x ∈ (List.range n).map (itt t k), x < n := fun x m => by
    obtain ⟨i, hi, rfl⟩ := List.mem_map.mp m
    exact itt_lt T k (List.mem_range.mp hi)
  have mem : j ∈ (List.range n).map (itt t k) := by
    apply Classical.byContradiction
    intro z
    have := nodup_le (n := n) (c := j :: (List.range n).map (itt t k)) (List.nodup_cons.mpr ⟨z, nd⟩) fun x m => by
      rcases List.mem_cons.mp m with rfl | m
      · exact hj
      · exact hlt x m
    simp at this
    omega
  obtain ⟨i, hi, e⟩ := List.mem_map.mp mem
  exact ⟨i, List.mem_range.mp hi, e⟩
theorem ext_pk {l m : List Nat} (h : l.length = m.length) (e : ∀ i, i < l.length → pk l i = pk m i) : l = m := by
  apply List.ext_getElem h
  intro i h1 h2
  have := e i h1
  rw [pk_lt h1, pk_lt h2] at this
  exact this
theorem ap_eq {ord : List Nat} {n : Nat} (p : ord.Perm (List.range n)) {k : Nat} {q r : List Nat} (hq : q.length = n) (hr : r.length = n) (h : ∀ i, i < n → pk r (itt (tgt ord) k i) = pk q i) : r = ap ord k q := by
  have hl : ord.length = n := by rw [p.length_eq, List.length_range]
  refine ext_pk (by rw [hr, ap_len (by rw [hl, hq]), hq]) fun j hj => ?_
  obtain ⟨i, hi, rfl⟩ := itt_onto (Tg.of_perm p) k (by omega : j < n)
  rw [h i hi, ap_pk p k hq hi]
theorem cyc_itt {t : Nat → Nat} {n i : Nat} {c : List Nat} (o : Cyc t n i c) : ∀ (k : Nat) {j : Nat}, j < c.length → itt t k (pk c j) = pk c ((j + k) % c.length)
  | 0, j, hj => by
    show pk c j = _
    rw [Nat.add_zero, Nat.mod_eq_of_lt hj]
  | k + 1, j, hj => by
    show itt t k (t (pk c j)) = _
    by_cases q : j + 1 < c.length
    · rw [← o.nx j q, cyc_itt o k q]
      congr 2
      omega
    · have e : j = c.length - 1 := by omega
      have l := o.ls
      rw [show t (pk c j) = pk c 0 by rw [o.hd, e]; exact l, cyc_itt o k o.h0]
      rw [show j + (k + 1) = (0 + k) + c.length by omega, Nat.add_mod_right]
theorem dvd_lcmL {k : Nat} : ∀ {ks : List Nat}, k ∈ ks → k ∣ lcmL ks := by
  have key : ∀ (ks : List Nat) (a : Nat), a ∣ ks.foldl Nat.lcm a ∧ ∀ k ∈ ks, k ∣ ks.foldl Nat.lcm a := by
    intro ks
    induction ks with
    | nil => intro a; exact ⟨Nat.dvd_refl a, by simp⟩
    | cons x ks ih =>
      intro a
      obtain ⟨h1, h2⟩ := ih (Nat.lcm a x)
      refine ⟨Nat.dvd_trans (Nat.dvd_lcm_left a x) h1, fun k m => ?_⟩
      rcases List.mem_cons.mp m with rfl | m
      · exact Nat.dvd_trans (Nat.dvd_lcm_right a k) h1
      · exact h2 k m
  intro ks m
  exact (key ks 1).2 k m
theorem itt_lcm {ord : List Nat} {n : Nat} (p : ord.Perm (List.range n)) {i : Nat} (hi : i < n) (m : Nat) : itt (tgt ord) (lcmL ((cycs (tgt ord) n n).map List.length) * m) i = i := by
  have T := Tg.of_perm p
  have cp := cycs_perm T
  obtain ⟨c, hc, mc⟩ := List.mem_flatten.mp (cp.mem_iff.mpr (List.mem_range.mpr hi))
  obtain ⟨j0, _, o, _⟩ := (cycs_ok T (Nat.le_refl n)).all c hc
  obtain ⟨j, hj, rfl⟩ := mem_pk mc
  rw [cyc_itt o _ hj]
  obtain ⟨d, hd⟩ := dvd_lcmL (List.mem_map.mpr ⟨c, hc, rfl⟩ : c.length ∈ (cycs (tgt ord) n n).map List.length)
  rw [hd, Nat.mul_assoc, Nat.add_mul_mod_self_left, Nat.mod_eq_of_lt hj]
theorem ap_lcm {ord : List Nat} {n : Nat} (p : ord.Perm (List.range n)) {q : List Nat} (hq : q.length = n) (m : Nat) : ap ord (lcmL ((cycs (tgt ord) n n).map List.length) * m) q = q :=
  (ap_eq p hq hq fun i hi => by rw [itt_lcm p hi]).symm
theorem RowM.rnd_perm {sz fw : List Nat} (M : RowM sz fw) {n : Nat} (h : least sz sz.length ≤ n) : (rnd sz fw n).Perm (List.range n) := by
  have := M.fl
  exact R.rnd_perm (M.cups (Nat.le_refl _)) (by omega) (M.s1 _ (pk_mem (by omega))) (by rw [this]; exact h)
theorem adv_rounds {sz fw : List Nat} (M : RowM sz fw) : ∀ (k : Nat) {q : List Nat}, least sz sz.length ≤ q.length → adv sz fw (prodL sz * k) (q, List.replicate sz.length []) = (ap (rnd sz fw q.length) k q, List.replicate sz.length [])
  | 0, q, _ => by rw [Nat.mul_zero] <;> rfl
  | k + 1, q, h => by
    have hl : (rnd sz fw q.length).length = q.length := by rw [(M.rnd_perm h).length_eq, List.length_range]
    rw [Nat.mul_succ, Nat.add_comm, adv_add, adv_round M h, adv_rounds M k (by rw [List.length_map, hl]; exact h), List.length_map, hl]
    rfl
theorem insert_erase {l : List Nat} {f x : Nat} (h : f ≤ l.length) : (l.insertIdx f x).eraseIdx f = l ∧ pk (l.insertIdx f x) f = x ∧ (l.insertIdx f x).length = l.length + 1 := by
  have hl : (l.insertIdx f x).length = l.length + 1 := by rw [List.length_insertIdx, if_pos h]
  refine ⟨List.eraseIdx_insertIdx_self .., ?_, hl⟩
  rw [pk_lt (by omega), List.getElem_insertIdx_self]
theorem uncsc : ∀ {sz fw : List Nat} {cs : List (List Nat)} {q : List Nat}, sz ≠ [] → fw.length + 1 = sz.length → (∀ i, i < fw.length → pk fw i < pk sz i) → Val sz cs → 0 < ctr sz cs → (sz.map (· - 1)).sum + 1 ≤ q.length + totM cs →
    ∃ cs0 m q0, Val sz cs0 ∧ csc sz fw cs0 m q0 = (cs, q)
  | [], _, _, _, h, _, _, _, _, _ => absurd rfl h
  | [s], fw, _, q, _, _, _, .cons (c := c) (cs := cs) h v, hc, _ => by
    cases v
    have hne : c ≠ [] := by
      intro z
      subst z
      simp [ctr] at hc
    have hl : c.dropLast.length + 1 = c.length := by
      rw [List.length_dropLast]
      have := List.length_pos_iff.mpr hne
      omega
    refine ⟨[c.dropLast], c.getLast hne, q, .cons (by omega) .nil, ?_⟩
    rw [csc, if_pos (by omega), List.dropLast_concat_getLast]
  | s :: s2 :: ss, fw, _, q, _, hf, hi, .cons (c := c) (cs := cs) h v, hc, hb => by
    by_cases hne : c = []
    · subst hne
      have e1 : ctr (s :: s2 :: ss) ([] :: cs) = 0 + s * ctr (s2 :: ss) cs := rfl
      have hc2 : 0 < ctr (s2 :: ss) cs := by
        apply Nat.pos_of_ne_zero
        intro z
        rw [e1, z] at hc
        simp at hc
      have et : totM ([] :: cs) = totM cs := by simp [totM]
      rw [et, List.map_cons, List.sum_cons] at hb
      obtain ⟨cs0, m, q0, v0, e⟩ := uncsc (sz := s2 :: ss) (fw := fw.drop 1) (cs := cs) (q := q) (by simp) (by rw [List.length_drop]; simp at hf ⊢; omega) (fun i h => by
        rw [List.length_drop] at h
        have := hi (i + 1) (by omega)
        have e1 : pk (fw.drop 1) i = pk fw (i + 1) := by
          rw [pk_lt (by rw [List.length_drop]; omega), pk_lt (by omega), List.getElem_drop]
          congr 1
          omega
        rw [e1]
        exact this) v hc2 (by omega)
      have ht := csc_tot (sz := s2 :: ss) (fw := fw.drop 1) (cs := cs0) (m := m) (q := q0) (by simp) (by rw [List.length_drop]; simp at hf ⊢; omega) (fun i h => by
        rw [List.length_drop] at h
        have := hi (i + 1) (by omega)
        have e1 : pk (fw.drop 1) i = pk fw (i + 1) := by
          rw [pk_lt (by rw [List.length_drop]; omega), pk_lt (by omega), List.getElem_drop]
          congr 1
          omega
        rw [e1]
        exact this) v0
      rw [e] at ht
      have ht : q.length + totM cs = q0.length + totM cs0 + 1 := ht
      have vt := val_tot v0
      have sp := sum_pred (val_sum v0)
      have hq0 : s - 1 ≤ q0.length := by omega
      have h0 : pk fw 0 < s := hi 0 (by simp at hf; omega)
      obtain ⟨w, hw⟩ : ∃ w, w = q0.drop (q0.length - (s - 1)) := ⟨_, rfl⟩
      have hwl : w.length = s - 1 := by rw [hw, List.length_drop]; omega
      obtain ⟨a, b, d⟩ := insert_erase (l := w) (f := pk fw 0) (x := m) (by omega)
      generalize hr : w.insertIdx (pk fw 0) m = row at *
      have hrne : row ≠ [] := fun z => by rw [z] at d; simp at d
      have hdl : row.dropLast.length + 1 = row.length := by
        rw [List.length_dropLast]
        have := List.length_pos_iff.mpr hrne
        omega
      refine ⟨row.dropLast :: cs0, row.getLast hrne, q0.take (q0.length - (s - 1)), .cons (by omega) v0, ?_⟩
      rw [csc, if_neg (by omega), List.dropLast_concat_getLast, b, a, hw, List.take_append_drop, e]
    · have hl : c.dropLast.length + 1 = c.length := by
        rw [List.length_dropLast]
        have := List.length_pos_iff.mpr hne
        omega
      refine ⟨c.dropLast :: cs, c.getLast hne, q, .cons (by omega) v, ?_⟩
      rw [csc, if_pos (by omega), List.dropLast_concat_getLast]
theorem reach {sz fw : List Nat} (M : RowM sz fw) : ∀ (k : Nat) {q : List Nat} {cs : List (List Nat)}, ctr sz cs = k → Val sz cs → least sz sz.length ≤ q.length + totM cs → ∃ q0 j, q0.length = q.length + totM cs ∧ adv sz fw j (q0, List.replicate sz.length []) = (q, cs)
  | 0, q, cs, hk, v, _ => by
    have t0 := (ctr_zero v).mp hk
    have e := tot_zero t0
    rw [val_len v] at e
    exact ⟨q, 0, by omega, by rw [← e] <;> rfl⟩
  | k + 1, q, cs, hk, v, hb => by
    have hls : least sz sz.length = (sz.map (· - 1)).sum + 1 := by unfold least; rw [List.take_length]
    obtain ⟨cs0, m, q0, v0, e⟩ := uncsc (q := q) M.ne M.fl M.fi v (by omega) (by omega)
    have ht := csc_tot (m := m) (q := q0) M.ne M.fl M.fi v0
    have hcc := (csc_ctr (fw := fw) (m := m) (q := q0) M.ne v0).2
    rw [e] at ht hcc
    have ht : q.length + totM cs = q0.length + totM cs0 + 1 := ht
    have hcc : ctr sz cs = if ctr sz cs0 + 1 < prR sz then ctr sz cs0 + 1 else 0 := hcc
    have h0 : ctr sz cs0 = k := by
      by_cases z : ctr sz cs0 + 1 < prR sz
      · rw [if_pos z] at hcc
        omega
      · rw [if_neg z] at hcc
        omega
    obtain ⟨qq, j, a, b⟩ := reach M k (q := m :: q0) (cs := cs0) h0 v0 (by rw [List.length_cons]; omega)
    refine ⟨qq, j + 1, by rw [a, List.length_cons]; omega, ?_⟩
    rw [adv_add, b]
    show ((csc sz fw cs0 m q0).2, (csc sz fw cs0 m q0).1) = _
    rw [e]
def perN (sz fw : List Nat) (n : Nat) : Nat := lcmL ((cycs (tgt (rnd sz fw n)) n n).map List.length) * prodL sz
theorem adv_per {sz fw : List Nat} (M : RowM sz fw) {q : List Nat} {cs : List (List Nat)} (v : Val sz cs) (hb : least sz sz.length ≤ q.length + totM cs) (m : Nat) : adv sz fw (perN sz fw (q.length + totM cs) * m) (q, cs) = (q, cs) := by
  obtain ⟨q0, j, a, b⟩ := reach M _ rfl v hb
  rw [← b, ← adv_add, Nat.add_comm, adv_add]
  congr 1
  have hl : least sz sz.length ≤ q0.length := by omega
  unfold perN
  rw [show lcmL ((cycs (tgt (rnd sz fw (q.length + totM cs))) (q.length + totM cs) (q.length + totM cs)).map List.length) * prodL sz * m = prodL sz * (lcmL ((cycs (tgt (rnd sz fw (q.length + totM cs))) (q.length + totM cs) (q.length + totM cs)).map List.length) * m) by rw [Nat.mul_comm _ (prodL sz), Nat.mul_assoc], adv_rounds M _ hl, a, ap_lcm (M.rnd_perm hb) a]
end R
namespace R
open PySem PySem.Spec PyProof.Rows L2
section
variable {X : Cx} {tg a b c : Expr} {ma mb mc mk : DE} {pos : Pos} {pr : List Nat} {pl : DP} {x y : Str}
end
section
variable {X : Cx} {a b : Expr} {ma mb : DE} {pos : Pos}
end
end R
namespace R
open PySem
theorem adv_modp {sz fw : List Nat} (M : RowM sz fw) {q : List Nat} {cs : List (List Nat)} (v : Val sz cs) (hb : least sz sz.length ≤ q.length + totM cs) (n : Nat) : adv sz fw n (q, cs) = adv sz fw (n % perN sz fw (q.length + totM cs)) (q, cs) := by
  have e := adv_per M v hb (n / perN sz fw (q.length + totM cs))
  have d := Nat.div_add_mod n (perN sz fw (q.length + totM cs))
  rw [← congrArg (fun m => adv sz fw m (q, cs)) d]
  show adv sz fw (_ + _) (q, cs) = _
  rw [adv_add, e]
theorem perN_pos {sz fw : List Nat} (M : RowM sz fw) {n : Nat} (hl : least sz sz.length ≤ n) : 0 < perN sz fw n := by
  have a := lcmL_pos (ks := (cycs (tgt (rnd sz fw n)) n n).map List.length) fun k m => by
    obtain ⟨c, hc, rfl⟩ := List.mem_map.mp m
    exact ((cycs_cyOk (Tg.of_perm (M.rnd_perm hl))).one c hc).1
  have b := (prodL_le M.s1).1
  unfold perN
  exact Nat.mul_pos (by omega) (by omega)
def bk (sz fw : List Nat) (n k : Nat) : Nat := ((0 - (k : Int)) % (perN sz fw n : Nat)).toNat
theorem bk_mod {P k : Nat} (h : 0 < P) : (k + ((0 - (k : Int)) % (P : Nat)).toNat) % P = 0 := by
  have e := Int.emod_nonneg (0 - (k : Int)) (b := (P : Nat)) (by omega)
  have f := Int.emod_add_mul_ediv (0 - (k : Int)) (P : Nat)
  have g : (((k + ((0 - (k : Int)) % (P : Nat)).toNat : Nat) : Int)) % (P : Nat) = 0 := by
    rw [Int.natCast_add, Int.toNat_of_nonneg e, show (k : Int) + (0 - (k : Int)) % (P : Nat) = (P : Nat) * (-((0 - (k : Int)) / (P : Nat))) by rw [Int.mul_neg]; omega, Int.mul_emod_right]
  omega
theorem adv_bk {sz fw : List Nat} (M : RowM sz fw) {q : List Nat} {cs : List (List Nat)} (v : Val sz cs) (hb : least sz sz.length ≤ q.length + totM cs) (k : Nat) : adv sz fw (k + bk sz fw (q.length + totM cs) k) (q, cs) = (q, cs) := by
  rw [adv_modp M v hb, show (k + bk sz fw (q.length + totM cs) k) % perN sz fw (q.length + totM cs) = 0 from bk_mod (perN_pos M hb)]
  rfl
end R
namespace R
open PySem
end R
namespace R
open PySem
end R
namespace R
open PySem
theorem adv_ctr {sz fw : List Nat} (M : RowM sz fw) : ∀ (n : Nat) {q : List Nat} {cs : List (List Nat)}, Val sz cs → least sz sz.length ≤ q.length + totM cs → Val sz (adv sz fw n (q, cs)).2 ∧ ctr sz (adv sz fw n (q, cs)).2 = (ctr sz cs + n) % prodL sz ∧ (adv sz fw n (q, cs)).1.length + totM (adv sz fw n (q, cs)).2 = q.length + totM cs
  | 0, q, cs, v, _ => by
    refine ⟨v, ?_, rfl⟩
    rw [Nat.add_zero, Nat.mod_eq_of_lt (by rw [prR_eq]; exact ctr_lt v)]
    rfl
  | n + 1, q, cs, v, hb => by
    have a := val_tot v
    have hls : least sz sz.length = (sz.map (· - 1)).sum + 1 := by unfold least; rw [List.take_length]
    have b := sum_pred M.s1
    cases q with
    | nil => rw [List.length_nil] at hb; omega
    | cons x q =>
      have c := csc_ctr (fw := fw) (m := x) (q := q) M.ne v
      have d := csc_tot (m := x) (q := q) M.ne M.fl M.fi v
      rw [List.length_cons] at hb
      obtain ⟨e1, e2, e3⟩ := adv_ctr M n (q := (csc sz fw cs x q).2) (cs := (csc sz fw cs x q).1) c.1 (by omega)
      refine ⟨e1, ?_, ?_⟩
      · show ctr sz (adv sz fw n ((csc sz fw cs x q).2, (csc sz fw cs x q).1)).2 = _
        rw [e2, c.2, prR_eq]
        have hlt := ctr_lt v
        split
        · rw [show ctr sz cs + 1 + n = ctr sz cs + (n + 1) by omega]
        · rw [show ctr sz cs + (n + 1) = n + prR sz by omega, Nat.add_mod_right, Nat.zero_add]
      · show (adv sz fw n ((csc sz fw cs x q).2, (csc sz fw cs x q).1)).1.length + totM (adv sz fw n ((csc sz fw cs x q).2, (csc sz fw cs x q).1)).2 = _
        rw [e3, List.length_cons]
        omega
end R
namespace R
open PySem PySem.Spec PyProof.Rows L2
section
variable {prog : Program} {w : World} {A : Around} {E : Value → Shared → Prop} {s : Shared}
end
end R
namespace R
open PySem PySem.Spec PyProof.Rows L2
section
variable {X : Cx} {a b c : Expr} {ma mb mc : DE} {pos : Pos}
end
end R
namespace R
open PySem
end R
namespace R
open PySem
end R
namespace R
open PySem PySem.Spec PyProof.Rows L2
section
variable {X : Cx} {a c : Expr} {ma : DE} {mx : DX} {pos : Pos}
end
end R
namespace R
open PySem
end R
namespace R
end R
namespace R
open PySem
section
variable {t : Nat → Nat} {n i : Nat} {c : List Nat}
end
end R
namespace R
open PySem PySem.Spec PyProof.Rows L2
section
variable {X : Cx} {a b c : Expr} {pos : Pos} {mr : DA}
end
end R
namespace R
open PySem PySem.Spec PyProof.Rows L2
section
variable {X : Cx} {a b c : Expr} {mb mc : DE} {pos : Pos} {pr : List Nat} {pl : DP}
end
end R
namespace R
open PySem
end R
namespace R
open PySem
def cntB (P : Nat → Bool) : Nat → Nat
  | 0 => 0
  | n + 1 => cntB P n + (if P n = true then 1 else 0)
def fstB (P : Nat → Bool) : Nat → Option Nat
  | 0 => none
  | n + 1 => (fstB P n).or (if P n = true then some n else none)
theorem adv_memb {sz fw : List Nat} (M : RowM sz fw) : ∀ (n : Nat) {q : List Nat} {cs : List (List Nat)}, Val sz cs → (memb (adv sz fw n (q, cs)).1 (adv sz fw n (q, cs)).2).Perm (memb q cs) ∧ Val sz (adv sz fw n (q, cs)).2
  | 0, q, cs, v => ⟨.refl _, v⟩
  | n + 1, [], cs, v => adv_memb M n v
  | n + 1, x :: q, cs, v => by
    obtain ⟨a, b⟩ := adv_memb M n (q := (csc sz fw cs x q).2) (csc_ctr (fw := fw) (m := x) (q := q) M.ne v).1
    exact ⟨a.trans (csc_perm M.ne M.fl M.fi v), b⟩
def pcN (cs : List (List Nat)) (k : Nat) : List Nat := cs.getD k []
def inC (sz fw : List Nat) (tg x : Nat) (s : List Nat × List (List Nat)) (k : Nat) : Bool := decide (x ∈ pcN (adv sz fw k s).2 tg)
end R
namespace R
open PySem
def og (l : List (Option Nat)) (i : Nat) : Option Nat := l.getD i none
structure VOk (sz fw : List Nat) (tg c : Nat) (v : List Nat × List (Option Nat)) (Q : List Nat) (rest : List (List Nat)) (W : Nat) : Prop where
  l1 : v.1.length = Q.length
  l2 : v.2.length = Q.length
  cnt : ∀ i, i < Q.length → pk v.1 i = cntB (inC sz fw tg (pk Q i) (Q, List.replicate c [] ++ rest)) W
  fst : ∀ i, i < Q.length → og v.2 i = fstB (inC sz fw tg (pk Q i) (Q, List.replicate c [] ++ rest)) W
end R
namespace R
open PySem PySem.Spec PyProof.Rows L2
section
variable {X : Cx} {a tg : Expr} {mx : DX} {g : DG} {pos : Pos} {pr : List Nat}
end
section
variable {X : Cx} {CX : CXT} {k np : Nat} {f C : Addr} {fd : FuncData} {ps ks : List Str} {sp : Sp} {E : XK} {x m : Str} {p pos apos kpos : Pos} {e o : Expr} {es : List Expr} {kws : List Keyword} {te ta : TE} {t tk : TA} {nm : Option Str} {g : List Value → List Value → List Value} {gV : List V → List V → List V}
end
structure MetKR (P : Program) (w : World) (K : PySem.W.Frag) (mg : Str → Option Value) (base : Heap) (C : Addr) (m : Str) (n : Nat) (F : Spec1) (np : Nat) (ks : List Str) (k : Nat) : Prop where
  ex : ∃ (f : Addr) (fd : FuncData) (ps : List Str) (g : List Value → List Value → List Value), Cls K C ∧ Meth K C m f ∧ FnOk P w K mg base CX0 k f fd ps (spR K n F.io) ∧ KBn K fd ps (np + 1) ks g (fun vs zs => vs ++ zs)
section
variable {X : Cx} {k j n np : Nat} {C : Addr} {F1 : Spec1} {x m : Str} {p pos apos : Pos} {e o : Expr} {es : List Expr} {mo : DE} {ma mk : DA} {kws : List Keyword} {ks : List Str}
end
end R
namespace R
open PySem PySem.Spec PyProof.Rows L2
section
variable {X : Cx} {tg : Expr} {g : DG} {m : DS} {s1 : List Stmt} {pos : Pos} {pr : List Nat}
theorem Post.less {K : PySem.W.Frag} {W : Wd} {H : Hp} {fp : List Addr} {i : Nat} {σ σ' : L2.St} {W' : Wd} {H' : Hp} {e : Env} {fp' xf' : List Addr} (P : Post K W H fp (i :: pr) σ σ' W' H' e fp' xf') : Post K W H fp pr σ σ' W' H' e fp' xf' :=
  ⟨P.t, P.E, P.S, P.nf, fun l m => P.pr l (List.mem_cons_of_mem _ m)⟩
theorem RtOk.more {K : PySem.W.Frag} {ex : Nat → Hp → Prop} {W : Wd} {H : Hp} {fp : List Addr} {i : Nat} {pr : List Nat} {σ : L2.St} {Kr : Rs → Env → Prop} {Dr : V → Hp → Prop} (rt : RtOk K ex W H fp pr σ Kr Dr) : RtOk K ex W H fp (i :: pr) σ Kr Dr :=
  ⟨fun r e q v σ' W' H' fp' xf' p o => rt.rt r e q v σ' W' H' fp' xf' p.less o, fun k e q σ' W' H' fp' xf' p => rt.x k e q σ' W' H' fp' xf' p.less⟩
end
end R
namespace R
open PySem PySem.Spec PyProof.Rows L2
section
variable {X : Cx} {a b c : Expr} {pos : Pos} {mr : DA}
end
end R
namespace R
open PySem
end R
namespace R
open PySem
section
variable {sz fw : List Nat} {c tg x : Nat} {q : List Nat} {rest : List (List Nat)}
end
section
variable {sz fw : List Nat} {tg : Nat} {q : List Nat}
end
end R
namespace R
open PySem PySem.Spec PyProof.Rows L2
section
variable {X : Cx} {tg a b c : Expr} {ma mb mc : DE} {pos tpos : Pos} {ta tb : DT} {elts : List Expr} {kk : Nat}
end
end R
namespace R
open PySem
end R
namespace R
open PySem PySem.Spec PyProof.Rows L2
section
variable {X : Cx} {a : Expr} {lo hi : Option Expr} {ma : DE} {ml mh : DO} {pos : Pos}
end
end R
namespace R
open PySem
end R
namespace R
open PySem PySem.Spec PyProof.Rows
end R
namespace R
open PySem PySem.Spec PyProof.Rows L2
end R
namespace R
open PySem PySem.Spec PyProof.Rows L2
section
variable {prog : Program} {w : World} {A : Around} {E : Value → Shared → Prop} {s : Shared}
def ZipSt (h : Heap) (z TI TO i1 i2 l1 l2 : Addr) (k : Nat) : Prop :=
  IsPair h TI (.ref i1) (.ref i2) ∧ h.IsListIter i1 l1 k ∧ h.IsListIter i2 l2 k ∧ ((IsZip h z TI TO .none ∧ ∃ x y, IsPair h TO x y) ∨ ∃ T f o, IsZipHeld h z TI TO T f ∧ h.get? T = some o ∧ T ∉ [z, TI, TO, i1, i2])
theorem ZipSt.kept {h h' : Heap} {z TI TO i1 i2 l1 l2 : Addr} {k : Nat} (st : ZipSt h z TI TO i1 i2 l1 l2 k) (q : Addr) (hk : ∀ c o, c ≠ q → h.get? c = some o → h'.get? c = some o) (hq : ∀ o, h.get? q = some o → o.cls = .type "list") (hq2 : ∃ o, h'.get? q = some o) : ZipSt h' z TI TO i1 i2 l1 l2 k := by
  have no : ∀ {c : Addr} {o : Obj}, h.get? c = some o → o.cls ≠ .type "list" → h'.get? c = some o := fun {c o} e n => hk c o (fun z => n (hq o (z ▸ e))) e
  obtain ⟨hTI, ⟨o1, e1, c1, d1⟩, ⟨o2, e2, c2, d2⟩, hz⟩ := st
  refine ⟨no hTI (by simp), ⟨o1, no e1 (by rw [c1]; simp), c1, d1⟩, ⟨o2, no e2 (by rw [c2]; simp), c2, d2⟩, ?_⟩
  rcases hz with ⟨hz, x0, y0, hTO⟩ | ⟨T, f, o, hz, hT, hTn⟩
  · exact .inl ⟨no hz (by simp), x0, y0, no hTO (by simp)⟩
  · by_cases e : T = q
    · obtain ⟨o', ho'⟩ := hq2
      exact .inr ⟨T, f, o', no hz (by simp), e ▸ ho', hTn⟩
    · exact .inr ⟨T, f, o, no hz (by simp), hk _ _ e hT, hTn⟩
end
structure FrP (H : Hp) (q : Addr) (ps : List (Addr × V × V)) : Prop where
  no : ∀ p ∈ ps, H p.1 = none
  nq : ∀ p ∈ ps, p.1 ≠ q
  nd : (ps.map (·.1)).Nodup
section
variable {X : Cx} {pins : List (Addr × Obj)} {σ : L2.St} {a b q z TI TO i1 i2 : Addr} {xs ys : List V} {H0 : Hp} {A1 : Around} {Rs : Result → Shared → Prop}
end
end R
namespace R
open PySem PySem.Spec PyProof.Rows L2
section
variable {K : PySem.W.Frag} {W : Wd} {fp xf : List Addr} {q : Addr}
end
section
variable {X : Cx} {a b c : Expr} {ma mb mc : DE} {pos pos2 p p2 : Pos}
end
end R
namespace R
section
variable {sz fw : List Nat} {q : List Nat} {cs : List (List Nat)}
end
end R
namespace R
section
variable {sz fw : List Nat} {q : List Nat} {cs : List (List Nat)}
end
end R
namespace R
section
variable {sz fw : List Nat} {q : List Nat} {cs : List (List Nat)}
end
end R
namespace R
open PySem PySem.Spec PyProof.Rows L2
section
variable {X : Cx} {c o o1 o3 : Expr} {mc : DE} {pos p1 : Pos} {pr : List Nat} {es es1 es3 : List Expr} {i : Nat} {js : List Nat}
end
end R
namespace R
open PySem PySem.Spec PyProof.Rows L2
end R
namespace R
open PySem
section
variable {ss fs a a' b b' : List Nat} {s s' : Nat} {q : List Nat}
end
end R
namespace R
open PySem PySem.Spec PyProof.Rows L2
open AutoSeq1 (wpAny_loadPart')
section
variable {prog : Program} {w : World} {A : Around} {E : Value → Shared → Prop} {s : Shared}
end
section
variable {X : Cx} {a : Expr} {ma : DE} {pos tpos : Pos} {elts : List Expr} {kk : Nat}
end
end R
namespace R
open PySem PySem.Spec PyProof.Rows L2
section
variable {prog : Program} {w : World} {A : Around} {E : Value → Shared → Prop} {s : Shared} {K : PySem.W.Frag} {x y C f : Addr} {ox : Obj} {od : Option Obj}
end
section
variable {X : Cx} {CX : CXT} {C f : Addr} {fd : FuncData} {ps : List Str} {k : Nat} {sp : Sp} {E : XK}
end
section
variable (P : Program) (w : World) (K : PySem.W.Frag) (mg : Str → Option Value) (base : Heap)
structure EqR (C : Addr) (F : Spec1) (k : Nat) : Prop where
  ex : ∃ (f : Addr) (fd : FuncData) (ps : List Str), Meth K C "__eq__" f ∧ FnOk P w K mg base CX0 k f fd ps (spR K 2 F.io) ∧ Binds K fd ps []
end
section
variable {X : Cx} {k j : Nat} {C : Addr} {F1 : Spec1} {pos : Pos} {a b : Expr} {ma mb : DE}
end
end R
namespace R
open PySem
def ru : List Nat → List Nat
  | s :: s2 :: ss => if s = 1 then ru (s2 :: ss) else s :: ru (s2 :: ss)
  | l => l
def rc : List Nat → List (List Nat) → List (List Nat)
  | s :: s2 :: ss, c :: cs => if s = 1 then rc (s2 :: ss) cs else c :: rc (s2 :: ss) cs
  | _, cs => cs
end R
namespace R
open PySem
inductive Bh (s : Nat) : List Nat → List Nat → Prop where
  | no (b : List Nat) : Bh s [] b
  | one {b : List Nat} : pk b 0 < s → pk b 0 + 1 ≠ s → Bh s [1] b
  | big {u : Nat} {v b : List Nat} : pk b 0 < s → 2 ≤ u → Bh s (u :: v) b
section
variable {ss fs a a' b b' : List Nat} {s s' : Nat} {q : List Nat}
end
end R
namespace R
open PySem PySem.Spec PyProof.Rows L2
section
variable {X : Cx} {es : List Expr} {gs : List DG} {pos : Pos}
end
end R
namespace R
open PySem PySem.Spec PyProof.Rows L2
section
variable {K : PySem.W.Frag} {W : Wd} {H : Hp} {fp xf : List Addr} {σ : L2.St} {env : Env}
end
section
variable {X : Cx} {a b a2 b2 c : Expr} {pl pl2 : DP} {mb mb2 mc : DE} {pos : Pos} {pr : List Nat}
end
end R
namespace R
open PySem
section
variable {q w c : List Nat}
end
end R
namespace R
open PySem
def IsOff (sz fw : List Nat) (A B : List Nat × List (List Nat)) : Option Nat → Prop
  | none => ∀ d, adv sz fw d A ≠ B
  | some D => adv sz fw D A = B ∧ ∀ d, d < D → adv sz fw d A ≠ B
structure StM (sz : List Nat) (n : Nat) (A : List Nat × List (List Nat)) : Prop where
  v : Val sz A.2
  t : A.1.length + totM A.2 = n
section
variable {sz fw : List Nat} {n : Nat} {A B : List Nat × List (List Nat)}
theorem StM.go (M : RowM sz fw) (hn : least sz sz.length ≤ n) (h : StM sz n A) (k : Nat) : StM sz n (R.adv sz fw k A) := by
  obtain ⟨q, c⟩ := A
  obtain ⟨a, _, b⟩ := adv_ctr M k (q := q) (cs := c) h.v (by have : q.length + totM c = n := h.t; omega)
  exact ⟨a, b.trans h.t⟩
theorem StM.cnt (M : RowM sz fw) (hn : least sz sz.length ≤ n) (h : StM sz n A) (k : Nat) : ctr sz (adv sz fw k A).2 = (ctr sz A.2 + k) % prodL sz := by
  obtain ⟨q, c⟩ := A
  exact (adv_ctr M k (q := q) (cs := c) h.v (by have : q.length + totM c = n := h.t; omega)).2.1
theorem StM.lt (h : StM sz n A) : R.ctr sz A.2 < prodL sz := by rw [prR_eq]; exact ctr_lt h.v
theorem StM.bk (M : RowM sz fw) (hn : least sz sz.length ≤ n) (h : StM sz n A) (k : Nat) : R.adv sz fw (k + R.bk sz fw n k) A = A := by
  obtain ⟨q, c⟩ := A
  have ht : q.length + totM c = n := h.t
  have := adv_bk M (q := q) (cs := c) h.v (by omega) k
  rw [ht] at this
  exact this
end
end R
namespace R
open PySem
section
variable {sz fw : List Nat} {n : Nat} {A B : List Nat × List (List Nat)}
theorem StM.nd (M : RowM sz fw) (h : StM sz n A) (nd : (memb A.1 A.2).Nodup) (k : Nat) : (memb (R.adv sz fw k A).1 (R.adv sz fw k A).2).Nodup := by
  obtain ⟨q, c⟩ := A
  exact (adv_memb M k (q := q) (cs := c) h.v).1.nodup_iff.mpr nd
theorem IsOff.ctr (M : RowM sz fw) (hn : least sz sz.length ≤ n) (hA : StM sz n A) {D : Nat} (h : IsOff sz fw A B (some D)) : ctr sz B.2 = (ctr sz A.2 + D) % prodL sz := by
  rw [← h.1]
  exact hA.cnt M hn D
end
theorem perm_inj {l : List Nat} {n : Nat} (hl : l.length = n) (lt : ∀ i, i < n → pk l i < n) (inj : ∀ i j, i < n → j < n → pk l i = pk l j → i = j) : l.Perm (List.range n) := by
  have nd : l.Nodup := by
    rw [List.nodup_iff_pairwise_ne, List.pairwise_iff_getElem]
    intro i j hi hj hij e
    rw [← pk_lt hi, ← pk_lt hj] at e
    have := inj i j (by omega) (by omega) e
    omega
  have al : ∀ x ∈ l, x < n := fun x m => by
    obtain ⟨i, hi, rfl⟩ := mem_pk m
    exact lt i (by omega)
  refine perm_range nd fun x => ⟨al x, fun hx => ?_⟩
  apply Classical.byContradiction
  intro z
  have := nodup_le (n := n) (c := x :: l) (List.nodup_cons.mpr ⟨z, nd⟩) fun y m => by
    rcases List.mem_cons.mp m with rfl | m
    · exact hx
    · exact al y m
  rw [List.length_cons] at this
  omega
theorem pk_set' {l : List Nat} {a s i : Nat} (hi : i < l.length) : pk (l.set a s) i = if i = a then s else pk l i := by
  rw [pk_lt (by rw [List.length_set]; exact hi), List.getElem_set]
  split
  · rename_i e; rw [if_pos e.symm]
  · rename_i e; rw [if_neg fun z => e z.symm, pk_lt hi]
theorem pk_rng {n i : Nat} (h : i < n) : pk (List.range n) i = i := by
  rw [pk_lt (by rw [List.length_range]; exact h), List.getElem_range]
structure RotI (c : List Nat) (n i : Nat) (l : List Nat) : Prop where
  len : l.length = n
  st : ∀ j, j < i → pk l (pk c ((j + 1) % c.length)) = pk c j
  ot : ∀ p, p < n → (∀ j, j < i → p ≠ pk c ((j + 1) % c.length)) → pk l p = p
theorem RotI.start (c : List Nat) (n : Nat) : RotI c n 0 (List.range n) := ⟨List.length_range, fun j h => absurd h (Nat.not_lt_zero j), fun p h _ => pk_rng h⟩
theorem mod_inj {l i j : Nat} (hi : i < l) (hj : j < l) (e : (i + 1) % l = (j + 1) % l) : i = j := by
  have f : ∀ x, x < l → (x + 1) % l = if x + 1 = l then 0 else x + 1 := fun x hx => by
    split
    · rename_i z; rw [z, Nat.mod_self]
    · exact Nat.mod_eq_of_lt (by omega)
  rw [f i hi, f j hj] at e
  split at e <;> split at e <;> omega
theorem RotI.step {c l : List Nat} {n i : Nat} (h : RotI c n i l) (hi : i < c.length) (nd : c.Nodup) (lt : ∀ x ∈ c, x < n) : RotI c n (i + 1) (l.set (pk c ((i + 1) % c.length)) (pk c i)) := by
  have hm : ∀ j, pk c ((j + 1) % c.length) < n := fun j => lt _ (pk_mem (Nat.mod_lt _ (by omega)))
  refine ⟨by rw [List.length_set]; exact h.len, fun j hj => ?_, fun p hp hn => ?_⟩
  · rw [pk_set' (by rw [h.len]; exact hm j)]
    by_cases z : j = i
    · rw [z, if_pos rfl]
    · rw [if_neg fun e => z (mod_inj (by omega) hi (nodup_pk nd (Nat.mod_lt _ (by omega)) (Nat.mod_lt _ (by omega)) e))]
      exact h.st j (by omega)
  · rw [pk_set' (by rw [h.len]; exact hp), if_neg (hn i (by omega))]
    exact h.ot p hp fun j hj => hn j (by omega)
theorem at_next {c : List Nat} {p : Nat} (m : p ∈ c) : ∃ j, j < c.length ∧ p = pk c ((j + 1) % c.length) := by
  obtain ⟨i, hi, rfl⟩ := mem_pk m
  cases i with
  | zero => exact ⟨c.length - 1, by omega, by rw [show c.length - 1 + 1 = c.length by omega, Nat.mod_self]⟩
  | succ i => exact ⟨i, by omega, by rw [Nat.mod_eq_of_lt hi]⟩
theorem RotI.perm {c l : List Nat} {n : Nat} (h : RotI c n c.length l) (nd : c.Nodup) (lt : ∀ x ∈ c, x < n) : l.Perm (List.range n) := by
  have val : ∀ p, p < n → (p ∈ c ∧ ∃ j, j < c.length ∧ p = pk c ((j + 1) % c.length) ∧ pk l p = pk c j) ∨ (p ∉ c ∧ pk l p = p) := fun p hp => by
    by_cases m : p ∈ c
    · obtain ⟨j, hj, e⟩ := at_next m
      exact .inl ⟨m, j, hj, e, by rw [e]; exact h.st j hj⟩
    · exact .inr ⟨m, h.ot p hp fun j hj e => m (by rw [e]; exact pk_mem (Nat.mod_lt _ (by omega)))⟩
  refine perm_inj h.len (fun i hi => ?_) fun i j hi hj e => ?_
  · rcases val i hi with ⟨_, j, hj, _, e⟩ | ⟨_, e⟩
    · rw [e]; exact lt _ (pk_mem hj)
    · rw [e]; exact hi
  · rcases val i hi with ⟨m1, a, ha, e1, f1⟩ | ⟨m1, f1⟩ <;> rcases val j hj with ⟨m2, b, hb, e2, f2⟩ | ⟨m2, f2⟩
    · rw [f1, f2] at e
      rw [e1, e2, nodup_pk nd ha hb e]
    · rw [f1, f2] at e
      exact absurd (by rw [← e]; exact pk_mem ha) m2
    · rw [f1, f2] at e
      exact absurd (by rw [e]; exact pk_mem hb) m1
    · rw [f1, f2] at e
      exact e
section
variable {sz fw : List Nat} {n : Nat}
end
end R
namespace R
open PySem PySem.Spec PyProof.Rows L2
section
variable {X : Cx}
end
section
variable {X : Cx} {a b : Expr} {ma mb : DE}
end
end R
namespace R
open PySem PySem.Spec PyProof.Rows L2
section
variable {K : PySem.W.Frag} {W W1 W2 W' : Wd} {H H1 H2 H' : Hp} {f f1 fp fp1 fp2 xf xf1 xf2 : List Addr} {σ σ1 σ2 : L2.St} {Q : VK} {r : Rs} {v : V} {env env1 env2 : Env}
end
section
variable {X : Cx} {tg a b c : Expr} {ma mb mc : DE} {pos : Pos} {ta tb : DT} {st : Stmt} {rest s1 s2 : List Stmt} {m m1 m2 : DS} {pr : List Nat} {pl : DP} {x : Str} {C : Addr}
end
end R
namespace R
open PySem PySem.Spec PyProof.Rows L2
section
variable {prog : Program} {w : World} {A : Around} {E : Value → Shared → Prop} {s : Shared}
end
section
variable {X : Cx} {a b c : Expr} {ma mb mc : DE} {pos : Pos}
end
end R
namespace R
open PySem PySem.Spec PyProof.Rows L2
section
variable {X : Cx} {a : Expr} {ma : DE} {pos : Pos} {pr : List Nat} {es : List Expr}
end
end R
namespace R
open PySem PySem.Spec PyProof.Rows L2
section
variable {X : Cx} {pr : List Nat} {m : DS} {st : Stmt}
end
end R
namespace R
open PySem PySem.Spec PyProof.Rows L2
section
variable {X : Cx} {a b c d : Expr} {ma mb mc md : DE} {pos : Pos}
end
end R
namespace R
open PySem PySem.Spec PyProof.Rows L2
section
variable {X : Cx} {b c : Expr} {mb mc : DE} {pos p1 : Pos} {pr : List Nat} {x : Str}
end
end R
namespace R
open PySem PySem.Spec PyProof.Rows L2
section
variable {K : PySem.W.Frag} {W : Wd} {H : Hp}
end
section
variable {X : Cx} {a b c : Expr} {ma mb mc : DE} {mr : DA} {pos : Pos}
end
end R
namespace R
open PySem PySem.Spec PyProof.Rows L2
section
variable {X : Cx} {b : Expr} {mb : DE} {pos : Pos} {pr : List Nat} {x : Str}
end
end R
namespace R
theorem ite_eq {A B : Prop} : (fun c : Bool => if c = true then A else B) = fun c => (c = true → A) ∧ (c = false → B) := by
  funext c
  cases c with
  | true => exact propext ⟨fun h => ⟨fun _ => by rw [if_pos rfl] at h; exact h, fun z => by cases z⟩, fun h => by rw [if_pos rfl]; exact h.1 rfl⟩
  | false => exact propext ⟨fun h => ⟨(fun z => by cases z), fun _ => by rw [if_neg Bool.false_ne_true] at h; exact h⟩, fun h => by rw [if_neg Bool.false_ne_true]; exact h.2 rfl⟩
theorem or_p {t u : DT} {env : Env} {Q : Bool → Prop} (h : t env fun c => (c = true → Q true) ∧ (c = false → u env Q)) : mOr t u env Q := by
  show t env fun c => if c = true then Q true else u env Q
  rw [ite_eq]
  exact h
end R
namespace R
open PySem
end R
namespace R
open PySem
end R
namespace R
open PySem
end R
namespace R
open PySem PySem.Spec PyProof.Rows L2
section
variable {X : Cx} {a b c : Expr} {ma mb mc : DE} {pos : Pos} {mr : DA}
end
end R
namespace R
open PySem PySem.Spec PyProof.Rows L2
section
variable {K : PySem.W.Frag} {W W1 W2 W' : Wd} {H H1 H2 H' : Hp} {f f1 fp xf : List Addr} {σ : L2.St} {env : Env}
theorem Stp.at (t : Stp W H [] W' H') {r : Addr} {o : HO} (h : H r = some o) (s : W.S r = none) : H' r = some o := t.kp r o h (by simp) s
theorem LcOk.outer {D r : Addr} {acc : List OT} {o0 o : HO} (L : LcOk K W H fp xf D acc W' H') (hr : H r = some o0) (hg : W.G r = none) (hs : W.S r = none) : LcOk K W (upd H r o) fp xf D acc W' (upd H' r o) := by
  obtain ⟨vs, g, hD, ow, nd, z⟩ := L.own
  have al := some_ne hr
  obtain ⟨e1, e2⟩ := L.t.kpS al
  have ne : ∀ a ∈ D :: g, a ≠ r := fun a m e => by rw [e] at m; rw [(z r m).1] at hr; cases hr
  have nn : ∀ a, upd H r o a ≠ none → H a ≠ none := fun a q => by
    by_cases e : a = r
    · rw [e]; exact al
    · rw [upd_ne e] at q; exact q
  refine ⟨⟨fun a n m => L.t.wx a (nn a n) m, fun a u e m s => ?_, fun a n => ?_⟩, L.S.wr (e1.trans hg) (e2.trans hs), vs, g, by rw [upd_ne (ne D List.mem_cons_self)]; exact hD, ow.mono (.refl _) fun a m u e => by rw [upd_ne (ne a (List.mem_cons_of_mem _ m))]; exact e, nd, fun a m => ⟨by rw [upd_ne (ne a m)]; exact (z a m).1, (z a m).2⟩⟩
  · by_cases q : a = r
    · rw [q, upd_same] at e ⊢; exact e
    · rw [upd_ne q] at e ⊢; exact L.t.kp a u e m s
  · by_cases q : a = r
    · rw [q, upd_same]; exact fun z => nomatch z
    · rw [upd_ne q]; exact L.t.al a (nn a n)
end
section
variable {X : Cx} {a b c : Expr} {ma mb mc : DE} {pos : Pos} {pr : List Nat} {tg elt iter : Expr} {scope : Scope} {own : List (Str × Nat)} {mz : DE}
end
end R
namespace R
open PySem PySem.Spec PyProof.Rows L2
section
variable {X : Cx} {a b c : Expr} {x y z : Str} {ma mb mc : DE} {pos : Pos} {pr : List Nat}
end
end R
namespace R
open PySem
def uS : List Bool → List Nat → List Nat
  | true :: m, sz => 1 :: uS m sz
  | false :: m, s :: sz => s :: uS m sz
  | _, _ => []
def uF : List Bool → List Nat → List Nat
  | true :: m, fw => 0 :: uF m fw
  | false :: m, f :: fw => f :: uF m fw
  | _, _ => []
def uK : List Bool → List (List Nat) → List (List Nat)
  | true :: m, cs => [] :: uK m cs
  | false :: m, c :: cs => c :: uK m cs
  | _, _ => []
inductive Mks : List Bool → Nat → Prop where
  | one : Mks [false] 1
  | unit {m : List Bool} {n : Nat} : Mks m n → Mks (true :: m) n
  | cup {m : List Bool} {n : Nat} : Mks m n → Mks (false :: m) (n + 1)
theorem Mks.pos {m : List Bool} {n : Nat} (h : Mks m n) : 1 ≤ n := by induction h <;> omega
theorem Mks.le {m : List Bool} {n : Nat} (h : Mks m n) : n ≤ m.length := by
  induction h with
  | one => exact Nat.le_refl _
  | unit _ ih => rw [List.length_cons]; omega
  | cup _ ih => rw [List.length_cons]; omega
theorem Mks.cnt {m : List Bool} {n : Nat} (h : Mks m n) : m.count false = n := by
  induction h with
  | one => rfl
  | unit _ ih => rw [List.count_cons, ih] <;> rfl
  | cup _ ih => rw [List.count_cons, ih] <;> rfl
theorem uS_len {m : List Bool} {n : Nat} (h : Mks m n) : ∀ {sz : List Nat}, sz.length = n → (uS m sz).length = m.length := by
  induction h with
  | one =>
    intro sz e
    match sz, e with
    | [s], _ => rfl
  | unit _ ih => intro sz e; rw [uS, List.length_cons, List.length_cons, ih e]
  | cup _ ih =>
    intro sz e
    match sz, e with
    | s :: sz, e => rw [uS, List.length_cons, List.length_cons, ih (by simpa using e)]
theorem uF_len {m : List Bool} {n : Nat} (h : Mks m n) : ∀ {fw : List Nat}, fw.length + 1 = n → (uF m fw).length + 1 = m.length := by
  induction h with
  | one =>
    intro sz e
    match sz, e with
    | [], _ => rfl
  | unit _ ih => intro sz e; rw [uF, List.length_cons, List.length_cons, ih e]
  | cup h ih =>
    intro sz e
    have := h.pos
    match sz, e with
    | [], e => simp at e; omega
    | s :: sz, e => rw [uF, List.length_cons, List.length_cons, ih (by simpa using e)]
theorem Mks.cons {m : List Bool} {n : Nat} (h : Mks m n) {sz : List Nat} (e : sz.length = n) : ∃ s l, uS m sz = s :: l := by
  have a := uS_len h e
  have b := h.le
  have c := h.pos
  cases q : uS m sz with
  | nil => rw [q] at a; rw [List.length_nil] at a; omega
  | cons s l => exact ⟨s, l, rfl⟩
theorem Val.ins {m : List Bool} {n : Nat} (h : Mks m n) : ∀ {sz : List Nat} {cs : List (List Nat)}, sz.length = n → Val sz cs → Val (uS m sz) (uK m cs) := by
  induction h with
  | one =>
    intro sz cs e v
    match sz, e, cs, v with
    | [s], _, [c], v => exact v
  | unit _ ih => intro sz cs e v; exact .cons (by decide) (ih e v)
  | cup _ ih =>
    intro sz cs e v
    match sz, e, cs, v with
    | s :: sz, e, c :: cs, .cons h v => exact .cons h (ih (by simpa using e) v)
theorem fi_ins {m : List Bool} {n : Nat} (h : Mks m n) : ∀ {sz fw : List Nat}, sz.length = n → fw.length + 1 = n → (∀ i, i < fw.length → pk fw i < pk sz i) → ∀ i, i < (uF m fw).length → pk (uF m fw) i < pk (uS m sz) i := by
  induction h with
  | one =>
    intro sz fw e1 e2 _ i hi
    match fw, e2 with
    | [], _ => exact absurd hi (Nat.not_lt_zero _)
  | unit _ ih =>
    intro sz fw e1 e2 hf i hi
    rw [uF, uS]
    rw [uF, List.length_cons] at hi
    cases i with
    | zero => exact Nat.zero_lt_one
    | succ i => exact ih e1 e2 hf i (by omega)
  | cup h ih =>
    intro sz fw e1 e2 hf i hi
    have hp := h.pos
    match sz, e1, fw, e2 with
    | s :: sz, e1, f :: fw, e2 =>
      rw [uF, uS]
      rw [uF, List.length_cons] at hi
      cases i with
      | zero => exact hf 0 (by simp)
      | succ i => exact ih (by simpa using e1) (by simpa using e2) (fun j hj => hf (j + 1) (by rw [List.length_cons]; omega)) i (by omega)
    | s :: sz, e1, [], e2 => simp at e2; omega
theorem s_ins {m : List Bool} {n : Nat} (h : Mks m n) : ∀ {sz : List Nat}, sz.length = n → ∀ s ∈ uS m sz, s = 1 ∨ s ∈ sz := by
  induction h with
  | one =>
    intro sz e s hs
    match sz, e with
    | [t], _ => exact .inr hs
  | unit _ ih =>
    intro sz e s hs
    rw [uS] at hs
    rcases List.mem_cons.mp hs with rfl | hs
    · exact .inl rfl
    · exact ih e s hs
  | cup _ ih =>
    intro sz e s hs
    match sz, e with
    | t :: sz, e =>
      rw [uS] at hs
      rcases List.mem_cons.mp hs with rfl | hs
      · exact .inr List.mem_cons_self
      · exact (ih (sz := sz) (by simpa using e) s hs).imp id (List.mem_cons_of_mem _)
theorem RowM.ins {m : List Bool} {sz fw : List Nat} (M : RowM sz fw) (h : Mks m sz.length) : RowM (uS m sz) (uF m fw) := by
  have a := uS_len h rfl
  have b := uF_len h M.fl
  have c := h.le
  have d := M.l0
  exact ⟨by omega, by omega, fun s hs => (s_ins h rfl s hs).elim (fun e => by omega) (M.s1 s), fi_ins h rfl M.fl M.fi⟩
end R
namespace R
open PySem PySem.Spec PyProof.Rows L2
section
variable {K : PySem.W.Frag} {W W1 W2 W' : Wd} {H H1 H2 H' : Hp} {f f1 fp xf : List Addr} {σ : L2.St}
theorem ResAll.rev {vs : List V} {rs : List Rs} {g : List Addr} (a : ResAll K H fp W' H' vs rs g) : ∃ g', ResAll K H fp W' H' vs.reverse rs.reverse g' ∧ g'.Perm g := by
  induction a with
  | nil => exact ⟨[], .nil, .refl _⟩
  | fz q _ ih =>
    obtain ⟨g', o, p⟩ := ih
    refine ⟨g' ++ [], ?_, by rw [List.append_nil]; exact p⟩
    rw [List.reverse_cons, List.reverse_cons]
    exact o.app (.fz q .nil)
  | nw q _ ih =>
    obtain ⟨g', o, p⟩ := ih
    refine ⟨g' ++ (_ ++ []), ?_, (List.perm_append_comm.trans (p.append_left _)).trans (by rw [List.append_nil])⟩
    rw [List.reverse_cons, List.reverse_cons]
    exact o.app (.nw q .nil)
  | br q z _ ih =>
    obtain ⟨g', o, p⟩ := ih
    refine ⟨g' ++ [], ?_, by rw [List.append_nil]; exact p⟩
    rw [List.reverse_cons, List.reverse_cons]
    exact o.app (.br q z .nil)
  | ex q z _ ih =>
    obtain ⟨g', o, p⟩ := ih
    refine ⟨g' ++ [], ?_, by rw [List.append_nil]; exact p⟩
    rw [List.reverse_cons, List.reverse_cons]
    exact o.app (.ex q z .nil)
end
section
variable (P : Program) (w : World) (K : PySem.W.Frag) (mg : Str → Option Value) (base : Heap)
structure CalZ (x : Str) (n : Nat) (F : Spec1) (ks : List Str) (k : Nat) : Prop where
  ex : ∃ (f : Addr) (fd : FuncData) (ps : List Str) (g : List Value → List Value → List Value), FnOk P w K mg base CX0 k f fd ps (spR K n F.io) ∧ mg x = some (.ref f) ∧ PySem.W.keepIn K (.ref f) = true ∧ KBn K fd ps 0 ks g (fun _ zs => zs.reverse)
structure MetZ (C : Addr) (m : Str) (n : Nat) (F : Spec1) (ks : List Str) (k : Nat) : Prop where
  ex : ∃ (f : Addr) (fd : FuncData) (ps : List Str) (g : List Value → List Value → List Value), Cls K C ∧ Meth K C m f ∧ FnOk P w K mg base CX0 k f fd ps (spR K n F.io) ∧ KBn K fd ps 1 ks g (fun vs zs => vs ++ zs.reverse)
structure MakZ (x : Str) (C : Addr) (n : Nat) (F : Spec) (ks : List Str) (k : Nat) : Prop where
  ex : ∃ (f : Addr) (fd : FuncData) (ps : List Str) (g : List Value → List Value → List Value), Mk K C f ∧ FnOk P w K mg base CX0 k f fd ps (spR K n F) ∧ mg x = some (.ref C) ∧ KBn K fd ps 1 ks g (fun vs zs => vs ++ zs.reverse)
end
section
variable {X : Cx} {CX : CXT} {k j n np : Nat} {f C : Addr} {fd : FuncData} {ps ks : List Str} {sp : Sp} {E : XK} {x m : Str} {p pos apos kpos : Pos} {e o : Expr} {es : List Expr} {kws : List Keyword} {te ta : TE} {t tk : TA} {nm : Option Str} {g : List Value → List Value → List Value} {gV : List V → List V → List V} {F1 : Spec1} {F0 : Spec} {mo : DE} {mk : DA}
end
section
variable {K : PySem.W.Frag} {x qual : Str} {params : Arguments} {body : List Stmt} {scope : Scope} {kws : List (Str × V)} {f : Addr} {fd : FuncData} {ps : List Str}
theorem kbindsZ (F : FunD K x qual params body scope [] kws f fd) (n : Nat) (ks : List Str) (g : {α : Type} → List α → List α → List α) (hrel : ∀ {vs zs : List V} {us ws : List Value}, Vals vs us → Vals zs ws → Vals (g vs zs) (g us ws))
    (h : ∀ (kV doc pm : Value) (an : Option Addr) (cdv ct : Value) (us ws : List Value), us.length = n → ws.length = ks.length → bindArgs (PySem.W.fnOf x qual params body scope .none kV doc pm an cdv ct) ⟨us, ks.zip ws⟩ = pure (ps.zip (g us ws))) : KBn K fd ps n ks (fun us ws => g us ws) (fun vs zs => g vs zs) := by
  obtain ⟨oc, od, dV, kV, doc, pm, an, cdv, ct, osl, rfl, lk, hcd, hD, hK⟩ := F.ex
  rcases hD with ⟨_, rfl⟩ | ⟨e, _⟩
  · exact ⟨fun s us ws _ l1 l2 => .of_eq (h kV doc pm an cdv ct us ws l1 l2), hrel⟩
  · exact absurd rfl e
theorem Vals.rev {vs : List V} {us : List Value} (h : Vals vs us) : Vals vs.reverse us.reverse := by
  induction h with
  | nil => exact .nil
  | cons a _ ih =>
    rw [List.reverse_cons, List.reverse_cons]
    exact ih.append (.cons a .nil)
end
end R
namespace R
open PySem PySem.Spec PyProof.Rows L2
section
variable {X : Cx} {k j n i : Nat} {F0 : Spec} {dv : List D} {m nm : Str} {p pos apos : Pos} {e : Expr} {es : List Expr} {ma : DA} {C : Addr}
end
end R
namespace R
open PySem PySem.Spec PyProof.Rows L2
def exK (ad : Nat → Addr) (E : XK) : Nat → Hp → Prop := fun k H => match fldOf k with
  | none => E (.ref (ad k)) none H
  | some p => ∀ d, H d = some (.xd [(p.1, .str p.2)]) → E (.ref (ad k)) (some d) H
def spX (K : PySem.W.Frag) (ad : Nat → Addr) (n : Nat) (F : Spec) : Sp := fun vs H Q E => vs.length = n ∧ ∃ (W : Wd) (ss : Env) (fp xf : List Addr) (Q0 : Rs → Env → Prop), EnvOk K W H (vs.map some) ss fp xf ∧ Sat K W H fp xf ∧ F ss Q0 ∧
  (∀ r ss', Q0 r ss' → ∀ v W' H' fp' xf', Stp W H fp W' H' → EnvOk K W' H' (vs.map some) ss' fp' xf' → Sat K W' H' fp' xf' → (∀ a ∈ fp', a ∈ fp ∨ H a = none) → RetOk K H fp fp' W' H' v r → Q v H') ∧
  ∀ k ss', Q0 (.fz (.exn k)) ss' → ∀ W' H' fp' xf', Stp W H fp W' H' → EnvOk K W' H' (vs.map some) ss' fp' xf' → Sat K W' H' fp' xf' → (∀ a ∈ fp', a ∈ fp ∨ H a = none) → exK ad E k H'
section
variable {X : Cx} {a b c : Expr} {ma mb mc : DE} {pos : Pos} {pr : List Nat} {ex : Nat → Hp → Prop} {ad : Nat → Addr} {E : XK} {x : Str}
end
end R
namespace R
open PySem PySem.Spec PyProof.Rows L2
section
variable {K : PySem.W.Frag} {W W1 W2 W' : Wd} {H H1 H2 H' : Hp} {f f1 fp fp1 fp2 xf xf1 xf2 : List Addr} {σ σ1 σ2 : L2.St} {Q : VK} {r : Rs} {v : V} {env env1 env2 : Env}
end
section
variable {P : Program} {w : World} {K : PySem.W.Frag} {mg : Str → Option Value} {base : Heap}
end
section
variable (P : Program) (w : World) (K : PySem.W.Frag) (mg : Str → Option Value) (base : Heap) (ad : Nat → Addr)
structure CalX (x : Str) (n : Nat) (F : Spec1) (dv : List D) (k : Nat) : Prop where
  ex : ∃ (f : Addr) (fd : FuncData) (ps : List Str) (ds : List Value) (dvs : List V), FnOk P w K mg base (L2.CX P w) k f fd ps (spX K ad n F.io) ∧ mg x = some (.ref f) ∧ PySem.W.keepIn K (.ref f) = true ∧ Binds K fd ps ds ∧ Vals dvs ds ∧ ∀ W, RepAll K W dvs dv
structure MetX (C : Addr) (m : Str) (n : Nat) (F : Spec1) (dv : List D) (k : Nat) : Prop where
  ex : ∃ (f : Addr) (fd : FuncData) (ps : List Str) (ds : List Value) (dvs : List V), Cls K C ∧ Meth K C m f ∧ FnOk P w K mg base (L2.CX P w) k f fd ps (spX K ad n F.io) ∧ Binds K fd ps ds ∧ Vals dvs ds ∧ ∀ W, RepAll K W dvs dv
end
section
variable {X : Cx} {CX : CXT} {k j n : Nat} {f C : Addr} {fd : FuncData} {ps : List Str} {F1 : Spec1} {F0 : Spec} {dvs : List V} {dv : List D} {ds : List Value} {E : XK} {x m : Str} {p pos apos : Pos} {e o : Expr} {es : List Expr} {mo : DE} {ma : DA}
end
end R
namespace R
open PySem PySem.Spec PyProof.Rows L2
section
variable {X : Cx} {pins : List (Addr × Obj)} {σ : L2.St} {H HZ : Hp} {s s1 : Shared}
end
end R
namespace R
open PySem PySem.Spec PyProof.Rows L2
structure BaseC (K : PySem.W.Frag) (mg : Str → Option Value) (b : Str) (D : Addr) : Prop where
  gl : mg b = some (.ref D)
  kp : PySem.W.keepIn K (.ref D) = true
  sg : PySem.W.specialIn K (.ref D) "__getattribute__" = some (some (.builtin "type.__getattribute__"))
  rd : PySem.W.readsIn K D (.type "type") = true
  fi : PySem.W.findCls K (.ref D) (.type "type") "__init__" = some (.val (.builtin "ValueError.__init__"))
section
variable {X : Cx} {e : Expr} {es : List Expr} {ta : TA} {b : Str} {D : Addr} {p1 p2 pos : Pos}
theorem pe_cinit {pl : Sem Bool} (B : BaseC X.K X.mg b D) (ha : PA X (e :: es) ta) (hg : Gl X b := by rfl) (hdb : (b == ("__debug__" : Str)) = false := by decide)
    (hev : eval (.Call (.Attribute (.Name b p1) "__init__" p2) (e :: es) [] pos) X.env = (do let ov ← eval (.Name b p1) X.env; standAt p2.atName; let (f, first) ← holding [ov] (getMethod ov "__init__" pl); callWith pos f first (backTo pos (starEach (e :: es) X.env)) (backToKw pos (keywordEach [] X.env))) := by rfl)
    (hse : starEach (e :: es) X.env = (false, eval e X.env) :: starEach es X.env := by rfl) (hpl : (backTo pos (starEach es X.env)).any (·.1) = false := by rfl) : PE X (.Call (.Attribute (.Name b p1) "__init__" p2) (e :: es) [] pos) (tVeI X.K ta) :=
  ⟨fun pins s σ H Q I h => PySem.W.methodCall_KW (ld_glob I hg B.gl (PySem.W.method_cls I.kIn B.sg (PySem.W.cls_value I.kIn B.rd B.fi (by decide +kernel) (by
    show wpAny _ _ (callWith pos (Value.builtin "ValueError.__init__") [] (backTo pos (starEach (e :: es) X.env)) []) _ _ _
    refine PyProof.Rows.callWith_method1 (thn (ha.run pos pins _ σ H _ (I.tok _) h) fun us s1 hh => ?_) hse hpl
    obtain ⟨vs, H1, I1, r1, a, C, ws, rfl, hl, T, ea, q⟩ := hh
    cases r1 with
    | @cons _ u0 _ ur ra rw0 =>
      cases (show u0 = Value.ref a from ra)
      exact oinit_ok T I1 ea (by rw [← Paired.length rw0, sizeLine_eq]; omega) fun s2 J => ⟨.non, H1, J, rfl, q⟩))) hdb) hev⟩
end
def spIni (C : Addr) (f : Str) : Sp := fun vs H Q _ => ∃ (a : Addr) (v : V), vs = [.ref a, v] ∧ H a = some (exo a C none) ∧ ∀ dx, H dx = none → dx ≠ a → Q .non (upd (upd H dx (exd dx [(f, v)])) a (exo a C (some dx)))
section
variable {P : Program} {w : World} {K : PySem.W.Frag} {mg : Str → Option Value} {base : Heap}
theorem fn_ini {CX : CXT} {pl : PySem.Env → Sem Bool} {x qual b self f t : Str} {params : Arguments} {scope : Scope} {fI D C : Addr} {fd : FuncData} {j : Nat} {p1 p2 p3 p4 p5 p6 q1 q2 q3 q4 : Pos}
    (F : FunD K x qual params [.Expr (.Call (.Attribute (.Name b p1) "__init__" p2) [.Name self p3, .Constant (.str t) j p4] [] p5) p6, .Assign [.Attribute (.Name self q1) f q2] (.Name f q3) q4] scope [] [] fI fd) (S : FnScope [self, f] [self, f] scope)
    (B : BaseC K mg b D) (T : OexC K C) (hno : PySem.W.findIn K (.ref C) f = some none) (v1 : Vis scope self) (v2 : Vis scope f) (gb : scope.names.lookup b = some .globalImplicit)
    (hev : ∀ env : PySem.Env, eval (.Call (.Attribute (.Name b p1) "__init__" p2) [.Name self p3, .Constant (.str t) j p4] [] p5) env = (do let ov ← eval (.Name b p1) env; standAt p2.atName; let (g, first) ← holding [ov] (getMethod ov "__init__" (pl env)); callWith p5 g first (backTo p5 (starEach [.Name self p3, .Constant (.str t) j p4] env)) (backToKw p5 (keywordEach [] env))))
    (d1 : (self == ("__debug__" : Str)) = false := by decide) (d2 : (self == ("__classdict__" : Str)) = false := by decide) (d3 : (f == ("__debug__" : Str)) = false := by decide) (d4 : (f == ("__classdict__" : Str)) = false := by decide) (d5 : (b == ("__debug__" : Str)) = false := by decide) : L2.FnOk P w K mg base CX 1 fI fd [self, f] (spIni C f) := by
  refine F.ok S (fun vs H Q E h => ?_) fun cdv A outer s H vs Q E hr h => ?_
  · obtain ⟨a, v, rfl, _, _⟩ := h
    rfl
  · obtain ⟨a, v, rfl, ha, hq⟩ := h
    refine ⟨_, pss_cons (ps_expr (pe_cinit (B := B) (pa_cons (pe_var (i := 0) rfl v1 d1 d2) (pa_cons pe_str pa_nil)) gb d5 (hev := hev _))) (pss_one (ps_ost (pe_var (i := 0) rfl v1 d1 d2) (pe_var (i := 1) rfl v2 d3 d4))), ?_⟩
    exact ⟨_, rfl, a, C, [.str t], rfl, by show 1 ≤ 1000; omega, T, ha, _, rfl, _, rfl, a, C, rfl, T, hno, .inl ⟨ha, fun dx n ne => hq dx n ne⟩⟩
end
structure IniC (P : Program) (w : World) (K : PySem.W.Frag) (mg : Str → Option Value) (base : Heap) (x : Str) (C : Addr) (f : Str) (k : Nat) : Prop where
  gl : mg x = some (.ref C)
  ox : OexC K C
  ini : ∃ (fI : Addr) (fd : FuncData) (self : Str), PySem.W.findIn K (.ref C) "__init__" = some (some (.ref fI)) ∧ PySem.W.typeIn K (.ref fI) = some (.type "function") ∧ L2.FnOk P w K mg base (L2.CX P w) 1 fI fd [self, f] (spIni C f) ∧ Binds K fd [self, f] []
section
variable {X : Cx} {E : XK} {ad : Nat → Addr} {x f v : Str} {p p2 pos pos2 : Pos}
end
end R
namespace R
open PySem PySem.Spec PySem.W PySem.Calls PyProof.Rows
section
variable {prog : Program} {w : World} {A : Around} {E : Value → Shared → Prop} {s : Shared} {K : Frag} {x D : Addr} {ox : Obj} {od : Option Obj}
theorem find_cls (hd : hasDictIn K D = true) (ha : findIn K (.ref D) "__class__" = some (some (.builtin "object.__class__"))) (hn : specialIn K (.builtin "object.__class__") "__get__" = some (some (.builtin "getset_descriptor.__get__"))) (ht : takesIn K (.builtin "object.__class__") = some true) :
    findObj K D od "__class__" = some (.bind (.builtin "getset_descriptor.__get__") (.builtin "object.__class__")) := by
  obtain ⟨cd, hc, _⟩ := any_some hd
  unfold findObj
  rw [hc, Option.bind_some, ha, Option.bind_some]
  simp only [hn, ht, Option.bind_some]
theorem err_class {Q : Option Value → Shared → Prop} (c : L2.ExcC K D) (X : K.In s.heap) (I : InstAt s.heap x ox D od) (h : Q (some (.ref D)) { s with toks := s.toks + 1 }) : wpAny (model prog w) A (getAttr? (.ref x) "__class__") Q E s := by
  obtain ⟨hp, g, dr, tk, os⟩ := s
  have ty := I.type (M := model prog w)
  have l1 := looks_findIn (M := model prog w) X c.hg
  have l2 := looks_findIn (M := model prog w) X c.hk
  have l3 := looks_find (M := model prog w) X I (find_cls (od := od) c.hd c.ha c.hn c.ht)
  have l4 : Looks (model prog w) hp (isInstance (.ref x) (.type "BaseException")) true := ty.andThen (looks_subIn X c.hs)
  have n1 : (Value.builtin "BaseException.__getattribute__" == Value.builtin "object.__getattribute__") = false := by decide +kernel
  have n2 : (onTheHeap (Value.ref D) && Value.builtin "BaseException.__getattribute__" == Value.builtin "object.__getattribute__") = false := by rw [n1] <;> rfl
  have n3 : (false && onTheHeap (Value.builtin "BaseException.__getattribute__")) = false := rfl
  unfold getAttr? getAttrBy? getAttrBy
  refine wpAny_bind (wpAny_mkText (wpAny_bind (wpAny_attempt (wpAny_holding (wpAny_bind (ty.at (wpAny_bind (l1.at ?_))))))))
  change wpAny _ _ (if (onTheHeap (Value.ref D) && Value.builtin "BaseException.__getattribute__" == Value.builtin "object.__getattribute__") = true then _ else _) _ _ _
  rw [n2, if_neg Bool.false_ne_true]
  unfold getAttrByItsOwn hookBefore
  refine wpAny_bind (by
    rw [if_pos (show onTheHeap (Value.ref D) = true from rfl)]
    refine l2.at (wpAny_bind (wpAny_attempt (wpAny_holding ?_)))
    unfold callGetattribute
    rw [n3, if_neg Bool.false_ne_true]
    unfold boundAndCalled
    rw [PySem.F.excAttr_ValueError.ga.bind (.ref x)]
    refine wpAny_bind (wpAny_pure ?_)
    change wpAny _ _ (call (.builtin "BaseException.__getattribute__") [.ref x, .str "__class__" tk]) _ _ _
    refine wpAny_call (codeAny_call_builtin PySem.F.excAttr_ValueError.ga.plain PySem.F.entry_bexc_ga (@check_slot (model prog w) _ _ ⟨hp, g, dr, tk + 1, os⟩ "BaseException.__getattribute__" "BaseException" "__getattribute__" (.ref x) [.str "__class__" tk] [] _ (by decide +kernel) (by decide +kernel) l4 (PySem.F.args_bexc_ga (.ref x) (.str "__class__" tk)) ?_))
    unfold Builtin.«object.__getattribute__»
    refine wpAny_bind (wpAny_of_eq (a := ((Value.ref x : Value), [Value.str "__class__" tk])) (by first | rfl | (simp only [slotArgs]; rfl)) (wpAny_bind (wpAny_pure (wpAny_bind (ty.at (wpAny_bind (l3.at ?_)))))))
    change wpAny _ _ (holding [Value.builtin "object.__class__"] (call (.builtin "getset_descriptor.__get__") [.builtin "object.__class__", .ref x, .ref D]) >>= ret) _ _ _
    refine wpAny_bind (wpAny_holding (wpAny_call (class_get (s := ⟨hp, g, dr, tk + 1, os⟩) (ox := ox) (od := od) X I c.hm (wpAny_pure ?_))))
    change wpAny _ _ (handedOut (.ref D)) _ _ _
    rw [handedOut_of (v := .ref D) rfl]
    first
      | exact wpAny_pure (wpAny_pure h)
      | exact wpAny_pure h
      | exact wpAny_pure (wpAny_bind (wpAny_pure (wpAny_pure h))))
theorem err_kit (c : L2.ExcC K D) : KitX K (.ref x) (.ref D) (fun h => InstAt h x ox D od) where
  ty := fun _ _ _ I => I.type
  it := fun A2 h2 X2 _ => by
    obtain ⟨cdD, e, _⟩ := any_some c.hd
    unfold clsIn at e
    split at e
    · rename_i oh
      exact fun _ _ _ _ k q => by
        unfold isType loadHead
        exact wpAny_bind (wpAny_loadPart (k _ _ (X2 _ _ oh)) (wpAny_pure q))
    · cases e
  ne := fun h tp dd its n sl X2 htp => Bool.eq_false_iff.mpr fun q => by
    obtain ⟨cdD, e, _⟩ := any_some c.hd
    have e2 : D = tp := Value.ref.inj (beq_iff_eq.mp q)
    subst e2
    unfold clsIn at e
    split at e
    · rename_i oh
      cases (X2 _ _ oh).symm.trans htp
    · cases e
  ca := fun X2 I k => err_class c X2 I k
end
end R
namespace R
open PySem PySem.Spec PyProof.Rows L2
def dOf (k : Nat) (dd : Addr) : Option Addr := match fldOf k with
  | some _ => some dd
  | none => none
def excR (k : Nat) (r dd : Addr) : Rs := match fldOf k with
  | some p => .ex (.xo r dd p.1 p.2)
  | none => .fz (.adr r)
def outEnv (N : List Str) (i k : Nat) (f r dd : Addr) : Env := (some (.fz (.adr f)) :: List.replicate (N.length - 1) none).set i (some (excR k r dd))
structure OutD (P : Program) (w : World) (K : PySem.W.Frag) (mg : Str → Option Value) (base : Heap) (ad : Nat → Addr) (x : Str) (wd : Option Nat → D) (ks : List Nat) (g CS : Addr) (fd : FuncData) (a n e ret : Str) (pg : Arguments) (b1 : Stmt) (suite : List Stmt) (sg : Scope) (N : List Str) (i : Nat) (ms : Nat → Addr → Addr → DS) (j : Nat) (p1 p2 p3 p4 p5 p6 p7 p8 : Pos) : Prop where
  fn : FunD K x x pg [.Try [.Expr (.Call (.Name a p1) [] [] p2) p3] [.ExceptHandler (some (.Name e p4)) (some n) (b1 :: suite) p5] [] [] p6, .Return (some (.Constant (.str ret) j p7)) p8] sg [] [] g fd
  gm : mg x = some (.ref g)
  bd : Binds K fd [a] []
  sc : FnScope N [a] sg
  h0 : N[0]? = some a
  va : Vis sg a
  a1 : (a == ("__debug__" : Str)) = false
  a2 : (a == ("__classdict__" : Str)) = false
  hi : N[i]? = some n
  ln : sg.names.lookup n = some .local
  ge : sg.names.lookup e = some .globalImplicit
  de : (e == ("__debug__" : Str)) = false
  me : mg e = some (.ref CS)
  exm : ∀ k ∈ ks, PySem.W.exmOne K (.ref (ad k)) (.ref CS) = some true
  su : ∀ k ∈ ks, ∀ (cdv : Value) (A : Around) (outer : List PySem.Env) (s : Shared) (H : Hp) (r dd : Addr) (oe : Obj) (pn : List (Addr × Obj)), Zc (.ref (ad k)) (dOf k dd) oe → (∃ vs, oe.data = .fields vs) → Room 0 (A.deeper (envOfC x sg s.heap.objs.size g cdv)) → PSs ((cxOf CX0 P w K mg base N x sg g cdv A outer s H fun _ _ _ => False).nox.suite r ((r, oe) :: pn)) (b1 :: suite) (LS K exT [] (ms k r dd))
  rd : ∀ k ∈ ks, ∀ f r dd : Addr, ms k r dd (outEnv N i k f r dd) { nx := fun _ => False, rt := fun z _ => z = .fz (wd (some k)) }
  wn : wd none = .str ret
structure OutC (P : Program) (w : World) (K : PySem.W.Frag) (mg : Str → Option Value) (base : Heap) (ad : Nat → Addr) (x : Str) (wd : Option Nat → D) (ks : List Nat) : Prop where
  ex : ∃ (g CS : Addr) (fd : FuncData) (a n e ret : Str) (pg : Arguments) (b1 : Stmt) (suite : List Stmt) (sg : Scope) (N : List Str) (i : Nat) (ms : Nat → Addr → Addr → DS) (j : Nat) (p1 p2 p3 p4 p5 p6 p7 p8 : Pos), OutD P w K mg base ad x wd ks g CS fd a n e ret pg b1 suite sg N i ms j p1 p2 p3 p4 p5 p6 p7 p8
section
variable {X : Cx}
end
end R
namespace R
open PySem PySem.Spec PyProof.Rows L2
structure ErrC (K : PySem.W.Frag) (mg : Str → Option Value) (x : Str) (a : Addr) : Prop where
  gl : mg x = some (.ref a)
  q : PySem.W.excIn K a He.veBase "ValueError.__new__" = true
  kp : PySem.W.keepIn K (.ref a) = true
  sb : PySem.W.subIn K (.ref a) (.type "BaseException") = some true
  ty : PySem.W.typeIn K (.ref a) = some (.type "type")
structure ErrI (K : PySem.W.Frag) (ad : Nat → Addr) (n k : Nat) : Prop where
  c : ExcC K (ad k)
  is : ∀ j, j < n → PySem.W.kitOne K (.ref (ad k)) (.ref (ad j)) = some (clsK k == j)
  ve : PySem.W.kitOne K (.ref (ad k)) (.type "ValueError") = some true
  nf : ∀ p, fldOf k = some p → PySem.W.findIn K (.ref (ad k)) p.1 = some none
theorem ErrI.congr {K : PySem.W.Frag} {ad ad' : Nat → Addr} {n k : Nat} (h : ErrI K ad n k) (hk : ad k = ad' k) (e : ∀ j, j < n → ad j = ad' j) : ErrI K ad' n k := ⟨by rw [← hk]; exact h.c, fun j hj => by rw [← hk, ← e j hj]; exact h.is j hj, by rw [← hk]; exact h.ve, by rw [← hk]; exact h.nf⟩
theorem errB_ok {K : PySem.W.Frag} {D : Addr} (h : errB K D = true) : ExcC K D := by
  obtain ⟨h1, h⟩ := He.ba h
  obtain ⟨h2, h⟩ := He.ba h
  obtain ⟨h3, h⟩ := He.ba h
  obtain ⟨h4, h⟩ := He.ba h
  obtain ⟨h5, h⟩ := He.ba h
  obtain ⟨h6, h⟩ := He.ba h
  obtain ⟨h7, h8⟩ := He.ba h
  exact ⟨He.eqO_ok h1, He.eqO_ok h2, of_decide_eq_true h3, h4, He.eqO_ok h5, He.eqO_ok h6, of_decide_eq_true h7, of_decide_eq_true h8⟩
theorem errIB_ok {K : PySem.W.Frag} {ad : Nat → Addr} {n k : Nat} (h : errIB K ad n k = true) : ErrI K ad n k := by
  obtain ⟨h1, h⟩ := He.ba h
  obtain ⟨h, h4⟩ := He.ba h
  obtain ⟨h2, h3⟩ := He.ba h
  refine ⟨errB_ok h1, fun j hj => of_decide_eq_true (List.all_eq_true.mp h2 j (List.mem_range.mpr hj)), of_decide_eq_true h3, fun p e => ?_⟩
  rw [e] at h4
  exact He.eqO_ok h4
theorem iniB_ok {K : PySem.W.Frag} {C : Addr} {f : Str} (h : iniB K C f = true) : OexC K C ∧ PySem.W.findIn K (.ref C) f = some none ∧ PySem.W.findIn K (.ref C) "__init__" = some (some (.ref (He.ma K C "__init__"))) ∧ PySem.W.typeIn K (.ref (He.ma K C "__init__")) = some (.type "function") := by
  obtain ⟨h1, h⟩ := He.ba h
  obtain ⟨h2, h⟩ := He.ba h
  obtain ⟨h3, h⟩ := He.ba h
  obtain ⟨h4, h⟩ := He.ba h
  obtain ⟨h5, h⟩ := He.ba h
  obtain ⟨h6, h⟩ := He.ba h
  obtain ⟨h7, h8⟩ := He.ba h
  refine ⟨⟨?_, He.eqO_ok h2, of_decide_eq_true h3, of_decide_eq_true h4, h5⟩, He.eqO_ok h6, He.eqO_ok h7, of_decide_eq_true h8⟩
  split at h1
  · rename_i dd cd sl ho
    split at h1
    · rename_i C2 bm k0 k1 k2 k3 n k5 hm hs
      obtain ⟨a1, a2⟩ := He.ba h1
      obtain ⟨a2, a3⟩ := He.ba a2
      obtain ⟨a3, b4⟩ := He.ba a3
      obtain ⟨a4, a5⟩ := He.ba b4
      clear b4
      have e1 : C2 = C := beq_iff_eq.mp a1
      have e2 : n = "ValueError.__new__" := beq_iff_eq.mp a2
      obtain ⟨nm, bs, mro, ns, qn, hd, sn, sub, ab, col, del⟩ := cd
      dsimp only at hm a3 a4
      have e4 : hd = true := a4
      have e3 : del = false := by cases del with
        | false => rfl
        | true => cases a3
      have hsl : sl = #[k0, k1, k2, k3, some (.builtin n), k5] := by
        obtain ⟨l⟩ := sl
        dsimp only at hs
        rw [hs]
      subst e1 e2 e3 hm hsl e4
      exact ⟨_, _, _, _, _, _, _, _, _, _, _, _, _, _, _, ho, a5⟩
    · cases h1
  · cases h1
theorem basB_ok {K : PySem.W.Frag} {mg : Str → Option Value} {b : Str} {D : Addr} (g : mg b = some (.ref D)) (h : basB K D = true) : BaseC K mg b D := by
  obtain ⟨h1, h⟩ := He.ba h
  obtain ⟨h2, h⟩ := He.ba h
  obtain ⟨h3, h4⟩ := He.ba h
  refine ⟨g, h1, He.eqO_ok h2, h3, ?_⟩
  split at h4
  · rename_i n e
    rw [e, show n = "ValueError.__init__" from beq_iff_eq.mp h4]
  · cases h4
section
variable {X : Cx} {k j n np : Nat} {C : Addr} {F1 : Spec1} {x m : Str} {p pos apos : Pos} {e o : Expr} {es : List Expr} {mo : DE} {ma mk : DA} {kws : List Keyword} {ks : List Str} {E : XK} {ad : Nat → Addr}
structure MetKX (P : Program) (w : World) (K : PySem.W.Frag) (mg : Str → Option Value) (base : Heap) (ad : Nat → Addr) (C : Addr) (m : Str) (n : Nat) (F : Spec1) (np : Nat) (ks : List Str) (k : Nat) : Prop where
  ex : ∃ (f : Addr) (fd : FuncData) (ps : List Str) (g : List Value → List Value → List Value), Cls K C ∧ Meth K C m f ∧ FnOk P w K mg base (L2.CX P w) k f fd ps (spX K ad n F.io) ∧ KBn K fd ps (np + 1) ks g (fun vs zs => vs ++ zs)
end
theorem exB_is {is es : List Str} {ks : List Nat} {tf : List He.Defn} {ox : List (Str × Str)} {K : PySem.W.Frag} (h : exB is es ks tf ox K = true) : is.all (isB K) = true := (He.ba h).1
theorem exB_err {is es : List Str} {ks : List Nat} {tf : List He.Defn} {ox : List (Str × Str)} {K : PySem.W.Frag} (h : exB is es ks tf ox K = true) {k : Nat} (m : k ∈ ks) : ErrI K (fun k => He.ga K (es.getD k "")) 7 k := errIB_ok (List.all_eq_true.mp (He.ba (He.ba h).2).1 k m)
theorem lookup_mem {α : Type} {a : Addr} {o : α} : ∀ {l : List (Addr × α)}, l.lookup a = some o → (a, o) ∈ l
  | [], h => by cases h
  | (b, u) :: r, h => by
    rw [List.lookup_cons] at h
    cases q : a == b with
    | true =>
      rw [q] at h
      cases h
      rw [beq_iff_eq.mp q]
      exact List.mem_cons_self
    | false =>
      rw [q] at h
      exact List.mem_cons_of_mem _ (lookup_mem h)
theorem exB_tab {is es : List Str} {ks : List Nat} {tf : List He.Defn} {ox : List (Str × Str)} {K : PySem.W.Frag} (h : exB is es ks tf ox K = true) {P : Addr} {q : Str} (e : (lamTab K).lookup P = some q) : ∃ p ∈ tf.map (He.cT K), p.2 = P := by
  obtain ⟨p, hp, z⟩ := List.any_eq_true.mp (List.all_eq_true.mp (He.ba (He.ba (He.ba h).2).2).1 (P, q) (lookup_mem e))
  exact ⟨_, List.mem_map.mpr ⟨p, hp, rfl⟩, beq_iff_eq.mp z⟩
theorem exB_ox {is es : List Str} {ks : List Nat} {tf : List He.Defn} {ox : List (Str × Str)} {K : PySem.W.Frag} (h : exB is es ks tf ox K = true) {p : Str × Str} (m : p ∈ ox) : iniB K (He.ga K p.1) p.2 = true ∧ basB K (He.ga K "CupLadderError") = true := He.ba (List.all_eq_true.mp (He.ba (He.ba (He.ba (He.ba h).2).2).2).2 p m)
theorem tabs_at {fa : List He.Fa} {fn : List He.DefD} {ts : List He.Tab} {tf : List He.Defn} {ex : PySem.W.Frag → Bool} {w : World} {h : Heap} {K : PySem.W.Frag} {mg : Str → Option Value} (X : K.In h) (c : He.SaysX fa fn ts tf ex w h K)
    (b : ∃ (m : Addr) (o : Obj), mg "__builtins__" = some (.ref m) ∧ m ≠ builtinsNs ∧ h.get? m = some o ∧ o.cls = .type "module" ∧ o.dict = some builtinsNs ∧ o.data = .plain) : TabsAt K mg h (tf.map (He.cT K)) := by
  refine ⟨fun p m => ?_, fun p m => ?_, fun p m => ?_, b⟩
  all_goals
    obtain ⟨q, hq, rfl⟩ := List.mem_map.mp m
  · exact c.empty q hq
  · exact c.out q hq
  · exact PySem.W.codeHd_of_K X (c.hd q hq)
end R
namespace R
open PySem PySem.Spec PyProof.Rows L2
section
variable {X : Cx} {a b e : Expr} {es : List Expr} {ma mb : DE} {mr : DA} {pos : Pos} {pr : List Nat} {ex : Nat → Hp → Prop} {x : Str} {n k j : Nat} {F1 : Spec1} {dv : List D}
variable {tg elt iter : Expr} {ifs : List Expr} {scope : Scope} {own : List (Str × Nat)} {g : DG} {t : DT} {mi : DE}
end
end R
namespace R
open PySem PySem.Spec PyProof.Rows L2
section
variable {X : Cx} {a b : Expr} {ma mb : DE}
end
end R
namespace R
open PySem PySem.Spec PyProof.Rows L2
section
variable {X : Cx} {a b : Expr} {ma mb : DE} {pos : Pos} {C : Addr}
end
section
variable {X : Cx} {CX : CXT} {C f : Addr} {fd : FuncData} {ps : List Str} {k : Nat} {sp : Sp} {E : XK}
end
section
variable {X : Cx} {k j : Nat} {C : Addr} {F1 : Spec1} {pos : Pos} {a b : Expr} {ma mb : DE}
end
end R
namespace R
open PySem PySem.Spec PyProof.Rows L2
section
variable {K : PySem.W.Frag} {W W' : Wd} {H H' : Hp} {fp : List Addr}
end
section
variable {X : Cx} {a b : Expr} {ma mb : DE} {pos : Pos} {k : Nat} {pr : List Nat}
end
end R
namespace R
open PySem PySem.Spec PyProof.Rows L2
section
variable {X : Cx} {a : Expr} {ma : DE} {pr : List Nat} {ex : Nat → Hp → Prop} {ad : Nat → Addr} {x : Str}
end
end R
namespace R
open PySem PySem.Spec PyProof.Rows L2
section
variable {prog : Program} {w : World} {A : Around}
end
end R
namespace R
open PySem PySem.Spec PyProof.Rows L2
section
variable {X : Cx} {a b : Expr} {pos : Pos} {mr : DA}
end
end R
namespace R
open PySem PySem.Spec PyProof.Rows L2
section
variable {X : Cx} {k n : Nat} {F0 : Spec} {dvs : List V} {dv : List D} {E : XK} {x : Str} {p pos : Pos} {e : Expr} {es : List Expr} {ma : DA} {is : List Nat} {m0 : DE} {ms : List DE}
end
end R
namespace R
open PySem PySem.Spec PyProof.Rows L2
section
variable {X : Cx} {pins : List (Addr × Obj)} {σ : L2.St} {H : Hp} {s : Shared}
end
end R
namespace R
open PySem PySem.Spec PyProof.Rows L2
section
variable {X : Cx} {pins : List (Addr × Obj)} {σ : L2.St} {H : Hp} {s : Shared}
theorem vals_ints {ns : List Int} : ∀ {kA : List Value}, Vals (ns.map V.int) kA → IntsAre kA ns := by
  induction ns with
  | nil => intro kA h; cases h; exact .nil
  | cons n ns ih =>
    intro kA h
    cases h with
    | cons r h =>
      obtain ⟨t, rfl⟩ := r
      exact .cons n t (ih h)
end
end R
namespace R
open PySem PySem.Spec PyProof.Rows L2
section
variable {X : Cx}
end
end R
namespace R
open PySem PySem.Spec PyProof.Rows L2
section
variable {X : Cx} {a b c : Expr} {ma mb mc : DE} {mr : DA} {pos p1 : Pos} {pr : List Nat} {x : Str}
end
end R
namespace R
open PySem PySem.Spec PyProof.Rows L2
section
variable (P : Program) (w : World) (K : PySem.W.Frag) (mg : Str → Option Value) (base : Heap) (ad : Nat → Addr)
structure MakX (x : Str) (C : Addr) (n : Nat) (F : Spec) (dv : List D) (k : Nat) : Prop where
  ex : ∃ (f : Addr) (fd : FuncData) (ps : List Str) (ds : List Value) (dvs : List V), Mk K C f ∧ FnOk P w K mg base (L2.CX P w) k f fd ps (spX K ad n F) ∧ mg x = some (.ref C) ∧ Binds K fd ps ds ∧ Vals dvs ds ∧ ∀ W, RepAll K W dvs dv
structure MakKX (x : Str) (C : Addr) (n : Nat) (F : Spec) (np : Nat) (ks : List Str) (k : Nat) : Prop where
  ex : ∃ (f : Addr) (fd : FuncData) (ps : List Str) (g : List Value → List Value → List Value), Mk K C f ∧ FnOk P w K mg base (L2.CX P w) k f fd ps (spX K ad n F) ∧ mg x = some (.ref C) ∧ KBn K fd ps (np + 1) ks g (fun vs zs => vs ++ zs)
end
section
variable {X : Cx} {CX : CXT} {k j n np : Nat} {f C : Addr} {fd : FuncData} {ps ks : List Str} {F0 : Spec} {dvs : List V} {dv : List D} {ds : List Value} {E : XK} {x m : Str} {p pos apos : Pos} {e o : Expr} {es : List Expr} {ma mk : DA} {kws : List Keyword} {ad : Nat → Addr} {pr : List Nat} {ex : Nat → Hp → Prop} {a : Expr} {mx : DE}
end
section
variable {P : Program} {w : World} {K : PySem.W.Frag} {mg : Str → Option Value} {base : Heap} {ad : Nat → Addr} {k k1 k2 n : Nat} {f : Addr} {fd : FuncData} {ps : List Str} {F1 F2 : Spec}
end
end R
namespace R
open PySem PySem.Spec PyProof.Rows L2
structure Mid (X : Cx) (sB : Shared) (HB : Hp) (sc : Scope) (ce : PySem.Env) (fp : List Addr) (ws : List Nat) (σ : L2.St) (tn : Nat → Heap → Prop) (W : Nat → Nat → Hp → Prop) (n : Nat) (t : Shared) : Prop where
  ex : ∃ (i : Nat) (G : Hp), Inv (X.blk sB HB sc ce fp) [] (wipe σ ws) G t ∧ tn i t.heap ∧ (∀ b ∈ fp, G b = none) ∧ W i n G
section
variable {X : Cx}
end
end R
namespace R
open PySem PySem.Spec PyProof.Rows L2
theorem put_new {K : PySem.W.Frag} {W : Wd} {H : Hp} {fp xf : List Addr} {p : Addr} {o : HO} (S : Sat K W H fp xf) (n : H p = none) : ∃ W', Stp W H [] W' (upd H p o) ∧ Sat K W' (upd H p o) fp xf ∧ W'.G p = some o ∧ W.Le W' := by
  have fr := S.free n
  have F : Frz K W (upd H p o) [p] (W.put p o) := Frz.put ⟨fun _ _ => ⟨rfl, rfl⟩, fun _ m => (by cases m), fun _ m => (by cases m)⟩ upd_same fr.2 (by simp)
  have hnf : ∀ a ∈ [p], W.G a = none ∧ W.S a = none ∧ upd H p o a ≠ none := fun a m => by
    rw [List.mem_singleton.mp m]
    exact ⟨fr.1, fr.2, by rw [upd_same]; exact fun z => nomatch z⟩
  refine ⟨W.put p o, (Stp.new n).trans F.stp fun a m => .inr (by rw [List.mem_singleton.mp m]; exact n), F.sat (S.new n) hnf fun a m => ?_, upd_same, F.le fun a m => ⟨(hnf a m).1, (hnf a m).2.1⟩⟩
  rw [List.mem_singleton.mp m]
  exact ⟨fun q => (S.off p q).2.2 n, fun q => (S.xof p q).2.2 n⟩
section
variable {X : Cx} {pins : List (Addr × Obj)} {σ : L2.St} {H HZ : Hp} {s s1 : Shared}
end
end R
namespace R
open PySem PySem.Spec PyProof.Rows L2
section
variable {X : Cx} {a : Expr} {ma : DE} {pos : Pos}
end
end R
namespace R
open PySem PySem.Spec PyProof.Rows L2
mutual
inductive Dq (H : Hp) : V → PyData → Prop
  | non : Dq H .non .none
  | bl (b : Bool) : Dq H (.bl b) (.bool b)
  | int (i : Int) : Dq H (.int i) (.int i)
  | str (x : Str) : Dq H (.str x) (.str x)
  | lst {a : Addr} {xs : List V} {ds : List PyData} : H a = some (.lst xs) → DqAll H xs ds → Dq H (.ref a) (.list ds)
  | tup {a : Addr} {xs : List V} {ds : List PyData} : H a = some (.tup xs) → DqAll H xs ds → Dq H (.ref a) (.tuple ds)
  | dct {a : Addr} : H a = some (.dK []) → Dq H (.ref a) (.dict [])
inductive DqAll (H : Hp) : List V → List PyData → Prop
  | nil : DqAll H [] []
  | cons {v : V} {vs : List V} {d : PyData} {ds : List PyData} : Dq H v d → DqAll H vs ds → DqAll H (v :: vs) (d :: ds)
end
section
variable {X : Cx} {pins : List (Addr × Obj)} {σ : L2.St} {H : Hp} {s : Shared}
def RpOk (P : Program) (w : World) (h : Heap) (u : Value) (d : PyData) : Prop := ∃ as bs, Reads h u d as ∧ ReadAtMost h d.depth bs ∧ ReprK P w bs h d.depth u d.shown
def RpAll (P : Program) (w : World) (h : Heap) (us : List Value) (ds : List PyData) : Prop := ∃ as bs, ReadsAll h us ds as ∧ ReadAtMost h (PyData.depthAll ds) bs ∧ ReprAllK P w bs h (PyData.depthAll ds) us (PyData.shownAll ds)
theorem rp_dict (I : Inv X pins σ H s) {a : Addr} (g : H a = some (.dK [])) : ∃ o n, s.heap.get? a = some o ∧ o.cls = .type "dict" ∧ o.data = .dict #[] n ∧ (a == sysModules) = false := by
  obtain ⟨_, lo, vs, rel, o, es, ep, ho, hx, hd, _, hpr, _⟩ := dk_of I.hok g
  cases rel
  have he : es = #[] := by
    have : es.toList = [] := by
      generalize es.toList = l at hpr
      cases hpr
      rfl
    rw [← Array.toArray_toList (xs := es), this]
  subst he
  exact ⟨o, ep, ho, hx.1, hd, lo⟩
mutual
theorem Dq.rp (I : Inv X pins σ H s) : ∀ (d : PyData) (v : V) (u : Value), Dq H v d → RelV v u → d.showable = true → d.shown.length ≤ sizeLine → RpOk X.prog X.w s.heap u d
  | .none, _, _, h, r, _, _ => by
    cases h
    cases r
    exact ⟨_, [], Reads.none, (fun _ h => nomatch h), by simp only [PyData.shown]; exact .of_is ReprIs.none _ _ _⟩
  | .bool b, _, _, h, r, _, _ => by
    cases h
    cases r
    exact ⟨_, [], Reads.bool b, (fun _ h => nomatch h), by simp only [PyData.shown]; exact .of_is (ReprIs.bool b) _ _ _⟩
  | .int i, _, _, h, r, hs, _ => by
    cases h
    obtain ⟨t, rfl⟩ := r
    exact ⟨_, [], Reads.int i t, (fun _ h => nomatch h), by simp only [PyData.shown]; exact .of_is (ReprIs.int t (by simpa [PyData.showable] using hs)) _ _ _⟩
  | .str x, _, _, h, r, _, hz => by
    cases h
    obtain ⟨t, rfl⟩ := r
    exact ⟨_, [], Reads.str x t, (fun _ h => nomatch h), by simp only [PyData.shown]; exact .of_is (ReprIs.str x t (by simpa only [PyData.shown] using hz)) _ _ _⟩
  | .list ds, _, _, h, r, hs, hz => by
    cases h with
    | lst g ha =>
      cases r
      have hz' : (listText (PyData.shownAll ds)).length ≤ sizeLine := by simpa only [PyData.shown] using hz
      obtain ⟨its, rv, ⟨o, n, h1, h2, _, h3⟩, _⟩ := I.list (.of g)
      obtain ⟨as, bs, h4, hb, hk⟩ := Dq.rpAll I ds _ its ha rv (by simpa [PyData.showable] using hs) (fun t ht => Nat.le_trans (listText_mem_le ht) hz')
      have r := Reads.list h1 h2 h3 h4
      have hna := not_mem_of_deeper r (by simp only [PyData.depth]; omega) hb
      refine ⟨_, _, r, ReadAtMost.cons r (by simp only [PyData.depth]; omega) hb, ?_⟩
      simp only [PyData.depth, PyData.shown]
      cases its with
      | nil =>
        cases h4
        simp only [PyData.shownAll, listText_nil]
        exact ReprK.listEmpty h1 h2 h3
      | cons x l => exact ReprK.list h1 h2 h3 hna (by simpa using hk.length_eq) (fun i y e => hk.item i y (by simpa using e))
  | .tuple ds, _, _, h, r, hs, hz => by
    cases h with
    | tup g ha =>
      cases r
      have hz' : (tupleText (PyData.shownAll ds)).length ≤ sizeLine := by simpa only [PyData.shown] using hz
      obtain ⟨its, rv, ⟨o, h1, h2, n, h3⟩, _⟩ := I.tuple (.of g)
      obtain ⟨as, bs, h4, hb, hk⟩ := Dq.rpAll I ds _ its ha rv (by simpa [PyData.showable] using hs) (fun t ht => Nat.le_trans (tupleText_mem_le ht) hz')
      have r := Reads.tuple h1 h2 h3 h4
      have hna := not_mem_of_deeper r (by simp only [PyData.depth]; omega) hb
      refine ⟨_, _, r, ReadAtMost.cons r (by simp only [PyData.depth]; omega) hb, ?_⟩
      simp only [PyData.depth, PyData.shown]
      exact ReprK.tuple h1 h2 h3 hna hk
  | .dict kvs, _, _, h, r, _, _ => by
    cases h with
    | dct g =>
      cases r
      obtain ⟨o, n, h1, h2, h3, lo⟩ := rp_dict I g
      have r := Reads.dict (h := s.heap) (kvs := []) h1 h2 h3 .nil .nil
      refine ⟨_, _, r, ReadAtMost.cons r (Nat.zero_le _) (bs := []) (fun _ h => nomatch h), ?_⟩
      simp only [PyData.depth, PyData.shown, PyData.shownKv]
      exact ReprK.dict h1 h2 h3 lo (fun h => nomatch h) (ReprEntriesK.of_two [] [] [] .nil .nil)
theorem Dq.rpAll (I : Inv X pins σ H s) : ∀ (ds : List PyData) (vs : List V) (us : List Value), DqAll H vs ds → Vals vs us → PyData.showableAll ds = true → (∀ t ∈ PyData.shownAll ds, t.length ≤ sizeLine) → RpAll X.prog X.w s.heap us ds
  | [], _, _, h, r, _, _ => by
    cases h
    cases r
    exact ⟨_, [], ReadsAll.nil, (fun _ h => nomatch h), by simp only [PyData.shownAll]; exact .nil⟩
  | d :: ds, _, _, h, r, hs, hz => by
    cases h with
    | cons h1 h2 =>
      cases r with
      | cons r1 r2 =>
        have hs' : d.showable = true ∧ PyData.showableAll ds = true := by simpa [PyData.showableAll] using hs
        obtain ⟨as, b1, q1, hb1, k1⟩ := Dq.rp I d _ _ h1 r1 hs'.1 (hz _ (by simp only [PyData.shownAll]; exact List.mem_cons_self ..))
        obtain ⟨bs, b2, q2, hb2, k2⟩ := Dq.rpAll I ds _ _ h2 r2 hs'.2 (fun t ht => hz t (by simp only [PyData.shownAll]; exact List.mem_cons_of_mem _ ht))
        refine ⟨_, b1 ++ b2, ReadsAll.cons q1 q2, ?_, ?_⟩
        · intro b hm
          simp only [PyData.depthAll]
          rcases List.mem_append.mp hm with hm | hm
          · obtain ⟨d', as', r', hd'⟩ := hb1 b hm
            exact ⟨d', as', r', Nat.le_trans hd' (Nat.le_max_left _ _)⟩
          · obtain ⟨d', as', r', hd'⟩ := hb2 b hm
            exact ⟨d', as', r', Nat.le_trans hd' (Nat.le_max_right _ _)⟩
        · simp only [PyData.depthAll, PyData.shownAll]
          exact .cons ((k1.more fun b hb => List.mem_append_left _ hb).level_le (Nat.le_max_left _ _)) (k2.more_le (fun b hb => List.mem_append_right _ hb) (Nat.le_max_right _ _))
end
end
section
variable {X : Cx} {a : Expr} {mr : DA}
end
end R
namespace R
open PySem PySem.Spec PyProof.Rows L2
section
variable {prog : Program} {w : World} {A : Around}
end
section
variable {X : Cx} {a b : Expr} {pos : Pos} {mr : DA}
end
end R
namespace R
open PySem PySem.Spec PyProof.Rows L2
section
variable {X : Cx} {a : Expr} {ma : DE} {pos : Pos} {ml mh : DO} {lo hi : Option Expr}
end
end R
namespace R
open PySem PySem.Spec PyProof.Rows L2
section
variable {X : Cx} {a : Expr} {ma : DE} {pos : Pos} {C D : Addr}
end
end R
namespace R
open PySem PySem.Spec PyProof.Rows L2
section
variable {X : Cx} {x : Str}
end
end R
namespace R
open PySem PySem.Spec PyProof.Rows L2
section
variable {X : Cx} {a : Expr} {mr : DA}
end
end R
namespace R
open PySem PySem.Spec PyProof.Rows L2
section
variable {X : Cx} {a b c : Expr} {pos : Pos} {mr : DA}
end
end R
namespace R
open PySem PySem.Spec PyProof.Rows L2
def errO (C : Addr) : Nat → Nat → HO := fun _ c => ExO (.ref C) c
def errP (C : Addr) : Nat → HO := fun c => ExO (.ref C) c
def errFO (C : Addr) : Nat → Nat → HO := fun d c => exo c C (some d)
def errFP (f : Str) (v : V) : Nat → HO := fun d => exd d [(f, v)]
theorem xf_ex {K : PySem.W.Frag} {C : Addr} (h : L2.ExcC K C) : L2.XfC K C := ⟨h.hg, h.hk, h.hs, h.hd⟩
abbrev errD (C : Addr) : D := .obj (errO C) (errP C)
abbrev errF (C : Addr) (f : Str) (v : V) : D := .obj (errFO C) (errFP f v)
def mErr1 (C : Addr) (m : DE) : DE := fun env Q => m env fun _ => Q (.fz (errD C))
def mErr0 (C : Addr) : DE := fun _ Q => Q (.fz (errD C))
def mErrF (C : Addr) (f : Str) (m : DE) : DE := fun env Q => m env fun
  | .fz (.str z) => Q (.fz (errF C f (.str z)))
  | .fz .non => Q (.fz (errF C f .non))
  | _ => False
def mNewF (m : DE) : DE := fun env Q => m env fun r => ∃ d, r = .fz d ∧ Q (.fz d)
structure IniV (P : Program) (w : World) (K : PySem.W.Frag) (mg : Str → Option Value) (base : Heap) (x : Str) (C : Addr) (f : Str) (k : Nat) : Prop where
  gl : mg x = some (.ref C)
  ox : OexC K C
  no : PySem.W.findIn K (.ref C) f = some none
  ini : ∃ (fI : Addr) (fd : FuncData) (self : Str), PySem.W.findIn K (.ref C) "__init__" = some (some (.ref fI)) ∧ PySem.W.typeIn K (.ref fI) = some (.type "function") ∧ L2.FnOk P w K mg base CX0 1 fI fd [self, f] (spIni C f) ∧ Binds K fd [self, f] []
section
variable {X : Cx} {e : Expr} {es : List Expr} {te : TE} {ta : TA} {m : DE} {x f : Str} {C : Addr} {p pos : Pos}
theorem dp_err1 (c : ErrC X.K X.mg x C) (he : PE X e (LP X.K m)) (hg : Gl X x := by rfl) (hs : starEach [e] X.env = (false, eval e X.env) :: starEach [] X.env := by rfl) (hdb : (x == ("__debug__" : Str)) = false := by decide) : PE X (.Call (.Name x p) [e] [] pos) (LP X.K (mErr1 C m)) :=
  pe_imp (pe_exc1 PySem.F.excBase_ValueError c.q c.gl c.kp hg he hs hdb) fun σ H Q h => by
    obtain ⟨W, env, fp, xf, Q0, En, S, hm, kk⟩ := h
    refine ⟨W, env, fp, xf, _, En, S, hm, fun r hr v W1 H1 t1 S1 o a n => ?_⟩
    obtain ⟨W2, t2, S2, g2, _⟩ := put_new (o := ExO (.ref C) a) S1 n
    exact kk _ hr _ W2 _ (t1.tr0 t2) S2 (.obj (d := a) g2 g2)
theorem pe_exc0 {bmB : List Value} {B newId initId : String} (F : ExcBaseFacts B newId initId bmB) (q : PySem.W.excIn X.K C bmB newId = true) (gC : X.mg x = some (.ref C)) (kC : PySem.W.keepIn X.K (.ref C) = true) (hg : Gl X x) (hdb : (x == ("__debug__" : Str)) = false := by decide) :
    PE X (.Call (.Name x p) [] [] pos) (fun σ H Q => ∀ a, H a = none → Q (.ref a) (upd H a (ExO (.ref C) a))) := by
  refine ⟨fun pins s σ H Q I h => ?_⟩
  refine wpAny_Call_Name_kw (ld_glob I hg gC ?_ hdb)
  refine PySem.W.callWith_K0 I.kIn kC ?_
  show wpAny _ _ (call (.ref C) []) _ _ _
  obtain ⟨bm, N, nm, qn, bs, hdct, sn, sub, ab, col, dd, k0, k1, k2, k3, k5, mN, hC, hN, hni, T⟩ := exc_obj I.kIn q
  refine wpAny_call_exc_subT F T hC hN hni (fun h' a hm => ?_) (Nat.zero_le _)
  have hn : H a = none := I.hok.gone hm.new
  obtain ⟨t, ht, _, _⟩ := hm.there
  exact ⟨.ref a, upd H a (ExO (.ref C) a), I.laidN hm.keeps hm.new hn (exO_ok ht ⟨rfl, rfl⟩ rfl rfl rfl (show 4 < 6 by decide)), rfl, h a hn⟩
theorem dp_err0 (c : ErrC X.K X.mg x C) (hg : Gl X x := by rfl) (hdb : (x == ("__debug__" : Str)) = false := by decide) : PE X (.Call (.Name x p) [] [] pos) (LP X.K (mErr0 C)) :=
  pe_imp (pe_exc0 PySem.F.excBase_ValueError c.q c.gl c.kp hg hdb) fun σ H Q h => by
    obtain ⟨W, env, fp, xf, Q0, En, S, hm, kk⟩ := h
    intro a n
    obtain ⟨W2, t2, S2, g2, _⟩ := put_new (o := ExO (.ref C) a) S n
    exact kk _ hm _ W2 _ t2 S2 (.obj (d := a) g2 g2)
theorem pe_oex {fI : Addr} {k : Nat} {fd : FuncData} {ps : List Str} {sp : Sp} (T : OexC X.K C) (iC : PySem.W.findIn X.K (.ref C) "__init__" = some (some (.ref fI))) (tI : PySem.W.typeIn X.K (.ref fI) = some (.type "function"))
    (F1 : L2.FnOk X.prog X.w X.K X.mg X.base CX0 k fI fd ps sp) (hr : L2.Room (k + 1) X.A) (hb : Binds X.K fd ps []) (hg : Gl X x) (hm : X.mg x = some (.ref C)) (ha : PA X (e :: es) ta)
    (hdb : (x == ("__debug__" : Str)) = false := by decide) (he : starEach (e :: es) X.env = (false, eval e X.env) :: starEach es X.env := by rfl) (hpl : (backTo pos (starEach es X.env)).any (·.1) = false := by rfl) :
    PE X (.Call (.Name x p) (e :: es) [] pos) (fun σ H Q => ta σ H fun vs H1 => vs.length ≤ 1000 ∧ ∀ a, H1 a = none → sp (.ref a :: vs) (upd H1 a (exo a C none)) (fun v H2 => v = .non ∧ Q (.ref a) H2) (fun _ _ _ => False)) := by
  refine ⟨fun pins s σ H Q I h => ?_⟩
  obtain ⟨nm, q, N, bs, bm, sn, sub, ab, col, dd, k0, k1, k2, k3, k5, hC, hbm⟩ := T.cls
  refine wpAny_Call_Name_kw (ld_glob I hg hm ?_ hdb)
  refine PySem.W.callWith_K (h₀ := X.base) I.ok.mod.kin T.kC (thn (ha.run pos pins s σ H _ I h) fun us s1 ⟨vs, H1, I1, r1, hz, q1⟩ => ⟨I1.kIn, ?_⟩) he hpl
  show wpAny _ _ (call (.ref C) us) _ _ _
  obtain ⟨hp, g, dr, tk, os⟩ := s1
  have hsz : hp.objs.size ≤ hp.objs.size + 1 := Nat.le_succ _
  have hn : H1 (hp.objs.size + 1) = none := I1.hok.fresh hsz
  have hq := q1 (hp.objs.size + 1) hn
  have kk : ∀ b o, hp.get? b = some o → ((hp.push (PySem.W.kdv_tup us)).push (PySem.HandSPX.excO C hp.objs.size)).get? b = some o := fun b o e => Heap.get?_push_of_some _ (Heap.get?_push_of_some _ e)
  have hget : ((hp.push (PySem.W.kdv_tup us)).push (PySem.HandSPX.excO C hp.objs.size)).get? (hp.objs.size + 1) = some (PySem.HandSPX.excO C hp.objs.size) := by heap_get
  have I2 : Inv X pins σ (upd H1 (hp.objs.size + 1) (exo (hp.objs.size + 1) C none)) ⟨(hp.push (PySem.W.kdv_tup us)).push (PySem.HandSPX.excO C hp.objs.size), g, dr, tk, os⟩ :=
    I1.laid (t' := tk) (a := hp.objs.size + 1) (o := exo (hp.objs.size + 1) C none) (h' := (hp.push (PySem.W.kdv_tup us)).push (PySem.HandSPX.excO C hp.objs.size)) kk hsz (exo_ok hget)
  have r2 : Vals (V.ref (hp.objs.size + 1) :: vs) (Value.ref (hp.objs.size + 1) :: us) := .cons rfl r1
  have hl : (Value.ref (hp.objs.size + 1) :: us).length = ps.length := by
    have e := r2.length
    rw [F1.len _ _ _ _ hq] at e
    exact e.symm
  have hus : us.length ≤ sizeLine := by
    rw [← Paired.length r1, sizeLine_eq]
    omega
  have hl2 : (Value.ref (hp.objs.size + 1) :: us ++ []).length = ps.length := by rw [List.append_nil]; exact hl
  have bb := hb _ (Value.ref (hp.objs.size + 1) :: us) I2.kIn hl2
  rw [List.append_nil] at bb
  refine wpAny_call (PySem.HandSPX.call_own F.excBase_ValueError (fun Y => PySem.HandSPX.refsVE_contains Y bm hbm) (I1.kIn _ _ hC) (PySem.W.looks_findIn I1.kIn iC) (fun self => PySem.W.bind_fn I1.kIn self tI) hus
    (codeAny_mono (F1.run _ X.stack _ _ ⟨Value.ref (hp.objs.size + 1) :: us, []⟩ (Value.ref (hp.objs.size + 1) :: us) _ _ (fun _ _ _ => False) (hr.make C us []) (I2.env0.make C us []) bb r2 hq) fun r s' hq' => ?_))
  cases r with
  | error er => exact pass0 pins σ _ _ er s' I2 hq'
  | ok fl =>
    cases fl with
    | ret u =>
      obtain ⟨v, H2, os2, bare2, un2, hok2, rv, ev, q2⟩ := hq'
      subst ev
      obtain ⟨h2, g2, d2, t2, os'⟩ := s'
      exact ⟨rv, .ref _, H2, I2.call' (ch := []) os2 un2 hok2 bare2 (fun b z => absurd z (by simp)), rfl, q2⟩
    | next => exact False.elim hq'
    | brk => exact False.elim hq'
    | cont => exact False.elim hq'
theorem two_new {H : Hp} {a d C : Addr} {o : HO} (ne : d ≠ a) : upd (upd (upd H a (exo a C none)) d o) a (exo a C (some d)) = upd (upd H d o) a (exo a C (some d)) := by
  funext b
  by_cases z : b = a
  · rw [z, upd_same, upd_same]
  · rw [upd_ne z, upd_ne z]
    by_cases y : b = d
    · rw [y, upd_same, upd_same]
    · rw [upd_ne y, upd_ne y, upd_ne z]
theorem dp_errF {j l : Nat} (c : IniV X.prog X.w X.K X.mg X.base x C f l) (hr : Room j X.A) (hj : 2 ≤ j) (he : PE X e (LP X.K m)) (hg : Gl X x := by rfl) (hs : starEach [e] X.env = (false, eval e X.env) :: starEach [] X.env := by rfl) (hdb : (x == ("__debug__" : Str)) = false := by decide) (hpl : (backTo pos (starEach [] X.env)).any (·.1) = false := by rfl) :
    PE X (.Call (.Name x p) [e] [] pos) (LP X.K (mErrF C f m)) := by
  obtain ⟨fI, fd, self, iC, tI, F, hb⟩ := c.ini
  refine pe_imp (pe_oex c.ox iC tI F ((hr.mono hj).toRoom) hb hg c.gl (pa_cons he pa_nil hs) hdb hs hpl) fun σ H Q h => ?_
  obtain ⟨W, env, fp, xf, Q0, En, S, hm, kk⟩ := h
  refine ⟨W, env, fp, xf, _, En, S, hm, fun r hq v W1 H1 t1 S1 o => ⟨by show 1 ≤ 1000; omega, fun a ha => ⟨a, v, rfl, upd_same, fun d hd ne => ⟨rfl, ?_⟩⟩⟩⟩
  rw [two_new ne]
  rw [upd_ne ne] at hd
  obtain ⟨W2, t2, S2, g2, _⟩ := put_new (o := exd d [(f, v)]) S1 hd
  have ha2 : upd H1 d (exd d [(f, v)]) a = none := by rw [upd_ne (Ne.symm ne)]; exact ha
  obtain ⟨W3, t3, S3, g3, l3⟩ := put_new (o := exo a C (some d)) S2 ha2
  have gd : W3.G d = some (exd d [(f, v)]) := l3.g _ _ g2
  split at hq
  · cases (show Rep X.K W1 v (.str _) from o)
    exact kk _ hq _ W3 _ (t1.tr0 (t2.tr0 t3)) S3 (.obj (d := d) g3 gd)
  · cases (show Rep X.K W1 v .non from o)
    exact kk _ hq _ W3 _ (t1.tr0 (t2.tr0 t3)) S3 (.obj (d := d) g3 gd)
  · exact hq.elim
theorem err_get {s : Shared} {pins : List (Addr × Obj)} {σ : L2.St} {H : Hp} {a d : Addr} {v : V} {Q E : Value → Shared → Prop} (T : L2.XfC X.K C) (hno : PySem.W.findIn X.K (.ref C) f = some none) (I : Inv X pins σ H s) (ea : H a = some (exo a C (some d))) (ed : H d = some (exd d [(f, v)]))
    (q : ∀ u, RelV v u → Q u { s with toks := s.toks + 1 }) : wpAny (model X.prog X.w) X.A (getAttr (.ref a) f true) Q E s := by
  obtain ⟨t1, hget⟩ := exo_at I.hok ea
  obtain ⟨mA, hns, hr⟩ := exd_at I.hok ed
  obtain ⟨od, ho, hl⟩ := lookIn_ns hns
  obtain ⟨u, hu, ru⟩ := RelO.some_of (v := v) (o := mA f) (by have := hr f; rwa [show ([(f, v)] : List (Str × V)).lookup f = some v by simp [List.lookup]] at this)
  exact PySem.HandSPX.exc_get I.kIn (show PySem.W.InstAt s.heap a _ C (some od) from ⟨hget, rfl, rfl, ho⟩) T.ga T.gg T.exC (PySem.W.findObj_own T.hdC hno rfl (by rw [hl, hu])) (handed_of ru) (q u ru)
theorem dp_newF {j l : Nat} {pos2 : Pos} (c : IniV X.prog X.w X.K X.mg X.base x C f l) (T : L2.XfC X.K C) (hno : PySem.W.findIn X.K (.ref C) f = some none) (hr : Room j X.A) (hj : 2 ≤ j) (he : PE X e (LP X.K m)) (hg : Gl X x := by rfl) (hs : starEach [e] X.env = (false, eval e X.env) :: starEach [] X.env := by rfl) (hdb : (x == ("__debug__" : Str)) = false := by decide) (hpl : (backTo pos (starEach [] X.env)).any (·.1) = false := by rfl)
    (hbase : attributeBase (.Call (.Name x p) [e] [] pos) f X.env (eval (.Call (.Name x p) [e] [] pos) X.env) = eval (.Call (.Name x p) [e] [] pos) X.env := by rfl) : PE X (.Attribute (.Call (.Name x p) [e] [] pos) f pos2) (LP X.K (mNewF m)) := by
  obtain ⟨fI, fd, self, iC, tI, F, hb⟩ := c.ini
  refine ⟨fun pins s σ H Q I h => ?_⟩
  refine attr_of hbase (thn ((pe_oex (p := p) (pos := pos) c.ox iC tI F ((hr.mono hj).toRoom) hb hg c.gl (pa_cons he pa_nil hs) hdb hs hpl).run pins s σ H (fun x H2 => ∃ a d v, x = .ref a ∧ H2 a = some (exo a C (some d)) ∧ H2 d = some (exd d [(f, v)]) ∧ Q v H2) I ?_) fun u s1 hh => ?_)
  · obtain ⟨W, env, fp, xf, Q0, En, S, hm, kk⟩ := h
    refine ⟨W, env, fp, xf, _, En, S, hm, fun r hq v W1 H1 t1 S1 o => ⟨by show 1 ≤ 1000; omega, fun a ha => ⟨a, v, rfl, upd_same, fun d hd ne => ⟨rfl, ?_⟩⟩⟩⟩
    rw [two_new ne]
    rw [upd_ne ne] at hd
    obtain ⟨W2, t2, S2, g2, l2⟩ := put_new (o := exd d [(f, v)]) S1 hd
    have ha2 : upd H1 d (exd d [(f, v)]) a = none := by rw [upd_ne (Ne.symm ne)]; exact ha
    obtain ⟨W3, t3, S3, g3, l3⟩ := put_new (o := exo a C (some d)) S2 ha2
    obtain ⟨dd, rfl, hq⟩ := hq
    refine ⟨a, d, v, rfl, upd_same, by rw [upd_ne ne, upd_same], kk _ hq _ W3 _ (t1.tr0 (t2.tr0 t3)) S3 ?_⟩
    exact (show Rep X.K W1 v dd from o).mono (l2.trans l3)
  · obtain ⟨x, H1, I1, rx, a, d, v, rfl, ea, ed, q⟩ := hh
    obtain rfl : u = Value.ref a := rx
    exact err_get T hno I1 ea ed fun w rw_ => ⟨v, H1, I1.tok _, rw_, q⟩
theorem call_isV : CallR X (.builtin "isinstance") (fun xs H Q => ∃ (a D : Addr) (c : V) (cv : Value) (b : Bool), xs = [.ref a, c] ∧ L2.ExcC X.K D ∧ (∀ u, RelV c u → u = cv) ∧ PySem.W.kitOne X.K (.ref D) cv = some b ∧ (H a = some (ExO (.ref D) a) ∨ ∃ d fs, H a = some (exo a D (some d)) ∧ H d = some (exd d fs)) ∧ Q (.bl b) H) := by
  intro pins s σ H xs us Q I r ⟨a, D, c, cv, b, e0, C, hcv, e, hH, q⟩
  subst e0
  match us, r with
  | [u1, u2], .cons rx (.cons rt .nil) =>
    cases rx
    have ec := hcv _ rt
    subst ec
    have key : ∃ (oe : Obj) (od : Option Obj), PySem.W.InstAt s.heap a oe D od := by
      rcases hH with hH | ⟨d, fs, ea, ed⟩
      · obtain ⟨⟨oe, vs, hget, ⟨h1, h2⟩, hv, _⟩, _⟩ := (show ObjOk X.prog X.w H s.heap a (ExO (.ref D) a) from I.hok a _ hH)
        exact ⟨oe, none, hget, h1, by unfold PySem.W.notCls; rw [hv] <;> rfl, by rw [h2]; exact trivial⟩
      · obtain ⟨t1, hget⟩ := exo_at I.hok ea
        obtain ⟨mA, hns, _⟩ := exd_at I.hok ed
        obtain ⟨od, ho, _⟩ := lookIn_ns hns
        exact ⟨_, some od, hget, rfl, rfl, ho⟩
    obtain ⟨oe, od, J⟩ := key
    exact PySem.W.kia_one (err_kit (od := od) C) I.kIn J e (fun z => nomatch z) fun tk => ⟨.bl b, H, I.kept (t' := tk) fun _ _ z => z, rfl, q⟩
def IsErr (ad : Nat → Addr) (k : Nat) (d : D) : Prop := d = errD (ad k) ∨ ∃ f v, d = errF (ad k) f v
def oIsErr (ad : Nat → Addr) (b : Nat → Bool) (r : Rs) (Q : Rs → Prop) : Prop := ∃ k d, k < 7 ∧ r = .fz d ∧ IsErr ad k d ∧ Q (.fz (.bl (b k)))
theorem dp_isErr {T : Str} {ad : Nat → Addr} {b : Nat → Bool} {p2 p3 : Pos} {cV : V} {cv : Value} (hm : X.mg "isinstance" = none) (hc : ∀ k, k < 7 → L2.ExcC X.K (ad k)) (hk : ∀ k, k < 7 → PySem.W.kitOne X.K (.ref (ad k)) cv = some (b k)) (hcv : ∀ u, RelV cV u → u = cv) (ht : PE X (.Name T p3) (tC cV)) (he : PE X e (LP X.K m))
    (hg : Gl X "isinstance" := by rfl) (hs : starEach [e, .Name T p3] X.env = (false, eval e X.env) :: starEach [.Name T p3] X.env := by rfl) (hs2 : starEach [.Name T p3] X.env = (false, eval (.Name T p3) X.env) :: starEach [] X.env := by rfl) (hpl : (backTo pos (starEach [.Name T p3] X.env)).any (·.1) = false := by rfl) :
    PE X (.Call (.Name "isinstance" p2) [e, .Name T p3] [] pos) (LP X.K (mUn (oIsErr ad b) m)) :=
  pe_imp (pe_callB call_isV hg hm (by decide +kernel) (pa_cons he (pa_cons ht pa_nil hs2) hs) (he := hs) (hpl := hpl)) fun σ H Q h => h.one fun W fp xf Q0 r v W2 H2 hq O o => by
    obtain ⟨k, d, hk7, ek, hd, q⟩ := hq
    have o2 : Rep X.K W2 v d := by
      cases r with
      | fz d2 =>
        have : d2 = d := by cases ek; rfl
        subst this
        exact o
      | nw t => cases ek
      | br t => cases ek
      | ex t => cases ek
    rcases hd with rfl | ⟨f, w, rfl⟩
    · cases o2 with
      | obj g1 g2 => exact ⟨_, ad k, cV, cv, b k, rfl, hc k hk7, hcv, hk k hk7, .inl (O.S2.sub _ _ g1), O.fin q (.bl _)⟩
    · cases o2 with
      | obj g1 g2 => exact ⟨_, ad k, cV, cv, b k, rfl, hc k hk7, hcv, hk k hk7, .inr ⟨_, _, O.S2.sub _ _ g1, O.S2.sub _ _ g2⟩, O.fin q (.bl _)⟩
end
end R
namespace R
open PySem PySem.Spec PySem.HandSPX
section
variable {M : Model} {A : Around} {E : Value → Shared → Prop} {h : Heap} {g : Array GenState} {d : Drawn} {t : Nat} {os : OsState}
variable {nm q : Str} {C N : Addr} {bs bm bmB : List Value} {hdct : Bool} {sn : List Str} {sub : List Value} {ab : Bool} {col : Option Bool} {dd : Option Addr} {k0 k1 k2 k3 k5 : Option Value} {B newId initId : String}
theorem newK_chk (F : ExcBaseFacts B newId initId bmB) (hT : ∀ X : String, bm.contains (.type X) = bmB.contains (.type X)) {rest : List Value} {kw : List (Str × Value)} {Q : Unit → Shared → Prop}
    (hC : h.get? C = some (excClassObj nm q C N bs bm hdct sn sub ab col dd k0 k1 k2 k3 k5 newId)) (hq : Q () ⟨h, g, d, t, os⟩) : wpAny M A (checkBuiltinCall newId ⟨.ref C :: rest, kw⟩) Q E ⟨h, g, d, t, os⟩ := by
  have hcont : (Value.ref C :: bm).contains (.type B) = true := by rw [List.contains_cons, hT, F.hasB, Bool.or_true]
  have hstar := F.noStar
  simp only [checkBuiltinCall, F.newKind, F.newSplit, F.newRow]
  repeat (first | refine wpAny_loadPart_at hC ?_ | (refine wpAny_isSubtype_exc hC ?_; rw [hcont]) | refine wpAny_staticBase_exc hC ?_ | refine wpAny_madeBy_exc hC ?_ | simp only [bne_self_eq_false, Bool.false_eq_true, if_false] | wp_step)
  exact hq
end
section
variable {prog : Program} {w : World} {A : Around} {E : Value → Shared → Prop} {R : Result → Shared → Prop} {h : Heap} {g : Array GenState} {d : Drawn} {t : Nat} {os : OsState}
variable {nm q : Str} {C N : Addr} {bs bm bmB : List Value} {hdct : Bool} {sn : List Str} {sub : List Value} {ab : Bool} {col : Option Bool} {dd : Option Addr} {k0 k1 k2 k3 k5 : Option Value} {B newId initId : String}
theorem newK_own (F : ExcBaseFacts B newId initId bmB) (hT : ∀ X : String, bm.contains (.type X) = bmB.contains (.type X)) {rest : List Value} {kw : List (Str × Value)}
    (hC : h.get? C = some (excClassObj nm q C N bs bm hdct sn sub ab col dd k0 k1 k2 k3 k5 newId))
    (hq : R (.ok (.ret (.ref (h.objs.size + 1)))) ⟨(h.push (PySem.W.kdv_tup rest)).push (excO C h.objs.size), g, d, t, os⟩) (hrest : rest.length ≤ sizeLine) :
    codeAny (model prog w) A (.builtin newId ⟨.ref C :: rest, kw⟩) R ⟨h, g, d, t, os⟩ := by
  have hends := F.ends
  have hcB : (Value.ref C :: bm).contains (.type B) = true := by rw [List.contains_cons, hT, F.hasB, Bool.or_true]
  have hcA : (Value.ref C :: bm).contains (.type "AttributeError") = false := by rw [List.contains_cons, hT, F.noAttr]; rfl
  have hcN : (Value.ref C :: bm).contains (.type "NameError") = false := by rw [List.contains_cons, hT, F.noName]; rfl
  refine codeAny_builtinAt F.entry ?_
  unfold Builtin.«BaseException.__new__»
  refine wpAt_bind ?_
  show wpAt _ _ _ (stack >>= _) _ _ _
  refine wpAt_bind (wpAt_stack fun p below => wpAt_of_wpAny ?_)
  wp_walk
  refine wpAt_of_wpAny ?_
  rw [F.owner]
  repeat (first | with_reducible refine wpAny_madeHere_exc F.canon hC ?_ | with_reducible refine wpAny_loadPart_at hC ?_ | (with_reducible refine wpAny_isSubtype_exc hC ?_; first | rw [hcB] | rw [hcA] | rw [hcN]) | wp_step)
  show R _ _
  rw [Heap.size_push]
  exact hq
theorem typeK_own (F : ExcBaseFacts B newId initId bmB) (hT : ∀ X : String, bm.contains (.type X) = bmB.contains (.type X)) {rest : List Value} {kw : List (Str × Value)} {fI : Addr} {Q : Fin → Shared → Prop}
    (hC : h.get? C = some (excClassObj nm q C N bs bm hdct sn sub ab col dd k0 k1 k2 k3 k5 newId))
    (hi : W.Looks (model prog w) h (typeLookup (.ref C) "__init__") (some (.ref fI))) (hb : ∀ self, W.Looks (model prog w) h (bindSpecial (.ref fI) self) (.ref fI, [self])) (hrest : rest.length ≤ sizeLine)
    (hq : codeAny (model prog w) A (.call (.ref fI) ⟨.ref (h.objs.size + 1) :: rest, kw⟩)
      (fun r s' => match r with | .ok (.ret v) => v = .none ∧ Q (.done (.ret (.ref (h.objs.size + 1)))) s' | .ok _ => False | .error e => E e s')
      ⟨(h.push (W.kdv_tup rest)).push (excO C h.objs.size), g, d, t, os⟩) :
    wpAny (model prog w) A (Builtin.«type.__call__» ⟨.ref C :: rest, kw⟩) Q E ⟨h, g, d, t, os⟩ := by
  repeat (first | with_reducible refine wpAny_loadPart_at hC ?_ | with_reducible refine wpAny_madeBy_exc hC ?_ | wp_step)
  refine codeAny_call_builtin_code (Code.quiet_builtin _ F.quiet) (newK_chk F hT hC ?_)
  refine newK_own F hT hC ?_ hrest
  show wpAny _ _ _ _ _ _
  have k : ∀ b o, h.get? b = some o → ((h.push (W.kdv_tup rest)).push (excO C h.objs.size)).get? b = some o := fun b o e => Heap.get?_push_of_some _ (Heap.get?_push_of_some _ e)
  have hC₁ := k _ _ hC
  have hget : ((h.push (W.kdv_tup rest)).push (excO C h.objs.size)).get? (h.objs.size + 1) = some (excO C h.objs.size) := by heap_get
  have hcC : (Value.ref C :: bm).contains (.ref C) = true := by simp
  have i1 := hi.keeps k
  have b1 := (hb (.ref (h.objs.size + 1))).keeps k
  unfold isInstance
  repeat (first | with_reducible refine wpAny_loadPart_at hget ?_ | (with_reducible refine wpAny_isSubtype_exc hC₁ ?_; rw [hcC]) | wp_step)
  show wpAny _ _ (typeLookup (.ref C) _) _ _ _
  refine i1.at ?_
  refine wpAny_holding (wpAny_bind (b1.at ?_))
  refine wpAny_bind (wpAny_call (codeAny_mono hq fun r s' z => ?_))
  rcases r with e | (v | _ | _ | _) <;> first | exact z | exact z.elim | skip
  obtain ⟨rfl, z⟩ := z
  first
    | exact wpAny_pure (wpAny_pure z)
    | (wp_walk; exact z)
theorem callK_own (F : ExcBaseFacts B newId initId bmB) (hT : ∀ X : String, bm.contains (.type X) = bmB.contains (.type X)) {rest : List Value} {kw : List (Str × Value)} {fI : Addr}
    (hC : h.get? C = some (excClassObj nm q C N bs bm hdct sn sub ab col dd k0 k1 k2 k3 k5 newId))
    (hi : W.Looks (model prog w) h (typeLookup (.ref C) "__init__") (some (.ref fI))) (hb : ∀ self, W.Looks (model prog w) h (bindSpecial (.ref fI) self) (.ref fI, [self])) (hrest : rest.length ≤ sizeLine)
    (hq : codeAny (model prog w) (A.under (.builtin "type.__call__" ⟨.ref C :: rest, kw⟩)) (.call (.ref fI) ⟨.ref (h.objs.size + 1) :: rest, kw⟩) (W.InitBack (h.objs.size + 1) R)
      ⟨(h.push (W.kdv_tup rest)).push (excO C h.objs.size), g, d, t, os⟩) :
    codeAny (model prog w) A (.call (.ref C) ⟨rest, kw⟩) R ⟨h, g, d, t, os⟩ := by
  have f1 := tc_lookup
  have f2 := tc_bind (.ref C)
  have hTy : (⟨h, g, d, t, os⟩ : Shared).TypeIs (.ref C) "type" := ⟨_, hC, rfl⟩
  refine codeAny_of_tree ?_
  show wpAny _ _ (callAny (.ref C) _) _ _ _
  repeat (any_goals (first | assumption | with_reducible refine wpAny_loadPart_at hC ?_ | wp_step))
  refine ⟨rfl, ?_⟩
  refine codeAny_call_builtin_at (Code.quiet_builtin _ (by decide +kernel)) entry_typeCall (wpAny_check_type_call_sub hC (typeK_own F hT hC hi hb hrest ?_))
  refine codeAny_mono hq fun r s' z => ?_
  rcases r with e | (v | _ | _ | _) <;> exact z
end
end R
namespace R
open PySem PySem.Spec PyProof.Rows L2
structure IniZ (P : Program) (w : World) (K : PySem.W.Frag) (mg : Str → Option Value) (base : Heap) (x : Str) (C : Addr) (f : Str) (k : Nat) : Prop where
  gl : mg x = some (.ref C)
  ox : OexC K C
  no : PySem.W.findIn K (.ref C) f = some none
  ini : ∃ (fI : Addr) (fd : FuncData) (self : Str) (g : List Value → List Value → List Value), PySem.W.findIn K (.ref C) "__init__" = some (some (.ref fI)) ∧ PySem.W.typeIn K (.ref fI) = some (.type "function") ∧ L2.FnOk P w K mg base CX0 1 fI fd [self, f] (spIni C f) ∧ KBn K fd [self, f] 1 [f] g (fun vs zs => vs ++ zs.reverse)
section
variable {X : Cx} {e : Expr} {te : TE} {m : DE} {x f : Str} {C : Addr} {p pos kpos : Pos} {ks : List Str} {kws : List Keyword} {tk : TA}
theorem pe_oexZ {fI : Addr} {k : Nat} {fd : FuncData} {ps : List Str} {sp : Sp} {g : List Value → List Value → List Value} (T : OexC X.K C) (iC : PySem.W.findIn X.K (.ref C) "__init__" = some (some (.ref fI))) (tI : PySem.W.typeIn X.K (.ref fI) = some (.type "function"))
    (F1 : L2.FnOk X.prog X.w X.K X.mg X.base CX0 k fI fd ps sp) (hr : L2.Room (k + 1) X.A) (hb : KBn X.K fd ps 1 ks g (fun vs zs => vs ++ zs.reverse)) (hg : Gl X x) (hm : X.mg x = some (.ref C)) (hkw : PK X kws tk)
    (hall : (backToKw pos (keywordEach kws X.env)).all (·.1.isSome) = true := by rfl) (hks : (backToKw pos (keywordEach kws X.env)).filterMap (·.1) = ks := by rfl) (hdb : (x == ("__debug__" : Str)) = false := by decide)
    (hpl : ((backTo pos (starEach [] X.env)).any (·.1) || (backToKw pos (keywordEach kws X.env)).any (·.1.isNone)) = false := by rfl) :
    PE X (.Call (.Name x p) [] kws pos) (fun σ H Q => tk σ H fun vs H1 => vs.length = ks.length ∧ ∀ a, H1 a = none → sp (.ref a :: vs.reverse) (upd H1 a (exo a C none)) (fun v H2 => v = .non ∧ Q (.ref a) H2) (fun _ _ _ => False)) := by
  refine ⟨fun pins s σ H Q I h => ?_⟩
  obtain ⟨nm, q, N, bs, bm, sn, sub, ab, col, dd, k0, k1, k2, k3, k5, hC, hbm⟩ := T.cls
  refine wpAny_Call_Name_kw (ld_glob I hg hm (PySem.W.callWith_KW0 (h₀ := X.base) I.ok.mod.kin T.kC hall ?_ hpl) hdb)
  refine thn (hkw.run pos pins s σ _ _ I h) fun us s1 ⟨vs, H1, I1, r1, l1, q1⟩ => ⟨I1.kIn, ?_⟩
  rw [hks]
  show wpAny _ _ (call (.ref C) [] (ks.zip us)) _ _ _
  obtain ⟨hp, g0, dr, tk, os⟩ := s1
  have hsz : hp.objs.size ≤ hp.objs.size + 1 := Nat.le_succ _
  have hn : H1 (hp.objs.size + 1) = none := I1.hok.fresh hsz
  have hq := q1 (hp.objs.size + 1) hn
  have kk : ∀ b o, hp.get? b = some o → ((hp.push (PySem.W.kdv_tup [])).push (PySem.HandSPX.excO C hp.objs.size)).get? b = some o := fun b o e => Heap.get?_push_of_some _ (Heap.get?_push_of_some _ e)
  have hget : ((hp.push (PySem.W.kdv_tup [])).push (PySem.HandSPX.excO C hp.objs.size)).get? (hp.objs.size + 1) = some (PySem.HandSPX.excO C hp.objs.size) := by heap_get
  have I2 : Inv X _ σ (upd H1 (hp.objs.size + 1) (exo (hp.objs.size + 1) C none)) ⟨(hp.push (PySem.W.kdv_tup [])).push (PySem.HandSPX.excO C hp.objs.size), g0, dr, tk, os⟩ :=
    I1.laid (t' := tk) (a := hp.objs.size + 1) (o := exo (hp.objs.size + 1) C none) (h' := (hp.push (PySem.W.kdv_tup [])).push (PySem.HandSPX.excO C hp.objs.size)) kk hsz (exo_ok hget)
  have r2 : Vals (V.ref (hp.objs.size + 1) :: vs.reverse) (g [.ref (hp.objs.size + 1)] us) := hb.rel (show Vals [V.ref (hp.objs.size + 1)] [Value.ref (hp.objs.size + 1)] from .cons rfl .nil) r1
  have bb := hb.to ⟨(hp.push (PySem.W.kdv_tup [])).push (PySem.HandSPX.excO C hp.objs.size), g0, dr, tk, os⟩ [.ref (hp.objs.size + 1)] us I2.kIn rfl (r1.length.symm.trans l1)
  refine wpAny_call (callK_own F.excBase_ValueError (fun Y => PySem.HandSPX.refsVE_contains Y bm hbm) (I1.kIn _ _ hC) (PySem.W.looks_findIn I1.kIn iC) (fun self => PySem.W.bind_fn I1.kIn self tI) (Nat.zero_le _)
    (codeAny_mono (F1.run _ X.stack _ _ ⟨[Value.ref (hp.objs.size + 1)], ks.zip us⟩ _ _ _ (fun _ _ _ => False) (hr.make C [] (ks.zip us)) (I2.env0.make C [] (ks.zip us)) bb r2 hq) fun r s' hq' => ?_))
  cases r with
  | error er => exact pass0 _ σ _ _ er s' I2 hq'
  | ok fl =>
    cases fl with
    | ret u =>
      obtain ⟨v, H2, os2, bare2, un2, hok2, rv, ev, q2⟩ := hq'
      subst ev
      obtain ⟨h2, g2, d2, t2, os'⟩ := s'
      exact ⟨rv, .ref _, H2, I2.call' (ch := []) os2 un2 hok2 bare2 (fun b z => absurd z (by simp)), rfl, q2⟩
    | next => exact False.elim hq'
    | brk => exact False.elim hq'
    | cont => exact False.elim hq'
theorem dp_newFZ {j l : Nat} {pos2 : Pos} (c : IniZ X.prog X.w X.K X.mg X.base x C f l) (T : L2.XfC X.K C) (hno : PySem.W.findIn X.K (.ref C) f = some none) (hr : Room j X.A) (hj : 2 ≤ j) (he : PE X e (LP X.K m)) (hg : Gl X x := by rfl)
    (hall : (backToKw pos (keywordEach [.mk (some f) e kpos] X.env)).all (·.1.isSome) = true := by rfl) (hks : (backToKw pos (keywordEach [.mk (some f) e kpos] X.env)).filterMap (·.1) = [f] := by rfl) (hdb : (x == ("__debug__" : Str)) = false := by decide)
    (hpl : ((backTo pos (starEach [] X.env)).any (·.1) || (backToKw pos (keywordEach [.mk (some f) e kpos] X.env)).any (·.1.isNone)) = false := by rfl)
    (hbase : attributeBase (.Call (.Name x p) [] [.mk (some f) e kpos] pos) f X.env (eval (.Call (.Name x p) [] [.mk (some f) e kpos] pos) X.env) = eval (.Call (.Name x p) [] [.mk (some f) e kpos] pos) X.env := by rfl) : PE X (.Attribute (.Call (.Name x p) [] [.mk (some f) e kpos] pos) f pos2) (LP X.K (mNewF m)) := by
  obtain ⟨fI, fd, self, g, iC, tI, F, hb⟩ := c.ini
  refine ⟨fun pins s σ H Q I h => ?_⟩
  refine attr_of hbase (thn ((pe_oexZ (p := p) (pos := pos) c.ox iC tI F ((hr.mono hj).toRoom) hb hg c.gl (pk_cons he pk_nil) hall hks hdb hpl).run pins s σ H (fun x H2 => ∃ a d v, x = .ref a ∧ H2 a = some (exo a C (some d)) ∧ H2 d = some (exd d [(f, v)]) ∧ Q v H2) I ?_) fun u s1 hh => ?_)
  · obtain ⟨W, env, fp, xf, Q0, En, S, hm, kk⟩ := h
    refine ⟨W, env, fp, xf, _, En, S, hm, fun r hq v W1 H1 t1 S1 o => ⟨rfl, fun a ha => ⟨a, v, rfl, upd_same, fun d hd ne => ⟨rfl, ?_⟩⟩⟩⟩
    rw [two_new ne]
    rw [upd_ne ne] at hd
    obtain ⟨W2, t2, S2, g2, l2⟩ := put_new (o := exd d [(f, v)]) S1 hd
    have ha2 : upd H1 d (exd d [(f, v)]) a = none := by rw [upd_ne (Ne.symm ne)]; exact ha
    obtain ⟨W3, t3, S3, g3, l3⟩ := put_new (o := exo a C (some d)) S2 ha2
    obtain ⟨dd, rfl, hq⟩ := hq
    refine ⟨a, d, v, rfl, upd_same, by rw [upd_ne ne, upd_same], kk _ hq _ W3 _ (t1.tr0 (t2.tr0 t3)) S3 ?_⟩
    exact (show Rep X.K W1 v dd from o).mono (l2.trans l3)
  · obtain ⟨x, H1, I1, rx, a, d, v, rfl, ea, ed, q⟩ := hh
    obtain rfl : u = Value.ref a := rx
    exact err_get T hno I1 ea ed fun w rw_ => ⟨v, H1, I1.tok _, rw_, q⟩
end
end R
namespace Cl
open PySem PySem.Spec PyProof.Rows L2 R
abbrev N_InvalidCups_init : List PySem.Str := ["self", "part"]
abbrev P_InvalidCups_init : List PySem.Str := ["self", "part"]
theorem sc_InvalidCups_init : FnScope N_InvalidCups_init P_InvalidCups_init (defScope s_InvalidCups_init) := ⟨rfl, rfl, rfl, by decide +kernel, rfl, by decide +kernel, by decide +kernel⟩
abbrev N_Incomparable_init : List PySem.Str := ["self", "what"]
abbrev P_Incomparable_init : List PySem.Str := ["self", "what"]
theorem sc_Incomparable_init : FnScope N_Incomparable_init P_Incomparable_init (defScope s_Incomparable_init) := ⟨rfl, rfl, rfl, by decide +kernel, rfl, by decide +kernel, by decide +kernel⟩
abbrev N_law_cell_at : List PySem.Str := ["_law_script", "_law_k"]
abbrev P_law_cell_at : List PySem.Str := ["_law_script", "_law_k"]
theorem sc_law_cell_at : FnScope N_law_cell_at P_law_cell_at (defScope s_law_cell_at) := ⟨rfl, rfl, rfl, by decide +kernel, rfl, by decide +kernel, by decide +kernel⟩
abbrev N_law_mixed : List PySem.Str := ["_law_cell", "_law_k", "_law_low"]
abbrev P_law_mixed : List PySem.Str := ["_law_cell", "_law_k"]
theorem sc_law_mixed : FnScope N_law_mixed P_law_mixed (defScope s_law_mixed) := ⟨rfl, rfl, rfl, by decide +kernel, rfl, by decide +kernel, by decide +kernel⟩
abbrev N_law_source : List PySem.Str := ["_law_script", "_law_k", "_law_cell"]
abbrev P_law_source : List PySem.Str := ["_law_script", "_law_k"]
theorem sc_law_source : FnScope N_law_source P_law_source (defScope s_law_source) := ⟨rfl, rfl, rfl, by decide +kernel, rfl, by decide +kernel, by decide +kernel⟩
abbrev N_law_draw : List PySem.Str := ["_law_source_here", "_law_bound", "_law_found"]
abbrev P_law_draw : List PySem.Str := ["_law_source_here", "_law_bound"]
theorem sc_law_draw : FnScope N_law_draw P_law_draw (defScope s_law_draw) := ⟨rfl, rfl, rfl, by decide +kernel, rfl, by decide +kernel, by decide +kernel⟩
abbrev N_law_pick : List PySem.Str := ["_law_source_here", "_law_options"]
abbrev P_law_pick : List PySem.Str := ["_law_source_here", "_law_options"]
theorem sc_law_pick : FnScope N_law_pick P_law_pick (defScope s_law_pick) := ⟨rfl, rfl, rfl, by decide +kernel, rfl, by decide +kernel, by decide +kernel⟩
abbrev N_law_marks : List PySem.Str := ["_law_error", "_law_found"]
abbrev P_law_marks : List PySem.Str := ["_law_error"]
theorem sc_law_marks : FnScope N_law_marks P_law_marks (defScope s_law_marks) := ⟨rfl, rfl, rfl, by decide +kernel, rfl, by decide +kernel, by decide +kernel⟩
abbrev N_law_has_bases : List PySem.Str := ["_law_error"]
abbrev P_law_has_bases : List PySem.Str := ["_law_error"]
theorem sc_law_has_bases : FnScope N_law_has_bases P_law_has_bases (defScope s_law_has_bases) := ⟨rfl, rfl, rfl, by decide +kernel, rfl, by decide +kernel, by decide +kernel⟩
abbrev N_law : List PySem.Str := ["_law_script", "_law_k", "_law_source_here", "_law_number", "_law_text", "_law_field", "_law_fields", "_law_errors", "_law_plain", "_law_group", "_law_at", "_law_error", "_law_index"]
abbrev P_law : List PySem.Str := ["_law_script"]
theorem sc_law : FnScope N_law P_law (defScope s_law) := ⟨rfl, rfl, rfl, by decide +kernel, rfl, by decide +kernel, by decide +kernel⟩
structure Cs where
  CupLadderError : Nat
  InvalidCups : Nat
  InvalidState : Nat
  InvalidStep : Nat
  InvalidEvents : Nat
  InvalidMember : Nat
  InvalidCup : Nat
  Incomparable : Nat
  CupRow : Nat
  Blocks : Nat
  Simulation : Nat
def adC (cs : Cs) : Nat → Nat := fun k => [cs.InvalidCups, cs.InvalidState, cs.InvalidStep, cs.InvalidEvents, cs.InvalidMember, cs.InvalidCup, cs.Incomparable, cs.InvalidCups, cs.InvalidCups, cs.InvalidCups, cs.Incomparable, cs.Incomparable].getD k 0
structure Tt (K : PySem.W.Frag) (mg : PySem.Str → Option Value) (cs : Cs) : Prop where
  b_ValueError : mg "ValueError" = none
  b_enumerate : mg "enumerate" = none
  b_int : mg "int" = none
  b_isinstance : mg "isinstance" = none
  b_len : mg "len" = none
  b_max : mg "max" = none
  b_min : mg "min" = none
  b_range : mg "range" = none
  e_InvalidCup : ErrC K mg "InvalidCup" cs.InvalidCup
  e_InvalidEvents : ErrC K mg "InvalidEvents" cs.InvalidEvents
  e_InvalidMember : ErrC K mg "InvalidMember" cs.InvalidMember
  e_InvalidState : ErrC K mg "InvalidState" cs.InvalidState
  e_InvalidStep : ErrC K mg "InvalidStep" cs.InvalidStep
  errI : ∀ k, k < 7 → ErrI K (adC cs) 7 k
  errU : ∀ k, k < 7 → PySem.W.kitOne K (.ref (adC cs k)) (.ref cs.CupLadderError) = some true
  g_CupLadderError : mg "CupLadderError" = some (.ref cs.CupLadderError)
  g_Incomparable : mg "Incomparable" = some (.ref cs.Incomparable)
  g_InvalidCup : mg "InvalidCup" = some (.ref cs.InvalidCup)
  g_InvalidCups : mg "InvalidCups" = some (.ref cs.InvalidCups)
  g_InvalidEvents : mg "InvalidEvents" = some (.ref cs.InvalidEvents)
  g_InvalidMember : mg "InvalidMember" = some (.ref cs.InvalidMember)
  g_InvalidState : mg "InvalidState" = some (.ref cs.InvalidState)
  g_InvalidStep : mg "InvalidStep" = some (.ref cs.InvalidStep)
def scrD (ns : List Int) : R.D := .rol (ns.map .int)
structure Row (sz fw : List Nat) : Prop where
  l0 : 0 < sz.length
  l1 : sz.length ≤ 30
  s1 : ∀ s ∈ sz, 1 ≤ s ∧ s ≤ 9
  sm : sz.sum ≤ sz.length + 30
  fl : fw.length + 1 = sz.length
  fi : ∀ i, i < fw.length → pk fw i < pk sz i
theorem Row.cups {sz fw : List Nat} (h : Row sz fw) {c : Nat} (hc : c ≤ fw.length) : Cups sz fw c :=
  ⟨by have := h.fl; omega, fun i hi => (h.s1 _ (pk_mem (by have := h.fl; omega))).1, fun i hi => h.fi i (by omega)⟩
abbrev fz (d : R.D) : Option Rs := some (.fz d)
def F_law_cell_at (_ : Cs) : Spec1 := fun ss Q => ∃ ns k, ss = [fz (scrD ns), fz (nI k)] ∧ ∀ x : Int, Q (.fz (.int x))
def F_law_mixed (_ : Cs) : Spec1 := fun ss Q => ∃ a b : Int, ss = [fz (.int a), fz (.int b)] ∧ ∀ x : Int, Q (.fz (.int x))
def F_law_source (_ : Cs) : Spec1 := fun ss Q => ∃ ns k, ss = [fz (scrD ns), fz (nI k)] ∧ Q (.fz (.vol 0 []))
def F_law_draw (_ : Cs) : Spec1 := fun ss Q => ∃ ps b, ss = [fz (.vol 0 ps), fz (.int b)] ∧ 0 < b ∧ b < 2 ^ 200 ∧ ∀ x : Int, 0 ≤ x → x < b → Q (.fz (.int x))
def F_law_pick (_ : Cs) : Spec1 := fun ss Q => ∃ ps ds, ss = [fz (.vol 0 ps), fz (.lst ds)] ∧ ds ≠ [] ∧ ds.length < 5000 ∧ ∀ d ∈ ds, Q (.fz d)
theorem Row.leastN {sz fw : List Nat} (h : Row sz fw) : ((sz.sum : Nat) : Int) - (sz.length : Nat) + 1 = (least sz (fw.length + 1) : Nat) ∧ 1 ≤ least sz (fw.length + 1) ∧ least sz (fw.length + 1) ≤ 31 := by
  have e := sum_pred (l := sz) fun s hs => (h.s1 s hs).1
  have e2 : least sz (fw.length + 1) = (sz.map (· - 1)).sum + 1 := by
    unfold least
    rw [List.take_of_length_le (by have := h.fl; omega)]
  have := h.sm
  omega
theorem b1 {Z : List Rs → (Rs → Prop) → Prop} {a : DE} {env : R.Env} {Q : Rs → Prop} (h : a env fun x => Z [x.ffz] Q) : mB Z (mCons a mNil) env Q := h
structure Rw (sz fw : List Nat) : Prop where
  l1 : sz.length ≤ 30
  fl : fw.length + 1 = sz.length
  fi : ∀ i, i < fw.length → pk fw i < pk sz i
theorem Row.rnd {sz fw : List Nat} (h : Row sz fw) {n : Nat} (hl : least sz (fw.length + 1) ≤ n) : (R.rnd sz fw n).Perm (List.range n) := rnd_perm (h.cups (Nat.le_refl _)) (by have := h.fl; omega) (h.s1 _ (pk_mem (by have := h.fl; omega))).1 hl
def nS (g : Nat → PySem.Str) (n : Nat) : R.D := .str (g n)
def sL (g : Nat → PySem.Str) (l : List Nat) : R.D := .lst (l.map (nS g))
def sC (g : Nat → PySem.Str) (cs : List (List Nat)) : R.D := .lst (cs.map (sL g))
def ownS (g : Nat → PySem.Str) (cs : List (List Nat)) : List OT := cs.map fun c => .lst (c.map fun n => .leaf (nS g n))
abbrev stD (g : Nat → PySem.Str) (q : List Nat) (cs : List (List Nat)) : R.D := .tup [sL g q, sC g cs]
abbrev stT (g : Nat → PySem.Str) (q : List Nat) (cs : List (List Nat)) : OT := .tup [.lst (q.map fun n => .leaf (nS g n)), .lst (ownS g cs)]
structure NameOk (z : PySem.Str) : Prop where
  l1 : 1 ≤ z.cps.toList.length
  l8 : z.cps.toList.length ≤ 8
  lt : ∀ c ∈ z.cps.toList, 97 ≤ c ∧ c ≤ 122
structure Nms (g : Nat → PySem.Str) (l : List Nat) : Prop where
  nd : (l.map g).Nodup
  ok : ∀ n ∈ l, NameOk (g n)
theorem Nms.perm {g : Nat → PySem.Str} {l m : List Nat} (h : Nms g l) (p : m.Perm l) : Nms g m := ⟨(p.map g).nodup_iff.mpr h.nd, fun n m => h.ok n (p.mem_iff.mp m)⟩
structure StOk (sz fw : List Nat) (g : Nat → PySem.Str) (q : List Nat) (cs : List (List Nat)) : Prop where
  val : Val sz cs
  nms : Nms g (memb q cs)
  lo : least sz (fw.length + 1) ≤ q.length + totM cs
  hi : q.length + totM cs ≤ 40
theorem ownS_fz (g : Nat → PySem.Str) (cs : List (List Nat)) : Fz (.lst (ownS g cs)) (sC g cs) := by
  unfold ownS sC
  refine .lst ?_
  induction cs with
  | nil => exact .nil
  | cons c cs ih => exact .cons (by
      have e : (c.map fun n => OT.leaf (nS g n)) = (c.map (nS g)).map .leaf := by rw [List.map_map] <;> rfl
      show Fz (.lst (c.map fun n => .leaf (nS g n))) _
      rw [e]
      exact fz_lst _) ih
theorem leafs_nS (g : Nat → PySem.Str) (c : List Nat) : (c.map fun n => OT.leaf (nS g n)) = (c.map (nS g)).map .leaf := by rw [List.map_map] <;> rfl
theorem leaves_nS (g : Nat → PySem.Str) (l : List Nat) : leaves (l.map fun n => OT.leaf (nS g n)) = some (l.map (nS g)) := by
  have := leaves_map (l.map (nS g))
  rw [List.map_map] at this
  exact this
theorem ownS_len (g : Nat → PySem.Str) (cs : List (List Nat)) : (ownS g cs).length = cs.length := by unfold ownS; rw [List.length_map]
def pc (cs : List (List Nat)) (k : Nat) : List Nat := cs.getD k []
def IsS (g : Nat → PySem.Str) (l : List Nat) (r : Rs) : Prop := r = .fz (sL g l) ∨ r = .ex (.lst (l.map fun n => .leaf (nS g n)))
def IsC (g : Nat → PySem.Str) (cs : List (List Nat)) (r : Rs) : Prop := r = .fz (sC g cs) ∨ r = .ex (.lst (ownS g cs))
def IsSt (g : Nat → PySem.Str) (q : List Nat) (cs : List (List Nat)) (r : Rs) : Prop := r = .fz (stD g q cs) ∨ r = .ex (stT g q cs)
theorem IsS.fz (g : Nat → PySem.Str) (l : List Nat) : IsS g l (.fz (sL g l)) := .inl rfl
theorem IsC.fz (g : Nat → PySem.Str) (cs : List (List Nat)) : IsC g cs (.fz (sC g cs)) := .inl rfl
theorem IsSt.fz (g : Nat → PySem.Str) (q : List Nat) (cs : List (List Nat)) : IsSt g q cs (.fz (stD g q cs)) := .inl rfl
theorem IsS.rd {g : Nat → PySem.Str} {l : List Nat} {r : Rs} (h : IsS g l r) : r.rd = r ∧ r.ffz = r ∧ r.arg = r ∧ r.slot ∧ r.els true = some (l.map (nS g)) := by
  rcases h with rfl | rfl
  · exact ⟨rfl, rfl, rfl, trivial, rfl⟩
  · exact ⟨rfl, rfl, rfl, trivial, leaves_nS g l⟩
theorem IsC.rd {g : Nat → PySem.Str} {l : List (List Nat)} {r : Rs} (h : IsC g l r) : r.rd = r ∧ r.ffz = r := by
  rcases h with rfl | rfl
  · exact ⟨rfl, rfl⟩
  · exact ⟨rfl, rfl⟩
theorem IsSt.lend {g : Nat → PySem.Str} {q : List Nat} {cs : List (List Nat)} {r : Rs} (h : IsSt g q cs r) : r.rd.lend = r := by
  rcases h with rfl | rfl
  · rfl
  · rfl
theorem IsS.len {g : Nat → PySem.Str} {l : List Nat} {r : Rs} {Q : Rs → Prop} (h : IsS g l r) (q : Q (.fz (.int (l.length : Nat)))) : oLen [r] Q := by
  rcases h with rfl | rfl
  · exact ⟨_, rfl, by rw [List.length_map, List.length_map]; exact q⟩
  · exact ⟨_, rfl, by rw [List.length_map]; exact q⟩
theorem IsC.len {g : Nat → PySem.Str} {l : List (List Nat)} {r : Rs} {Q : Rs → Prop} (h : IsC g l r) (q : Q (.fz (.int (l.length : Nat)))) : oLen [r.rd.ffz] Q := by
  rcases h with rfl | rfl
  · exact ⟨_, rfl, by rw [List.length_map, List.length_map]; exact q⟩
  · exact ⟨_, rfl, by rw [ownS_len]; exact q⟩
theorem IsSt.len {g : Nat → PySem.Str} {q : List Nat} {cs : List (List Nat)} {r : Rs} {Q : Rs → Prop} (h : IsSt g q cs r) (k : Q (.fz (.int ((2 : Nat) : Int)))) : oLen [r.rd.ffz] Q := by
  rcases h with rfl | rfl
  · exact ⟨_, rfl, k⟩
  · exact ⟨_, rfl, k⟩
theorem IsSt.parts {g : Nat → PySem.Str} {q : List Nat} {cs : List (List Nat)} {r : Rs} (h : IsSt g q cs r) : ∃ rq rc, IsS g q rq ∧ IsC g cs rc ∧ (∀ Q : Rs → Prop, Q rq → oIx r.rd.ffz (Rs.fz (.int 0)).ffz Q) ∧ (∀ Q : Rs → Prop, Q rc → oIx r.rd.ffz (Rs.fz (.int 1)).ffz Q) ∧
    ∀ {env : R.Env} {i j : Nat} (Q : R.Env → Prop), Q ((env.set i (some rq)).set j (some rc)) → gT [gN i, gN j] env r.rd Q := by
  rcases h with rfl | rfl
  · exact ⟨_, _, .inl rfl, .inl rfl, fun Q q => ⟨_, rfl, q⟩, fun Q q => ⟨_, rfl, q⟩, fun Q q => ⟨_, rfl, rfl, trivial, trivial, q⟩⟩
  · exact ⟨_, _, .inr rfl, .inr rfl, fun Q q => ⟨_, _, rfl, rfl, q⟩, fun Q q => ⟨_, _, rfl, rfl, q⟩, fun Q q => ⟨_, rfl, rfl, trivial, trivial, q⟩⟩
theorem Row.ne {sz fw : List Nat} (h : Row sz fw) : sz ≠ [] := fun z => by have := h.l0; rw [z] at this; simp at this
theorem StOk.cons {sz fw : List Nat} {g : Nat → PySem.Str} {q : List Nat} {cs : List (List Nat)} (hR : Row sz fw) (h : StOk sz fw g q cs) : ∃ x q', q = x :: q' := by
  have a := val_tot h.val
  have b := hR.leastN
  have c := h.lo
  cases q with
  | nil => rw [List.length_nil] at c; omega
  | cons x q => exact ⟨x, q, rfl⟩
theorem StOk.step {sz fw : List Nat} {g : Nat → PySem.Str} {x : Nat} {q : List Nat} {cs : List (List Nat)} (hR : Row sz fw) (h : StOk sz fw g (x :: q) cs) : StOk sz fw g (csc sz fw cs x q).2 (csc sz fw cs x q).1 := by
  have a := csc_tot (m := x) (q := q) hR.ne hR.fl hR.fi h.val
  have b := csc_perm (m := x) (q := q) hR.ne hR.fl hR.fi h.val
  have c := h.lo
  have d := h.hi
  rw [List.length_cons] at c d
  exact ⟨(csc_ctr (m := x) (q := q) hR.ne h.val).1, h.nms.perm b, by omega, by omega⟩
theorem StOk.next {sz fw : List Nat} {g : Nat → PySem.Str} {x : Nat} {q : List Nat} {cs : List (List Nat)} (hR : Row sz fw) (h : StOk sz fw g (x :: q) cs) : ctr sz (csc sz fw cs x q).1 = (ctr sz cs + 1) % prodL sz := by
  have a := (csc_ctr (fw := fw) (m := x) (q := q) hR.ne h.val).2
  have b := ctr_lt h.val
  rw [prR_eq, a]
  split
  · rename_i z
    rw [Nat.mod_eq_of_lt z]
  · rw [show ctr sz cs + 1 = prR sz by omega, Nat.mod_self]
theorem Fz.st (g : Nat → PySem.Str) (q : List Nat) (cs : List (List Nat)) : Fz (stT g q cs) (stD g q cs) := by
  unfold stT
  rw [leafs_nS]
  exact .tup (.cons (fz_lst _) (.cons (ownS_fz g cs) .nil))
theorem strOk_of (s : String) : PyData.strOk (s : PySem.Str) = true := by
  show (PySem.Str.ofString s).cps.all (· < 0x110000) = true
  rw [PySem.Str.ofString_eq_toList, ← Array.all_toList]
  refine List.all_eq_true.mpr fun c m => decide_eq_true ?_
  have m : c ∈ s.toList.map Char.toNat := by simpa using m
  obtain ⟨d, _, rfl⟩ := List.mem_map.mp m
  have := d.valid
  unfold UInt32.isValidChar Nat.isValidChar at this
  show d.val.toNat < 0x110000
  omega
theorem lend_nw {t : OT} {d : R.D} (h : t.fzd = some d) : (Rs.nw t).lend = .fz d := by
  unfold Rs.lend Rs.ffz
  show (match (match t.fzd with | some d => Rs.fz d | none => _) with | .fz d => Rs.fz d | .nw t => .ex t | .br t => .ex t | .ex t => .ex t) = _
  rw [h]
theorem ffz_nw {t : OT} {d : R.D} (h : t.fzd = some d) : (Rs.nw t).ffz = .fz d := by
  show (match t.fzd with | some d => Rs.fz d | none => _) = _
  rw [h]
def F_law (_ : Cs) : Spec1 := fun ss Q => ∃ ns : List Int, ss = [fz (scrD ns)] ∧ ns.length ≤ 63 ∧ Q (.fz (.bl true))
def mks (k : Nat) : List R.D := [.bl (clsK k == 0), .bl (clsK k == 6), .bl (clsK k == 1), .bl (clsK k == 2), .bl (clsK k == 3), .bl (clsK k == 4), .bl (clsK k == 5)]
def F_law_marks (cs : Cs) : Spec1 := fun ss Q => ∃ k d, ss = [fz d] ∧ k < 7 ∧ IsErr (adC cs) k d ∧ Q (.nw (.lst ((mks k).map .leaf)))
def F_law_has_bases (cs : Cs) : Spec1 := fun ss Q => ∃ k d, ss = [fz d] ∧ k < 7 ∧ IsErr (adC cs) k d ∧ Q (.fz (.bl true))
theorem four_eq {d : R.D} {p : PyData} {x y : Rs} {Q : Rs → Prop} (hd : d.pd 7 = some p) (hx : x = .fz (.lst [d, d, d, d])) (hy : y.t = .lst [.leaf d, .leaf d, .leaf d, .leaf d] ∨ y.t = .leaf (.lst [d, d, d, d])) (h : Q (.fz (.bl false))) : oEq true x y Q := by
  have k : (R.D.lst [d, d, d, d]).pd 8 = some (.list [p, p, p, p]) := by
    show (allOf (R.D.pd 7) _).map _ = _
    simp only [allOf, hd, Option.bind_some, Option.map_some]
  refine oEq_same (d := .lst [d, d, d, d]) k (by rw [hx]; exact k) ?_ h
  rcases hy with e | e <;> rw [e]
  · show (allOfT (OT.pd 7) _).map _ = _
    have e7 : OT.pd 7 (.leaf d) = some p := hd
    simp only [allOfT, e7, Option.bind_some, Option.map_some]
  · exact k
def ordK : List Nat := [0, 6, 1, 2, 3, 4, 5]
def ErrL (cs : Cs) (ds : List R.D) : Prop := ds.length = 7 ∧ ∀ j, j < 7 → IsErr (adC cs) (pk ordK j) (ds.getD j .non)
theorem get_enumD {ds : List R.D} {i : Nat} {r : Rs} (h : (enumR ds)[i]? = some r) : i < ds.length ∧ r = pairR (nI i) (ds.getD i .non) := by
  have hi := (List.getElem?_eq_some_iff.mp h).1
  unfold enumR at hi h
  rw [List.length_map, List.length_range] at hi
  exact ⟨hi, range_map_get h⟩
theorem ord_lt : ∀ j, j < 7 → pk ordK j < 7 := by decide
theorem mks_at : ∀ j, j < 7 → mks (pk ordK j) = (List.range 7).map fun n => R.D.bl (decide (n = j)) := fun j h => match j, h with
  | 0, _ => rfl | 1, _ => rfl | 2, _ => rfl | 3, _ => rfl | 4, _ => rfl | 5, _ => rfl | 6, _ => rfl | n + 7, h => absurd h (by omega)
theorem pd_bls (n : Nat) (l : List Nat) (f : Nat → Bool) : allOf (R.D.pd n) (l.map fun i => R.D.bl (f i)) = some (l.map fun i => PyData.bool (f i)) := by
  induction l with
  | nil => rfl
  | cons z l ih =>
    rw [List.map_cons, allOf, ih]
    have e : R.D.pd n (.bl (f z)) = some (.bool (f z)) := by cases n <;> rfl
    rw [e]
    rfl
theorem pdT_bls (n : Nat) (l : List Nat) (f : Nat → Bool) : allOfT (OT.pd n) (l.map fun i => OT.leaf (.bl (f i))) = some (l.map fun i => PyData.bool (f i)) := by
  induction l with
  | nil => rfl
  | cons z l ih =>
    rw [List.map_cons, allOfT, ih]
    have e : OT.pd n (.leaf (.bl (f z))) = some (.bool (f z)) := by cases n <;> rfl
    rw [e]
    rfl
theorem bls_eq {neg : Bool} {x y : Rs} {Q : Rs → Prop} (l : List Nat) (f : Nat → Bool) (hx : x.t = .leaf (.lst (l.map fun i => .bl (f i))) ∨ x.t = .lst (l.map fun i => .leaf (.bl (f i))))
    (hy : y.t = .leaf (.lst (l.map fun i => .bl (f i))) ∨ y.t = .lst (l.map fun i => .leaf (.bl (f i)))) (h : Q (.fz (.bl (true != neg)))) : oEq neg x y Q := by
  have k1 : OT.pd 8 (.leaf (.lst (l.map fun i => .bl (f i)))) = some (.list (l.map fun i => PyData.bool (f i))) := by
    show (allOf (R.D.pd 7) _).map _ = _
    rw [pd_bls]
    rfl
  have k2 : OT.pd 8 (.lst (l.map fun i => .leaf (.bl (f i)))) = some (.list (l.map fun i => PyData.bool (f i))) := by
    show (allOfT (OT.pd 7) _).map _ = _
    rw [pdT_bls]
    rfl
  refine oEq_same (d := .lst (l.map fun i => .bl (f i))) k1 ?_ ?_ h
  · rcases hx with e | e <;> rw [e] <;> assumption
  · rcases hy with e | e <;> rw [e] <;> assumption

theorem pk1 {f g : PySem.Str} {x t : OT} (h : f ≠ g) : R.putK g t [f] [x] = ([f, g], [x, t]) := by
  show (if f = g then _ else _) = _
  rw [if_neg h] <;> rfl
theorem pk2 {f g k : PySem.Str} {x y t : OT} (h : f ≠ k) (h2 : g ≠ k) : R.putK k t [f, g] [x, y] = ([f, g, k], [x, y, t]) := by
  show (if f = k then _ else (f :: (R.putK k t [g] [y]).1, x :: (R.putK k t [g] [y]).2)) = _
  rw [if_neg h, pk1 h2] <;> rfl
theorem pkc1 {x t : OT} : R.putK "forward_tuple" t (["size_tuple"] : List PySem.Str) [x] = ((["size_tuple", "forward_tuple"] : List PySem.Str), [x, t]) := pk1 (by decide)
theorem pkc2 {x y t : OT} : R.putK "weights" t (["size_tuple", "forward_tuple"] : List PySem.Str) [x, y] = ((["size_tuple", "forward_tuple", "weights"] : List PySem.Str), [x, y, t]) := pk2 (by decide) (by decide)
theorem pkb1 {x t : OT} : R.putK "orders" t (["cups"] : List PySem.Str) [x] = ((["cups", "orders"] : List PySem.Str), [x, t]) := pk1 (by decide)
theorem pkb2 {x y t : OT} : R.putK "visits" t (["cups", "orders"] : List PySem.Str) [x, y] = ((["cups", "orders", "visits"] : List PySem.Str), [x, y, t]) := pk2 (by decide) (by decide)
def m_law_cell_at (cs : Cs) : DS := (mSeq (mIfS (mT (mOp oLt (mVar 1) (mB oLen (mCons (mVar 0) mNil)))) (mRet (mOp oIx (mVar 0) (mVar 1))) mNext) (mRet (mC (.int 0))))
def m_law_mixed (cs : Cs) : DS := (mSeq (mAsgG (gN 2) (mFz (mOp oAdd (mOp oMod (mB oInt1 (mCons (mVar 0) mNil)) (mC (.int 2147483629))) (mOp oMul (mOp oDiv (mVar 0) (mC (.int 2147483629))) (mC (.int 30011)))))) (mSeq (mAsgG (gN 2) (mFz (mOp oMod (mB oInt1 (mCons (mOp oMul (mOp oAdd (mOp oAdd (mVar 2) (mOp oMul (mC (.int 69621)) (mVar 1))) (mC (.int 1))) (mC (.int 48271))) mNil)) (mC (.int 2147483629))))) (mSeq (mAsgG (gN 2) (mFz (mOp oMod (mB oInt1 (mCons (mOp oMul (mVar 2) (mOp oAdd (mOp oAdd (mOp oDiv (mVar 2) (mC (.int 907))) (mC (.int 16831))) (mVar 1))) mNil)) (mC (.int 2147483587))))) (mRet (mOp oMod (mB oInt1 (mCons (mOp oMul (mVar 2) (mOp oAdd (mOp oDiv (mVar 2) (mC (.int 1201))) (mC (.int 30011)))) mNil)) (mC (.int 2147483563)))))))
def m_law_source (cs : Cs) : DS := (mSeq (mIfS (mT (mOp oLt (mVar 1) (mB oLen (mCons (mVar 0) mNil)))) (mRet (mSrc (mLst (mCons (mOp oIx (mVar 0) (mVar 1)) (mCons (mOp oIx (mVar 0) (mVar 1)) (mCons (mC (.int 0)) mNil)))))) mNext) (mSeq (mAsgG (gN 2) (mFz (mCall 2 (F_law_mixed cs) (mCons (mCall 2 (F_law_cell_at cs) (mCons (mVar 0) (mCons (mC (.int 0)) mNil)) []) (mCons (mOp oAdd (mC (.int 1000)) (mVar 1)) mNil)) []))) (mRet (mSrc (mLst (mCons (mVar 2) (mCons (mVar 2) (mCons (mC (.int 0)) mNil))))))))
def m_law_draw (cs : Cs) : DS := (mSeq (mIfS (mT (mOp oGe (mOp oIx (mVar 0) (mC (.int 0))) (mOp oPow (mC (.int 10)) (mC (.int 18))))) (mSeq (mAsgG (gN 2) (mFz (mOp oMod (mB oInt1 (mCons (mOp oIx (mVar 0) (mC (.int 0))) mNil)) (mVar 1)))) (mSeq (mSetVol (mVar 0) (mC (.int 0)) (mOp oDiv (mOp oIx (mVar 0) (mC (.int 0))) (mVar 1))) (mRet (mVar 2)))) mNext) (mSeq (mSetVol (mVar 0) (mC (.int 2)) (mOp oAdd (mOp oIx (mVar 0) (mC (.int 2))) (mC (.int 1)))) (mRet (mOp oMod (mB oInt1 (mCons (mCall 2 (F_law_mixed cs) (mCons (mOp oIx (mVar 0) (mC (.int 1))) (mCons (mOp oIx (mVar 0) (mC (.int 2))) mNil)) []) mNil)) (mVar 1)))))
def m_law_pick (cs : Cs) : DS := (mRet (mOp oIx (mVar 1) (mCall 2 (F_law_draw cs) (mCons (mVar 0) (mCons (mB oLen (mCons (mVar 1) mNil)) mNil)) [])))
def m_law_marks (cs : Cs) : DS := (mSeq (mAsgG (gN 1) (mFz (mLst (mCons (mUn (oIsErr (adC cs) (fun j => clsK j == 0)) (mVar 0)) (mCons (mUn (oIsErr (adC cs) (fun j => clsK j == 6)) (mVar 0)) (mCons (mUn (oIsErr (adC cs) (fun j => clsK j == 1)) (mVar 0)) mNil)))))) (mSeq (mAsgG (gN 1) (mFz (mOp oAdd (mVar 1) (mLst (mCons (mUn (oIsErr (adC cs) (fun j => clsK j == 2)) (mVar 0)) (mCons (mUn (oIsErr (adC cs) (fun j => clsK j == 3)) (mVar 0)) mNil)))))) (mRet (mOp oAdd (mVar 1) (mLst (mCons (mUn (oIsErr (adC cs) (fun j => clsK j == 4)) (mVar 0)) (mCons (mUn (oIsErr (adC cs) (fun j => clsK j == 5)) (mVar 0)) mNil)))))))
def m_law_has_bases (cs : Cs) : DS := (mRet (mAndV (mUn (oIsErr (adC cs) (fun _ => true)) (mVar 0)) (mUn (oIsErr (adC cs) (fun _ => true)) (mVar 0))))
def m_law (cs : Cs) : DS := (mSeq (mFor (mItR1 (mB oMax2 (mCons (mC (.int 1)) (mCons (mB oMin2 (mCons (mC (.int 3)) (mCons (mB oLen (mCons (mVar 0) mNil)) mNil))) mNil)))) (gN 1) (mSeq (mAsgG (gN 2) (mFz (mCall 2 (F_law_source cs) (mCons (mVar 0) (mCons (mVar 1) mNil)) []))) (mSeq (mAsgG (gN 3) (mFz (mOp oSub (mCall 2 (F_law_draw cs) (mCons (mVar 2) (mCons (mOp oPow (mC (.int 10)) (mC (.int 40))) mNil)) []) (mOp oPow (mC (.int 10)) (mC (.int 39)))))) (mSeq (mAsgG (gN 4) (mFz (mCall 2 (F_law_pick cs) (mCons (mVar 2) (mCons (mLst (mCons (mC (.str "")) (mCons (mC (.str "queue")) (mCons (mC (.str "a longer message")) (mCons (mC (.str "sizes")) (mCons (mC (.str "x")) mNil)))))) mNil)) []))) (mSeq (mAsgG (gN 5) (mFz (mCall 2 (F_law_pick cs) (mCons (mVar 2) (mCons (mLst (mCons (mVar 3) (mCons (mVar 4) (mCons (mC .non) (mCons (mLst (mCons (mVar 3) mNil)) (mCons (mTup (mCons (mVar 4) (mCons (mVar 3) mNil))) (mCons (mC (.str "members")) mNil))))))) mNil)) []))) (mSeq (mAsgG (gN 6) (mFz (mLst (mCons (mNewF (mVar 5)) (mCons (mNewF (mVar 5)) mNil))))) (mSeq (mAsgG (gN 6) (mFz (mOp oAdd (mVar 6) (mLst (mCons (mNewF (mVar 5)) (mCons (mNewF (mVar 5)) mNil)))))) (mSeq (mIfS (mT (mOp (oEq true) (mVar 6) (mOp oMul (mLst (mCons (mVar 5) mNil)) (mC (.int 4))))) (mRet (mC (.bl false))) mNext) (mSeq (mAsgG (gN 7) (mFz (mLst (mCons (mErrF cs.InvalidCups "part" (mVar 4)) (mCons (mErrF cs.Incomparable "what" (mVar 4)) (mCons (mErr1 cs.InvalidState (mVar 4)) (mCons (mErr1 cs.InvalidStep (mVar 4)) (mCons (mErr1 cs.InvalidEvents (mVar 4)) mNil)))))))) (mSeq (mAsgG (gN 7) (mFz (mOp oAdd (mVar 7) (mLst (mCons (mErr1 cs.InvalidMember (mVar 4)) (mCons (mErr1 cs.InvalidCup (mVar 4)) mNil)))))) (mSeq (mAsgG (gN 8) (mFz (mLst (mCons (mErrF cs.InvalidCups "part" (mC .non)) (mCons (mErrF cs.Incomparable "what" (mC .non)) (mCons (mErr0 cs.InvalidState) (mCons (mErr0 cs.InvalidStep) (mCons (mErr0 cs.InvalidEvents) mNil)))))))) (mSeq (mAsgG (gN 8) (mFz (mOp oAdd (mVar 8) (mLst (mCons (mErr0 cs.InvalidMember) (mCons (mErr0 cs.InvalidCup) mNil)))))) (mFor (mItL (mTup (mCons (mVar 7) (mCons (mVar 8) mNil)))) (gN 9) (mFor (mItE (mVar 9)) (gT [(gN 10), (gN 11)]) (mIfS (mOr (mT (mOp (oEq true) (mCall 1 (F_law_marks cs) (mCons (mVar 11) mNil) []) (mLc (mItR1 (mC (.int 7))) (gN 12) mYes (mOp (oEq false) (mVar 12) (mVar 10)) [12]))) (mNot (mT (mCall 1 (F_law_has_bases cs) (mCons (mVar 11) mNil) [])))) (mRet (mC (.bl false))) mNext))))))))))))))) (mRet (mC (.bl true))))
theorem wp_law_cell_at (cs : Cs) (ss : R.Env) (Q : Rs → R.Env → Prop) (h : (F_law_cell_at cs).io ss Q) : m_law_cell_at cs (ss ++ List.replicate 0 none) { nx := fun e => Q (.fz .non) (outs [] 2 e), rt := fun r e => Q r (outs [] 2 e) } := by
  obtain ⟨ns, k, rfl, h⟩ := h
  simp only [m_law_cell_at, mSeq, scrD, nI, mVar, mC, mOp, mUn, i2, oSub, oMod, oDiv, oPow, oLt, oLe, oGt, oGe, oNeg, mT, mAnd, mOr, mNot, mAndV, mOrV, mNotV, mIf, mCh, bLt, bLe, bGt, bGe, mNil, mCons, mFz, mNoP, mPart, mB, oInt1, oMin2, oMin3, oMax2, mNext, mAsgG, gN, mIfS, mRet, mRetN, mDrop, mBreak, mCont, mFzS, mYes, mSetVol, mSrc, mCall, Spec1.io, args, Rs.lend, Rs.arg, Rs.rd, Rs.ffz, Rs.own, Rs.slot, Rs.item, items, Rs.t, Rs.stays, mD0, oIs, OT.ty, mFld, Env.wipe, Env.lent, Option.map_none, nI, nL, nT, mLst, mTup, List.getElem?_cons_zero, List.getElem?_cons_succ, List.set_cons_zero, List.set_cons_succ, Option.some.injEq, exists_eq_left', exists_eq_left, true_and, and_true, List.map_cons, List.map_nil, List.cons_append, List.nil_append, List.append_nil, Option.bind_some, Option.map_some, List.length_cons, List.length_nil, ite_true, ite_false, Bool.false_eq_true, if_true, if_false, eq_self_iff_true, reduceCtorEq, false_and, and_false, w_add, w_mul, w_ix_vol, w_ix_lst, w_ix_tup, w_ix_rol, w_ix_br, w_ix_brT, w_len_lst, w_len_tup, w_len_rol, w_len_br, w_len_nw, outs_nil, ffz_lst, ffz_tup, List.replicate_succ, List.replicate_zero, List.length_map, decide_eq_true_eq, Bool.not_eq_true', decide_eq_false_iff_not, Bool.not_true, Bool.not_false, Bool.true_eq_false, w_eq_int, w_setP, pk0, pkc1, pkc2, pkb1, pkb2, Bool.bne_false, Bool.bne_true] at h ⊢
  split
  · rename_i hk
    have hk : (k : Int) < (ns.length : Int) := by simpa using hk
    exact ⟨.int ns[k], at_nat (by rw [List.getElem?_map, List.getElem?_eq_getElem (by omega)] <;> rfl), h _⟩
  · exact h _

theorem wp_law_mixed (cs : Cs) (ss : R.Env) (Q : Rs → R.Env → Prop) (h : (F_law_mixed cs).io ss Q) : m_law_mixed cs (ss ++ List.replicate 1 none) { nx := fun e => Q (.fz .non) (outs [] 2 e), rt := fun r e => Q r (outs [] 2 e) } := by
  obtain ⟨a, b, rfl, h⟩ := h
  simp only [m_law_mixed, mSeq, mVar, mC, mOp, mUn, i2, oSub, oMod, oDiv, oPow, oLt, oLe, oGt, oGe, oNeg, mT, mAnd, mOr, mNot, mAndV, mOrV, mNotV, mIf, mCh, bLt, bLe, bGt, bGe, mNil, mCons, mFz, mNoP, mPart, mB, oInt1, oMin2, oMin3, oMax2, mNext, mAsgG, gN, mIfS, mRet, mRetN, mDrop, mBreak, mCont, mFzS, mYes, mSetVol, mSrc, mCall, Spec1.io, args, Rs.lend, Rs.arg, Rs.rd, Rs.ffz, Rs.own, Rs.slot, Rs.item, items, Rs.t, Rs.stays, mD0, oIs, OT.ty, mFld, Env.wipe, Env.lent, Option.map_none, nI, nL, nT, mLst, mTup, List.getElem?_cons_zero, List.getElem?_cons_succ, List.set_cons_zero, List.set_cons_succ, Option.some.injEq, exists_eq_left', exists_eq_left, true_and, and_true, List.map_cons, List.map_nil, List.cons_append, List.nil_append, List.append_nil, Option.bind_some, Option.map_some, List.length_cons, List.length_nil, ite_true, ite_false, Bool.false_eq_true, if_true, if_false, eq_self_iff_true, reduceCtorEq, false_and, and_false, w_add, w_mul, w_ix_vol, w_ix_lst, w_ix_tup, w_ix_rol, w_ix_br, w_ix_brT, w_len_lst, w_len_tup, w_len_rol, w_len_br, w_len_nw, outs_nil, ffz_lst, ffz_tup, List.replicate_succ, List.replicate_zero, List.length_map, decide_eq_true_eq, Bool.not_eq_true', decide_eq_false_iff_not, Bool.not_true, Bool.not_false, Bool.true_eq_false, w_eq_int, w_setP, pk0, pkc1, pkc2, pkb1, pkb2, Bool.bne_false, Bool.bne_true] at h ⊢
  refine ⟨by omega, ⟨by omega, by decide⟩, .inr (by omega), .inl (by omega), .inr (by omega), by omega, ⟨by omega, by decide⟩, .inl ?_, by omega, ⟨by omega, by decide⟩, .inl ?_, by omega, h _⟩
  · omega
  · have e : ∀ z : Int, -2 ^ 64 < z % 2147483587 ∧ z % 2147483587 < 2 ^ 64 := fun z => by omega
    exact e _

theorem wp_law_source (cs : Cs) (ss : R.Env) (Q : Rs → R.Env → Prop) (h : (F_law_source cs).io ss Q) : m_law_source cs (ss ++ List.replicate 1 none) { nx := fun e => Q (.fz .non) (outs [] 2 e), rt := fun r e => Q r (outs [] 2 e) } := by
  obtain ⟨ns, k, rfl, h⟩ := h
  simp only [m_law_source, mSeq, scrD, nI, mVar, mC, mOp, mUn, i2, oSub, oMod, oDiv, oPow, oLt, oLe, oGt, oGe, oNeg, mT, mAnd, mOr, mNot, mAndV, mOrV, mNotV, mIf, mCh, bLt, bLe, bGt, bGe, mNil, mCons, mFz, mNoP, mPart, mB, oInt1, oMin2, oMin3, oMax2, mNext, mAsgG, gN, mIfS, mRet, mRetN, mDrop, mBreak, mCont, mFzS, mYes, mSetVol, mSrc, mCall, Spec1.io, args, Rs.lend, Rs.arg, Rs.rd, Rs.ffz, Rs.own, Rs.slot, Rs.item, items, Rs.t, Rs.stays, mD0, oIs, OT.ty, mFld, Env.wipe, Env.lent, Option.map_none, nI, nL, nT, mLst, mTup, List.getElem?_cons_zero, List.getElem?_cons_succ, List.set_cons_zero, List.set_cons_succ, Option.some.injEq, exists_eq_left', exists_eq_left, true_and, and_true, List.map_cons, List.map_nil, List.cons_append, List.nil_append, List.append_nil, Option.bind_some, Option.map_some, List.length_cons, List.length_nil, ite_true, ite_false, Bool.false_eq_true, if_true, if_false, eq_self_iff_true, reduceCtorEq, false_and, and_false, w_add, w_mul, w_ix_vol, w_ix_lst, w_ix_tup, w_ix_rol, w_ix_br, w_ix_brT, w_len_lst, w_len_tup, w_len_rol, w_len_br, w_len_nw, outs_nil, ffz_lst, ffz_tup, List.replicate_succ, List.replicate_zero, List.length_map, decide_eq_true_eq, Bool.not_eq_true', decide_eq_false_iff_not, Bool.not_true, Bool.not_false, Bool.true_eq_false, w_eq_int, w_setP, pk0, pkc1, pkc2, pkb1, pkb2, Bool.bne_false, Bool.bne_true] at h ⊢
  split
  · rename_i hk
    have hk : (k : Int) < (ns.length : Int) := by simpa using hk
    have e : at' (ns.map D.int) (k : Int) = some (.int ns[k]) := at_nat (by rw [List.getElem?_map, List.getElem?_eq_getElem (by omega)] <;> rfl)
    exact ⟨_, e, _, e, by unfold sizeL; omega, h⟩
  · exact ⟨ns, 0, rfl, fun x => ⟨trivial, x, _, rfl, fun y => ⟨trivial, by unfold sizeL; omega, h⟩⟩⟩

theorem wp_law_draw (cs : Cs) (ss : R.Env) (Q : Rs → R.Env → Prop) (h : (F_law_draw cs).io ss Q) : m_law_draw cs (ss ++ List.replicate 1 none) { nx := fun e => Q (.fz .non) (outs [] 2 e), rt := fun r e => Q r (outs [] 2 e) } := by
  obtain ⟨ps, b, rfl, h0, h1, h⟩ := h
  simp only [m_law_draw, mSeq, F_law_mixed, mVar, mC, mOp, mUn, i2, oSub, oMod, oDiv, oPow, oLt, oLe, oGt, oGe, oNeg, mT, mAnd, mOr, mNot, mAndV, mOrV, mNotV, mIf, mCh, bLt, bLe, bGt, bGe, mNil, mCons, mFz, mNoP, mPart, mB, oInt1, oMin2, oMin3, oMax2, mNext, mAsgG, gN, mIfS, mRet, mRetN, mDrop, mBreak, mCont, mFzS, mYes, mSetVol, mSrc, mCall, Spec1.io, args, Rs.lend, Rs.arg, Rs.rd, Rs.ffz, Rs.own, Rs.slot, Rs.item, items, Rs.t, Rs.stays, mD0, oIs, OT.ty, mFld, Env.wipe, Env.lent, Option.map_none, nI, nL, nT, mLst, mTup, List.getElem?_cons_zero, List.getElem?_cons_succ, List.set_cons_zero, List.set_cons_succ, Option.some.injEq, exists_eq_left', exists_eq_left, true_and, and_true, List.map_cons, List.map_nil, List.cons_append, List.nil_append, List.append_nil, Option.bind_some, Option.map_some, List.length_cons, List.length_nil, ite_true, ite_false, Bool.false_eq_true, if_true, if_false, eq_self_iff_true, reduceCtorEq, false_and, and_false, w_add, w_mul, w_ix_vol, w_ix_lst, w_ix_tup, w_ix_rol, w_ix_br, w_ix_brT, w_len_lst, w_len_tup, w_len_rol, w_len_br, w_len_nw, outs_nil, ffz_lst, ffz_tup, List.replicate_succ, List.replicate_zero, List.length_map, decide_eq_true_eq, Bool.not_eq_true', decide_eq_false_iff_not, Bool.not_true, Bool.not_false, Bool.true_eq_false, w_eq_int, w_setP, pk0, pkc1, pkc2, pkb1, pkb2, Bool.bne_false, Bool.bne_true] at h ⊢
  refine ⟨by omega, by omega, fun x => ⟨by decide, ?_⟩⟩
  have hm : ∀ y : Int, 0 ≤ y % b ∧ y % b < b := fun y => ⟨Int.emod_nonneg _ (by omega), Int.emod_lt_of_pos _ h0⟩
  split
  · refine ⟨by omega, by omega, fun y => ⟨h0, by omega, by omega, fun z => ⟨⟨h0, log2_lt h0 h1⟩, by omega, by omega, h _ (hm y).1 (hm y).2⟩⟩⟩
  · refine ⟨by omega, by omega, fun y => ⟨by omega, by omega, by omega, by omega, fun z => ⟨by omega, by omega, fun u => ⟨_, _, rfl, fun v => ⟨h0, h _ (hm v).1 (hm v).2⟩⟩⟩⟩⟩

theorem wp_law_pick (cs : Cs) (ss : R.Env) (Q : Rs → R.Env → Prop) (h : (F_law_pick cs).io ss Q) : m_law_pick cs (ss ++ List.replicate 0 none) { nx := fun e => Q (.fz .non) (outs [] 2 e), rt := fun r e => Q r (outs [] 2 e) } := by
  obtain ⟨ps, ds, rfl, h0, h1, h⟩ := h
  simp only [m_law_pick, mVar, mC, mOp, mUn, i2, oSub, oMod, oDiv, oPow, oLt, oLe, oGt, oGe, oNeg, mT, mAnd, mOr, mNot, mAndV, mOrV, mNotV, mIf, mCh, bLt, bLe, bGt, bGe, mNil, mCons, mFz, mNoP, mPart, mB, oInt1, oMin2, oMin3, oMax2, mNext, mAsgG, gN, mIfS, mRet, mRetN, mDrop, mBreak, mCont, mFzS, mYes, mSetVol, mSrc, mCall, Spec1.io, args, Rs.lend, Rs.arg, Rs.rd, Rs.ffz, Rs.own, Rs.slot, Rs.item, items, Rs.t, Rs.stays, mD0, oIs, OT.ty, mFld, Env.wipe, Env.lent, Option.map_none, nI, nL, nT, mLst, mTup, List.getElem?_cons_zero, List.getElem?_cons_succ, List.set_cons_zero, List.set_cons_succ, Option.some.injEq, exists_eq_left', exists_eq_left, true_and, and_true, List.map_cons, List.map_nil, List.cons_append, List.nil_append, List.append_nil, Option.bind_some, Option.map_some, List.length_cons, List.length_nil, ite_true, ite_false, Bool.false_eq_true, if_true, if_false, eq_self_iff_true, reduceCtorEq, false_and, and_false, w_add, w_mul, w_ix_vol, w_ix_lst, w_ix_tup, w_ix_rol, w_ix_br, w_ix_brT, w_len_lst, w_len_tup, w_len_rol, w_len_br, w_len_nw, outs_nil, ffz_lst, ffz_tup, List.replicate_succ, List.replicate_zero, List.length_map, decide_eq_true_eq, Bool.not_eq_true', decide_eq_false_iff_not, Bool.not_true, Bool.not_false, Bool.true_eq_false, w_eq_int, w_setP, pk0, pkc1, pkc2, pkb1, pkb2, Bool.bne_false, Bool.bne_true] at h ⊢
  have hl : 0 < ds.length := List.length_pos_iff.mpr h0
  refine ⟨ps, _, rfl, by omega, by omega, fun x hx hb => ⟨trivial, ?_⟩⟩
  obtain ⟨k, rfl⟩ : ∃ k : Nat, x = (k : Int) := ⟨x.toNat, by omega⟩
  have hk : k < ds.length := by omega
  exact ⟨ds[k], at_nat (List.getElem?_eq_getElem hk), trivial, h _ (List.getElem_mem hk)⟩

theorem wp_law_marks (cs : Cs) (ss : R.Env) (Q : Rs → R.Env → Prop) (h : (F_law_marks cs).io ss Q) : m_law_marks cs (ss ++ List.replicate 1 none) { nx := fun e => Q (.fz .non) (outs [] 1 e), rt := fun r e => Q r (outs [] 1 e) } := by
  obtain ⟨k, d, rfl, hk, hd, h⟩ := h
  unfold m_law_marks
  have one : ∀ (j : Nat) (b : Option Rs) (P : Rs → Prop), P (.fz (.bl (clsK k == j))) → mUn (oIsErr (adC cs) fun i => clsK i == j) (mVar 0) [fz d, b] P := fun j b P q => ⟨_, rfl, k, d, hk, rfl, hd, q⟩
  refine s_seq fun K hK => ?_
  dsimp only [mAsgG, mFz, mLst, mCons, mNil]
  refine one 0 _ _ (one 6 _ _ (one 1 _ _ ⟨_, rfl, by show 3 ≤ sizeL; unfold sizeL; omega, _, .lst (.cons (.leaf _) (.cons (.leaf _) (.cons (.leaf _) .nil))), trivial, hK _ ?_⟩))
  clear hK
  refine s_seq fun K hK => ?_
  dsimp only [mAsgG, mFz, mLst, mCons, mNil, mOp]
  refine ⟨_, rfl, one 2 _ _ (one 3 _ _ ⟨_, rfl, by show 2 ≤ sizeL; unfold sizeL; omega, .inl ⟨_, _, rfl, rfl, by show 5 ≤ sizeL; unfold sizeL; omega, _, .lst (FzAll.leafs _), trivial, hK _ ?_⟩⟩)⟩
  clear hK
  refine ⟨_, rfl, one 4 _ _ (one 5 _ _ ⟨_, rfl, by show 2 ≤ sizeL; unfold sizeL; omega, .inl ⟨_, _, rfl, rfl, by show 7 ≤ sizeL; unfold sizeL; omega, ?_⟩⟩)⟩
  exact ⟨trivial, h⟩

theorem wp_law_has_bases (cs : Cs) (ss : R.Env) (Q : Rs → R.Env → Prop) (h : (F_law_has_bases cs).io ss Q) : m_law_has_bases cs (ss ++ List.replicate 0 none) { nx := fun e => Q (.fz .non) (outs [] 1 e), rt := fun r e => Q r (outs [] 1 e) } := by
  obtain ⟨k, d, rfl, hk, hd, h⟩ := h
  exact ⟨_, rfl, k, d, hk, rfl, hd, ⟨_, rfl, k, d, hk, rfl, hd, trivial, h⟩⟩

theorem wp_law (cs : Cs) (ss : R.Env) (Q : Rs → R.Env → Prop) (h : (F_law cs).io ss Q) : m_law cs (ss ++ List.replicate 12 none) { nx := fun e => Q (.fz .non) (outs [] 1 e), rt := fun r e => Q r (outs [] 1 e) } := by
  obtain ⟨ns, rfl, hn, h⟩ := h
  unfold m_law
  refine s_seq fun K hK => ?_
  refine ⟨_, rfl, _, rfl, by omega, by omega, rfl, fun i e => ∃ y1 y2 y3 y4 y5 y6 y7 y8 y9 y10 y11 y12 : Option Rs, e = [fz (scrD ns), y1, y2, y3, y4, y5, y6, y7, y8, y9, y10, y11, y12], ⟨_, _, _, _, _, _, _, _, _, _, _, _, rfl⟩, ?_, ?_⟩
  · clear hK
    rintro i r e hr ⟨y1, y2, y3, y4, y5, y6, y7, y8, y9, y10, y11, y12, rfl⟩
    rw [rng_get hr, show (R.D.int (0 + (i : Int))) = nI i by rw [Int.zero_add] <;> rfl]
    refine ⟨trivial, ?_⟩
    refine s_seq fun K hK => ?_
    refine ⟨_, rfl, _, rfl, rfl, ns, i, rfl, trivial, trivial, hK _ ?_⟩
    clear hK
    refine s_seq fun K hK => ?_
    refine ⟨_, rfl, ⟨by decide, by decide, by decide⟩, rfl, [], 10 ^ 40, rfl, by decide, by decide, fun x hx0 hx1 => ⟨trivial, ⟨by decide, by decide, by decide⟩, trivial, trivial, hK _ ?_⟩⟩
    clear hK
    refine s_seq fun K hK => ?_
    refine ⟨_, rfl, _, rfl, by show 5 ≤ sizeL; unfold sizeL; omega, rfl, [], ["", "queue", "a longer message", "sizes", "x"].map fun z : String => R.D.str (z : PySem.Str), ?_, (by intro z; cases z), (by show 5 < 5000; omega), fun d hd => ?_⟩
    · show [_, some (Rs.nw (.lst ((["", "queue", "a longer message", "sizes", "x"].map fun z : String => R.D.str (z : PySem.Str)).map .leaf))).lend] = _
      rw [lend_nw (d := .lst (["", "queue", "a longer message", "sizes", "x"].map fun z : String => R.D.str (z : PySem.Str))) (by simp [OT.fzd, fzdAll])] <;> rfl
    refine ⟨trivial, ?_⟩
    obtain ⟨z, _, rfl⟩ := List.mem_map.mp hd
    refine ⟨trivial, hK _ ?_⟩
    clear hK
    generalize hv : x - 10 ^ Int.toNat 39 = v
    show mSeq _ _ [fz (scrD ns), fz (nI i), fz (.vol 0 []), fz (.int (x - 10 ^ Int.toNat 39)), fz (.str (z : PySem.Str)), y5, y6, y7, y8, y9, y10, y11, y12] _
    rw [hv]
    refine s_seq fun K hK => ?_
    refine ⟨_, rfl, _, rfl, _, rfl, _, rfl, _, rfl, by show 1 ≤ sizeL; unfold sizeL; omega, _, rfl, _, rfl, _, rfl, by show 2 ≤ sizeL; unfold sizeL; omega, _, rfl, by show 6 ≤ sizeL; unfold sizeL; omega, rfl, [], [.int v, .str (z : PySem.Str), .non, .lst [.int v], .tup [.str (z : PySem.Str), .int v], .str "members"], ?_, (by intro z; cases z), (by show 6 < 5000; omega), fun d hd => ?_⟩
    · show [_, some (Rs.nw (.lst [.leaf (.int v), .leaf (.str (z : PySem.Str)), .leaf .non, .lst [.leaf (.int v)], .tup [.leaf (.str (z : PySem.Str)), .leaf (.int v)], .leaf (.str ("members" : PySem.Str))])).lend] = _
      rw [lend_nw (d := .lst [.int v, .str (z : PySem.Str), .non, .lst [.int v], .tup [.str (z : PySem.Str), .int v], .str ("members" : PySem.Str)]) (by simp [OT.fzd, fzdAll])] <;> rfl
    refine ⟨trivial, trivial, hK _ ?_⟩
    clear hK
    have hp : ∃ p, d.pd 7 = some p := by
      have hs : ∀ (n : Nat) (w : String), R.D.pd n (.str (w : PySem.Str)) = some (PyData.str (w : PySem.Str)) := fun n w => by
        cases n <;> (show (if PyData.strOk (w : PySem.Str) = true then _ else _) = _; rw [if_pos (strOk_of w)])
      simp only [List.mem_cons, List.not_mem_nil, or_false] at hd
      rcases hd with rfl | rfl | rfl | rfl | rfl | rfl
      · exact ⟨_, rfl⟩
      · exact ⟨_, hs _ _⟩
      · exact ⟨_, rfl⟩
      · exact ⟨_, rfl⟩
      · exact ⟨.tuple [.str (z : PySem.Str), .int v], by
          show (allOf (R.D.pd 6) _).map _ = _
          simp only [allOf, hs]
          rfl⟩
      · exact ⟨_, hs _ _⟩
    obtain ⟨p, hp⟩ := hp
    show mSeq _ _ [fz (scrD ns), fz (nI i), fz (.vol 0 []), fz (.int v), fz (.str (z : PySem.Str)), fz d, y6, y7, y8, y9, y10, y11, y12] _
    clear hd
    refine s_seq fun K hK => ?_
    dsimp only [mAsgG, mFz, mLst, mCons, mNil]
    refine ⟨_, rfl, _, rfl, _, rfl, _, rfl, _, rfl, by show 2 ≤ sizeL; unfold sizeL; omega, .lst [d, d], .lst (.cons (.leaf _) (.cons (.leaf _) .nil)), trivial, hK _ ?_⟩
    clear hK
    refine s_seq fun K hK => ?_
    dsimp only [mAsgG, mFz, mLst, mCons, mNil, mOp]
    refine ⟨_, rfl, _, rfl, _, rfl, _, rfl, _, rfl, _, rfl, by show 2 ≤ sizeL; unfold sizeL; omega, .inl ⟨[d, d], [d, d], rfl, rfl, by show 4 ≤ sizeL; unfold sizeL; omega, _, fz_lst _, trivial, hK _ ?_⟩⟩
    clear hK
    refine s_seq fun K hK => ?_
    refine mIfS_ff (fun P hP => ?_) (hK _ ?_)
    · dsimp only [mT, mOp, mLst, mCons, mNil]
      refine ⟨_, rfl, _, rfl, _, rfl, by show 1 ≤ sizeL; unfold sizeL; omega, [d], rfl, by decide, by decide, by show 1 * 4 ≤ sizeL; unfold sizeL; omega, ?_⟩
      exact four_eq hp rfl (.inr (by rw [ffz_lst] <;> rfl)) hP
    clear hK
    refine s_seq fun K hK => ?_
    dsimp only [mAsgG, mFz, mLst, mCons, mNil, mErrF, mErr1, mErr0]
    refine ⟨_, rfl, _, rfl, _, rfl, _, rfl, _, rfl, _, rfl, by show 5 ≤ sizeL; unfold sizeL; omega, _, .lst (.cons (.leaf _) (.cons (.leaf _) (.cons (.leaf _) (.cons (.leaf _) (.cons (.leaf _) .nil))))), trivial, hK _ ?_⟩
    clear hK
    refine s_seq fun K hK => ?_
    dsimp only [mAsgG, mFz, mLst, mCons, mNil, mErrF, mErr1, mErr0, mOp]
    refine ⟨_, rfl, _, rfl, _, rfl, _, rfl, by show 2 ≤ sizeL; unfold sizeL; omega, .inl ⟨_, _, rfl, rfl, by show 7 ≤ sizeL; unfold sizeL; omega, _, fz_lst _, trivial, hK _ ?_⟩⟩
    clear hK
    refine s_seq fun K hK => ?_
    dsimp only [mAsgG, mFz, mLst, mCons, mNil, mErrF, mErr1, mErr0]
    refine ⟨_, rfl, by show 5 ≤ sizeL; unfold sizeL; omega, _, .lst (.cons (.leaf _) (.cons (.leaf _) (.cons (.leaf _) (.cons (.leaf _) (.cons (.leaf _) .nil))))), trivial, hK _ ?_⟩
    clear hK
    refine s_seq fun K hK => ?_
    dsimp only [mAsgG, mFz, mLst, mCons, mNil, mErrF, mErr1, mErr0, mOp]
    refine ⟨_, rfl, _, rfl, by show 2 ≤ sizeL; unfold sizeL; omega, .inl ⟨_, _, rfl, rfl, by show 7 ≤ sizeL; unfold sizeL; omega, _, fz_lst _, trivial, hK _ ?_⟩⟩
    clear hK
    obtain ⟨l1, e1, H1⟩ : ∃ l1, l1 = [errF cs.InvalidCups "part" (.str (z : PySem.Str)), errF cs.Incomparable "what" (.str (z : PySem.Str)), errD cs.InvalidState, errD cs.InvalidStep, errD cs.InvalidEvents, errD cs.InvalidMember, errD cs.InvalidCup] ∧ ErrL cs l1 := ⟨_, rfl, rfl, fun j hj => match j, hj with
      | 0, _ => .inr ⟨_, _, rfl⟩ | 1, _ => .inr ⟨_, _, rfl⟩ | 2, _ => .inl rfl | 3, _ => .inl rfl | 4, _ => .inl rfl | 5, _ => .inl rfl | 6, _ => .inl rfl | n + 7, h => absurd h (by omega)⟩
    obtain ⟨l2, e2, H2⟩ : ∃ l2, l2 = [errF cs.InvalidCups "part" .non, errF cs.Incomparable "what" .non, errD cs.InvalidState, errD cs.InvalidStep, errD cs.InvalidEvents, errD cs.InvalidMember, errD cs.InvalidCup] ∧ ErrL cs l2 := ⟨_, rfl, rfl, fun j hj => match j, hj with
      | 0, _ => .inr ⟨_, _, rfl⟩ | 1, _ => .inr ⟨_, _, rfl⟩ | 2, _ => .inl rfl | 3, _ => .inl rfl | 4, _ => .inl rfl | 5, _ => .inl rfl | 6, _ => .inl rfl | n + 7, h => absurd h (by omega)⟩
    have eG : ([fz (scrD ns), fz (nI i), fz (.vol 0 []), fz (.int v), fz (.str (z : PySem.Str)), fz d, fz (.lst [d, d, d, d]), fz (.lst l1), fz (.lst l2), y9, y10, y11, y12] : R.Env) = [fz (scrD ns), fz (nI i), fz (.vol 0 []), fz (.int v), fz (.str (z : PySem.Str)), fz d, fz (.lst [d, d, d, d]), fz (.lst [errF cs.InvalidCups "part" (.str (z : PySem.Str)), errF cs.Incomparable "what" (.str (z : PySem.Str)), errD cs.InvalidState, errD cs.InvalidStep, errD cs.InvalidEvents, errD cs.InvalidMember, errD cs.InvalidCup]), fz (.lst [errF cs.InvalidCups "part" .non, errF cs.Incomparable "what" .non, errD cs.InvalidState, errD cs.InvalidStep, errD cs.InvalidEvents, errD cs.InvalidMember, errD cs.InvalidCup]), y9, y10, y11, y12] := by rw [e1, e2]
    refine (show mFor _ _ _ [fz (scrD ns), fz (nI i), fz (.vol 0 []), fz (.int v), fz (.str (z : PySem.Str)), fz d, fz (.lst [d, d, d, d]), fz (.lst [errF cs.InvalidCups "part" (.str (z : PySem.Str)), errF cs.Incomparable "what" (.str (z : PySem.Str)), errD cs.InvalidState, errD cs.InvalidStep, errD cs.InvalidEvents, errD cs.InvalidMember, errD cs.InvalidCup]), fz (.lst [errF cs.InvalidCups "part" .non, errF cs.Incomparable "what" .non, errD cs.InvalidState, errD cs.InvalidStep, errD cs.InvalidEvents, errD cs.InvalidMember, errD cs.InvalidCup]), y9, y10, y11, y12] _ from ?_)
    rw [← eG]
    clear eG e1 e2
    have eT : (Rs.nw (.tup [.leaf (.lst l1), .leaf (.lst l2)])).ffz = .fz (.tup [.lst l1, .lst l2]) := ffz_nw (by simp [OT.fzd, fzdAll])
    dsimp only [mFor, mItL, mTup, mCons, mNil]
    refine ⟨_, rfl, _, rfl, _, rfl, by show 2 ≤ sizeL; unfold sizeL; omega, [.leaf (.lst l1), .leaf (.lst l2)], ?_, ?_⟩
    · show (Rs.nw (.tup [.leaf (.lst l1), .leaf (.lst l2)])).ffz.t.kids = _
      rw [eT] <;> rfl
    show (Rs.nw (.tup [.leaf (.lst l1), .leaf (.lst l2)])).ffz.stays = true ∧ _
    rw [eT]
    refine ⟨rfl, fun i2 e => ∃ y9 y10 y11 y12 : Option Rs, e = [fz (scrD ns), fz (nI i), fz (.vol 0 []), fz (.int v), fz (.str (z : PySem.Str)), fz d, fz (.lst [d, d, d, d]), fz (.lst l1), fz (.lst l2), y9, y10, y11, y12], ⟨_, _, _, _, rfl⟩, ?_, ?_⟩
    · rintro j2 r2 e hr2 ⟨y9, y10, y11, y12, rfl⟩
      obtain ⟨l, rfl, HL⟩ : ∃ l, r2 = .fz (.lst l) ∧ ErrL cs l := by
        have e2 : ([.leaf (.lst l1), .leaf (.lst l2)] : List OT).map (Rs.kid (.fz (.tup [.lst l1, .lst l2]))) = [.fz (.lst l1), .fz (.lst l2)] := rfl
        rw [e2] at hr2
        match j2, hr2 with
        | 0, hr2 => cases hr2; exact ⟨l1, rfl, H1⟩
        | 1, hr2 => cases hr2; exact ⟨l2, rfl, H2⟩
      refine ⟨trivial, ?_⟩
      refine ⟨_, rfl, l, rfl, rfl, fun i2 e => ∃ y10 y11 y12 : Option Rs, e = [fz (scrD ns), fz (nI i), fz (.vol 0 []), fz (.int v), fz (.str (z : PySem.Str)), fz d, fz (.lst [d, d, d, d]), fz (.lst l1), fz (.lst l2), fz (.lst l), y10, y11, y12], ⟨_, _, _, rfl⟩, ?_, ?_⟩
      · rintro j r e hr ⟨y10, y11, y12, rfl⟩
        obtain ⟨hj, rfl⟩ := get_enumD hr
        rw [HL.1] at hj
        refine gT2 ?_
        refine mIfS_ff (fun P hP => ?_) ⟨_, _, _, rfl⟩
        refine or_p ?_
        refine ⟨_, rfl, rfl, pk ordK j, _, rfl, ord_lt j hj, HL.2 j hj, trivial, ?_⟩
        refine lc_any (rng 0 7) true (fun n => .leaf (.bl (decide (n = j)))) (fun Q' q => ⟨by decide, by decide, q⟩) (by show 7 ≤ sizeL; unfold sizeL; omega) (fun n r hr => ?_) ?_
        · rw [rng_get hr, show (R.D.int (0 + (n : Int))) = nI n by rw [Int.zero_add] <;> rfl]
          refine ⟨trivial, rfl, ?_⟩
          refine ⟨_, rfl, _, rfl, ?_⟩
          show oEq false (.fz (.int n)) (.fz (.int j)) _
          rw [w_eq_int]
          refine ⟨_, rfl, ?_⟩
          have e1 : (((n : Int) = (j : Int)) ↔ n = j) := Int.ofNat_inj
          rw [show (decide (((n : Int)) = (j : Int)) != false) = decide (n = j) by simp [e1]]
          exact item_snoc
        rw [mks_at j hj]
        refine bls_eq (List.range 7) (fun n => decide (n = j)) (.inl ?_) (.inl ?_) ⟨fun z => (by cases z), fun _ => ⟨_, rfl, rfl, pk ordK j, _, rfl, ord_lt j hj, HL.2 j hj, trivial, hP⟩⟩
        · rw [ffz_lst] <;> rfl
        · show (Rs.nw (.lst ((List.range 7).map fun n => OT.leaf (.bl (decide (n = j)))))).ffz.t = _
          rw [show ((List.range 7).map fun n => OT.leaf (.bl (decide (n = j)))) = ((List.range 7).map fun n => R.D.bl (decide (n = j))).map OT.leaf by rw [List.map_map] <;> rfl, ffz_lst] <;> rfl
      · rintro e ⟨y10, y11, y12, rfl⟩
        exact ⟨_, _, _, _, rfl⟩
    · rintro e ⟨y9, y10, y11, y12, rfl⟩
      exact ⟨_, _, _, _, _, _, _, _, _, _, _, _, rfl⟩
  · rintro e ⟨y1, y2, y3, y4, y5, y6, y7, y8, y9, y10, y11, y12, rfl⟩
    exact hK _ ⟨trivial, h⟩

section
variable {P : Program} {w : World} {K : PySem.W.Frag} {mg : PySem.Str → Option Value} {base : Heap} {f : Addr} {cs : Cs}


theorem b_law_cell_at  (T : Tt K mg cs) : ∀ (cdv : Value) (A : Around) (outer : List PySem.Env) (s : Shared) (H : Hp) (E : XK), R.Room 0 (A.deeper (envOfC "_law_cell_at" (defScope s_law_cell_at) s.heap.objs.size f cdv)) → PSs (cxOf CX0 P w K mg base N_law_cell_at "_law_cell_at" (defScope s_law_cell_at) f cdv A outer s H E).nox (defBody s_law_cell_at) (LS K exT [] (m_law_cell_at cs)) := fun cdv A outer s H E hr => (dss_cons (ds_if (dt_lt (dp_var (i := 1)) (dp_len T.b_len (da_cons (dp_var (i := 0)) da_nil))) (dss_one (ds_ret (dp_ix (dp_var (i := 0)) (dp_var (i := 1))))) dss_nil) (dss_one (ds_ret dp_int)))
theorem b_law_mixed  (T : Tt K mg cs) : ∀ (cdv : Value) (A : Around) (outer : List PySem.Env) (s : Shared) (H : Hp) (E : XK), R.Room 0 (A.deeper (envOfC "_law_mixed" (defScope s_law_mixed) s.heap.objs.size f cdv)) → PSs (cxOf CX0 P w K mg base N_law_mixed "_law_mixed" (defScope s_law_mixed) f cdv A outer s H E).nox (defBody s_law_mixed) (LS K exT [] (m_law_mixed cs)) := fun cdv A outer s H E hr => (dss_cons (ds_asg (i := 2) sc_law_mixed.nd rfl (dp_fz (dp_add (dp_mod (dp_int1 T.b_int (da_cons (dp_var (i := 0)) da_nil)) dp_int) (dp_mul (dp_div (dp_var (i := 0)) dp_int) dp_int)))) (dss_cons (ds_asg (i := 2) sc_law_mixed.nd rfl (dp_fz (dp_mod (dp_int1 T.b_int (da_cons (dp_mul (dp_add (dp_add (dp_var (i := 2)) (dp_mul dp_int (dp_var (i := 1)))) dp_int) dp_int) da_nil)) dp_int))) (dss_cons (ds_asg (i := 2) sc_law_mixed.nd rfl (dp_fz (dp_mod (dp_int1 T.b_int (da_cons (dp_mul (dp_var (i := 2)) (dp_add (dp_add (dp_div (dp_var (i := 2)) dp_int) dp_int) (dp_var (i := 1)))) da_nil)) dp_int))) (dss_one (ds_ret (dp_mod (dp_int1 T.b_int (da_cons (dp_mul (dp_var (i := 2)) (dp_add (dp_div (dp_var (i := 2)) dp_int) dp_int)) da_nil)) dp_int))))))
theorem b_law_source (h_law_mixed : CalR P w K mg base "_law_mixed" 2 (F_law_mixed cs) [] 1) (h_law_cell_at : CalR P w K mg base "_law_cell_at" 2 (F_law_cell_at cs) [] 1) (T : Tt K mg cs) : ∀ (cdv : Value) (A : Around) (outer : List PySem.Env) (s : Shared) (H : Hp) (E : XK), R.Room 1 (A.deeper (envOfC "_law_source" (defScope s_law_source) s.heap.objs.size f cdv)) → PSs (cxOf CX0 P w K mg base N_law_source "_law_source" (defScope s_law_source) f cdv A outer s H E).nox (defBody s_law_source) (LS K exT [] (m_law_source cs)) := fun cdv A outer s H E hr => (dss_cons (ds_if (dt_lt (dp_var (i := 1)) (dp_len T.b_len (da_cons (dp_var (i := 0)) da_nil))) (dss_one (ds_ret (dp_src (dp_lst (da_cons (dp_ix (dp_var (i := 0)) (dp_var (i := 1))) (da_cons (dp_ix (dp_var (i := 0)) (dp_var (i := 1))) (da_cons dp_int da_nil))))))) dss_nil) (dss_cons (ds_asg (i := 2) sc_law_source.nd rfl (dp_fz (dp_cal h_law_mixed hr (by first | decide | omega) (da_cons (dp_cal h_law_cell_at hr (by first | decide | omega) (da_cons (dp_var (i := 0)) (da_cons dp_int da_nil))) (da_cons (dp_add dp_int (dp_var (i := 1))) da_nil))))) (dss_one (ds_ret (dp_src (dp_lst (da_cons (dp_var (i := 2)) (da_cons (dp_var (i := 2)) (da_cons dp_int da_nil)))))))))
theorem b_law_draw (h_law_mixed : CalR P w K mg base "_law_mixed" 2 (F_law_mixed cs) [] 1) (T : Tt K mg cs) : ∀ (cdv : Value) (A : Around) (outer : List PySem.Env) (s : Shared) (H : Hp) (E : XK), R.Room 1 (A.deeper (envOfC "_law_draw" (defScope s_law_draw) s.heap.objs.size f cdv)) → PSs (cxOf CX0 P w K mg base N_law_draw "_law_draw" (defScope s_law_draw) f cdv A outer s H E).nox (defBody s_law_draw) (LS K exT [] (m_law_draw cs)) := fun cdv A outer s H E hr => (dss_cons (ds_if (dt_ge (dp_ix (dp_var (i := 0)) dp_int) (dp_pow dp_int dp_int)) (dss_cons (ds_asg (i := 2) sc_law_draw.nd rfl (dp_fz (dp_mod (dp_int1 T.b_int (da_cons (dp_ix (dp_var (i := 0)) dp_int) da_nil)) (dp_var (i := 1))))) (dss_cons (ds_setVol (dp_var (i := 0)) dp_int (dp_div (dp_ix (dp_var (i := 0)) dp_int) (dp_var (i := 1)))) (dss_one (ds_ret (dp_var (i := 2)))))) dss_nil) (dss_cons (ds_setVol (dp_var (i := 0)) dp_int (dp_add (dp_ix (dp_var (i := 0)) dp_int) dp_int)) (dss_one (ds_ret (dp_mod (dp_int1 T.b_int (da_cons (dp_cal h_law_mixed hr (by first | decide | omega) (da_cons (dp_ix (dp_var (i := 0)) dp_int) (da_cons (dp_ix (dp_var (i := 0)) dp_int) da_nil))) da_nil)) (dp_var (i := 1)))))))
theorem b_law_pick (h_law_draw : CalR P w K mg base "_law_draw" 2 (F_law_draw cs) [] 2) (T : Tt K mg cs) : ∀ (cdv : Value) (A : Around) (outer : List PySem.Env) (s : Shared) (H : Hp) (E : XK), R.Room 2 (A.deeper (envOfC "_law_pick" (defScope s_law_pick) s.heap.objs.size f cdv)) → PSs (cxOf CX0 P w K mg base N_law_pick "_law_pick" (defScope s_law_pick) f cdv A outer s H E).nox (defBody s_law_pick) (LS K exT [] (m_law_pick cs)) := fun cdv A outer s H E hr => (dss_one (ds_ret (dp_ix (dp_var (i := 1)) (dp_cal h_law_draw hr (by first | decide | omega) (da_cons (dp_var (i := 0)) (da_cons (dp_len T.b_len (da_cons (dp_var (i := 1)) da_nil)) da_nil))))))
theorem b_law_marks  (T : Tt K mg cs) : ∀ (cdv : Value) (A : Around) (outer : List PySem.Env) (s : Shared) (H : Hp) (E : XK), R.Room 0 (A.deeper (envOfC "_law_marks" (defScope s_law_marks) s.heap.objs.size f cdv)) → PSs (cxOf CX0 P w K mg base N_law_marks "_law_marks" (defScope s_law_marks) f cdv A outer s H E).nox (defBody s_law_marks) (LS K exT [] (m_law_marks cs)) := fun cdv A outer s H E hr => (dss_cons (ds_asg (i := 1) sc_law_marks.nd rfl (dp_fz (dp_lst (da_cons (dp_isErr (cV := .ref cs.InvalidCups) (ad := adC cs) T.b_isinstance (fun j h => (T.errI j h).c) (fun j h => (T.errI j h).is 0 (by decide)) (fun u h => h) (by exact pe_glob (v := .ref cs.InvalidCups) rfl T.g_InvalidCups rfl (by decide)) (dp_var (i := 0))) (da_cons (dp_isErr (cV := .ref cs.Incomparable) (ad := adC cs) T.b_isinstance (fun j h => (T.errI j h).c) (fun j h => (T.errI j h).is 6 (by decide)) (fun u h => h) (by exact pe_glob (v := .ref cs.Incomparable) rfl T.g_Incomparable rfl (by decide)) (dp_var (i := 0))) (da_cons (dp_isErr (cV := .ref cs.InvalidState) (ad := adC cs) T.b_isinstance (fun j h => (T.errI j h).c) (fun j h => (T.errI j h).is 1 (by decide)) (fun u h => h) (by exact pe_glob (v := .ref cs.InvalidState) rfl T.g_InvalidState rfl (by decide)) (dp_var (i := 0))) da_nil)))))) (dss_cons (ds_asg (i := 1) sc_law_marks.nd rfl (dp_fz (dp_add (dp_var (i := 1)) (dp_lst (da_cons (dp_isErr (cV := .ref cs.InvalidStep) (ad := adC cs) T.b_isinstance (fun j h => (T.errI j h).c) (fun j h => (T.errI j h).is 2 (by decide)) (fun u h => h) (by exact pe_glob (v := .ref cs.InvalidStep) rfl T.g_InvalidStep rfl (by decide)) (dp_var (i := 0))) (da_cons (dp_isErr (cV := .ref cs.InvalidEvents) (ad := adC cs) T.b_isinstance (fun j h => (T.errI j h).c) (fun j h => (T.errI j h).is 3 (by decide)) (fun u h => h) (by exact pe_glob (v := .ref cs.InvalidEvents) rfl T.g_InvalidEvents rfl (by decide)) (dp_var (i := 0))) da_nil)))))) (dss_one (ds_ret (dp_add (dp_var (i := 1)) (dp_lst (da_cons (dp_isErr (cV := .ref cs.InvalidMember) (ad := adC cs) T.b_isinstance (fun j h => (T.errI j h).c) (fun j h => (T.errI j h).is 4 (by decide)) (fun u h => h) (by exact pe_glob (v := .ref cs.InvalidMember) rfl T.g_InvalidMember rfl (by decide)) (dp_var (i := 0))) (da_cons (dp_isErr (cV := .ref cs.InvalidCup) (ad := adC cs) T.b_isinstance (fun j h => (T.errI j h).c) (fun j h => (T.errI j h).is 5 (by decide)) (fun u h => h) (by exact pe_glob (v := .ref cs.InvalidCup) rfl T.g_InvalidCup rfl (by decide)) (dp_var (i := 0))) da_nil))))))))
theorem b_law_has_bases  (T : Tt K mg cs) : ∀ (cdv : Value) (A : Around) (outer : List PySem.Env) (s : Shared) (H : Hp) (E : XK), R.Room 0 (A.deeper (envOfC "_law_has_bases" (defScope s_law_has_bases) s.heap.objs.size f cdv)) → PSs (cxOf CX0 P w K mg base N_law_has_bases "_law_has_bases" (defScope s_law_has_bases) f cdv A outer s H E).nox (defBody s_law_has_bases) (LS K exT [] (m_law_has_bases cs)) := fun cdv A outer s H E hr => (dss_one (ds_ret (dp_and (dp_isErr (cV := .ref cs.CupLadderError) (ad := adC cs) T.b_isinstance (fun j h => (T.errI j h).c) (fun j h => T.errU j h) (fun u h => h) (by exact pe_glob (v := .ref cs.CupLadderError) rfl T.g_CupLadderError rfl (by decide)) (dp_var (i := 0))) (dp_one (dp_isErr (cV := .ty "ValueError") (ad := adC cs) T.b_isinstance (fun j h => (T.errI j h).c) (fun j h => (T.errI j h).ve) (fun u h => h) (by exact pe_bltn (v := .ty "ValueError") rfl T.b_ValueError (by decide +kernel) rfl (by decide) (by decide)) (dp_var (i := 0)))))))
theorem b_law (h_law_source : CalR P w K mg base "_law_source" 2 (F_law_source cs) [] 2) (h_law_draw : CalR P w K mg base "_law_draw" 2 (F_law_draw cs) [] 2) (h_law_pick : CalR P w K mg base "_law_pick" 2 (F_law_pick cs) [] 3) (h_InvalidCups_iniZ : IniZ P w K mg base "InvalidCups" cs.InvalidCups "part" 1) (h_InvalidCups_iniV : IniV P w K mg base "InvalidCups" cs.InvalidCups "part" 1) (h_Incomparable_iniZ : IniZ P w K mg base "Incomparable" cs.Incomparable "what" 1) (h_Incomparable_iniV : IniV P w K mg base "Incomparable" cs.Incomparable "what" 1) (h_law_marks : CalR P w K mg base "_law_marks" 1 (F_law_marks cs) [] 1) (h_law_has_bases : CalR P w K mg base "_law_has_bases" 1 (F_law_has_bases cs) [] 1) (T : Tt K mg cs) : ∀ (cdv : Value) (A : Around) (outer : List PySem.Env) (s : Shared) (H : Hp) (E : XK), R.Room 3 (A.deeper (envOfC "law" (defScope s_law) s.heap.objs.size f cdv)) → PSs (cxOf CX0 P w K mg base N_law "law" (defScope s_law) f cdv A outer s H E).nox (defBody s_law) (LS K exT [] (m_law cs)) := fun cdv A outer s H E hr => (dss_cons (ds_for PassesOwn.never rfl (di_rng1 T.b_range (dp_max2 rfl T.b_max (da_cons dp_int (da_cons (dp_min2 rfl T.b_min (da_cons dp_int (da_cons (dp_len T.b_len (da_cons (dp_var (i := 0)) da_nil)) da_nil))) da_nil)))) (dg_name (i := 1) sc_law.nd rfl) (dss_cons (ds_asg (i := 2) sc_law.nd rfl (dp_fz (dp_cal h_law_source hr (by first | decide | omega) (da_cons (dp_var (i := 0)) (da_cons (dp_var (i := 1)) da_nil))))) (dss_cons (ds_asg (i := 3) sc_law.nd rfl (dp_fz (dp_sub (dp_cal h_law_draw hr (by first | decide | omega) (da_cons (dp_var (i := 2)) (da_cons (dp_pow dp_int dp_int) da_nil))) (dp_pow dp_int dp_int)))) (dss_cons (ds_asg (i := 4) sc_law.nd rfl (dp_fz (dp_cal h_law_pick hr (by first | decide | omega) (da_cons (dp_var (i := 2)) (da_cons (dp_lst (da_cons dp_str (da_cons dp_str (da_cons dp_str (da_cons dp_str (da_cons dp_str da_nil)))))) da_nil))))) (dss_cons (ds_asg (i := 5) sc_law.nd rfl (dp_fz (dp_cal h_law_pick hr (by first | decide | omega) (da_cons (dp_var (i := 2)) (da_cons (dp_lst (da_cons (dp_var (i := 3)) (da_cons (dp_var (i := 4)) (da_cons dp_non (da_cons (dp_lst (da_cons (dp_var (i := 3)) da_nil)) (da_cons (dp_tup (da_cons (dp_var (i := 4)) (da_cons (dp_var (i := 3)) da_nil))) (da_cons dp_str da_nil))))))) da_nil))))) (dss_cons (ds_asg (i := 6) sc_law.nd rfl (dp_fz (dp_lst (da_cons (dp_newF h_InvalidCups_iniV (xf_ex (T.errI 0 (by decide)).c) h_InvalidCups_iniV.no hr (by first | decide | omega) (dp_var (i := 5))) (da_cons (dp_newFZ h_InvalidCups_iniZ (xf_ex (T.errI 0 (by decide)).c) h_InvalidCups_iniZ.no hr (by first | decide | omega) (dp_var (i := 5))) da_nil))))) (dss_cons (ds_asg (i := 6) sc_law.nd rfl (dp_fz (dp_add (dp_var (i := 6)) (dp_lst (da_cons (dp_newF h_Incomparable_iniV (xf_ex (T.errI 6 (by decide)).c) h_Incomparable_iniV.no hr (by first | decide | omega) (dp_var (i := 5))) (da_cons (dp_newFZ h_Incomparable_iniZ (xf_ex (T.errI 6 (by decide)).c) h_Incomparable_iniZ.no hr (by first | decide | omega) (dp_var (i := 5))) da_nil)))))) (dss_cons (ds_if (dt_ne (hu_R hr) (dp_var (i := 6)) (dp_mul (dp_lst (da_cons (dp_var (i := 5)) da_nil)) dp_int)) (dss_one (ds_ret dp_bl)) dss_nil) (dss_cons (ds_asg (i := 7) sc_law.nd rfl (dp_fz (dp_lst (da_cons (dp_errF h_InvalidCups_iniV hr (by first | decide | omega) (dp_var (i := 4))) (da_cons (dp_errF h_Incomparable_iniV hr (by first | decide | omega) (dp_var (i := 4))) (da_cons (dp_err1 T.e_InvalidState (dp_var (i := 4))) (da_cons (dp_err1 T.e_InvalidStep (dp_var (i := 4))) (da_cons (dp_err1 T.e_InvalidEvents (dp_var (i := 4))) da_nil)))))))) (dss_cons (ds_asg (i := 7) sc_law.nd rfl (dp_fz (dp_add (dp_var (i := 7)) (dp_lst (da_cons (dp_err1 T.e_InvalidMember (dp_var (i := 4))) (da_cons (dp_err1 T.e_InvalidCup (dp_var (i := 4))) da_nil)))))) (dss_cons (ds_asg (i := 8) sc_law.nd rfl (dp_fz (dp_lst (da_cons (dp_errF h_InvalidCups_iniV hr (by first | decide | omega) dp_non) (da_cons (dp_errF h_Incomparable_iniV hr (by first | decide | omega) dp_non) (da_cons (dp_err0 T.e_InvalidState) (da_cons (dp_err0 T.e_InvalidStep) (da_cons (dp_err0 T.e_InvalidEvents) da_nil)))))))) (dss_cons (ds_asg (i := 8) sc_law.nd rfl (dp_fz (dp_add (dp_var (i := 8)) (dp_lst (da_cons (dp_err0 T.e_InvalidMember) (da_cons (dp_err0 T.e_InvalidCup) da_nil)))))) (dss_one (ds_for PassesOwn.never rfl (di_list (dp_tup (da_cons (dp_var (i := 7)) (da_cons (dp_var (i := 8)) da_nil)))) (dg_name (i := 9) sc_law.nd rfl) (dss_one (ds_for PassesOwn.never rfl (di_enum T.b_enumerate (dp_var (i := 9))) (dg_tup rfl (dgs_cons (dg_name (i := 10) sc_law.nd rfl) (dgs_cons (dg_name (i := 11) sc_law.nd rfl) dgs_nil))) (dss_one (ds_if (PW.pt (dw_or (dt_ne (hu_R hr) (dp_cal h_law_marks hr (by first | decide | omega) (da_cons (dp_var (i := 11)) da_nil)) (dp_lc (own := [("_law_index", 12)]) rfl sc_law.nd (di_rng1 T.b_range dp_int) (blkOk_by (own := [("_law_index", 12)]) (N := N_law) (sc := defScope s_law) (by decide +kernel)) (fun _ _ _ _ _ => (dg_name (i := 12) sc_law.nd rfl)) (fun _ _ _ _ _ => dts_nil) (fun _ _ _ _ _ => (dp_eq (hu_R hr) (dp_var (i := 12)) (dp_var (i := 10)))))) (dw_or1 (dt_not (dt_val (dp_cal h_law_has_bases hr (by first | decide | omega) (da_cons (dp_var (i := 11)) da_nil))))))) (dss_one (ds_ret dp_bl)) dss_nil)))))))))))))))))) (dss_one (ds_ret dp_bl)))
end
abbrev csK (K : PySem.W.Frag) : Cs := ⟨He.ga K "CupLadderError", He.ga K "InvalidCups", He.ga K "InvalidState", He.ga K "InvalidStep", He.ga K "InvalidEvents", He.ga K "InvalidMember", He.ga K "InvalidCup", He.ga K "Incomparable", 0, 0, 0⟩
theorem ob_eq (s : PySem.W.SharedT) : ob s = hk.obs s.abs := R.obsY_eq (HandSHeadRun.getT_eq s)
theorem facts {P : Program} {w : World} {K : PySem.W.Frag} {h : Heap} {mg : PySem.Str → Option Value} {f : Addr} (X : K.In h) (G : h.Ns mainGlobals mg) (hfa : mg ("law" : PySem.Str) = some (.ref f)) (cX : He.SaysX fa fn [] tf moreB w h K) : ∃ (cs : Cs) (fd : FuncData), (∀ (s : Shared) (v : Value), BindsTo s fd ⟨[v], []⟩ [("_law_script", v)]) ∧ ∀ base : Heap, K.In base → base.Ns mainGlobals mg → (∀ p ∈ tf.map (He.cT K), LamX.TabB base mg p.1 p.2) → R.FnOk P w K mg base CX0 4 f fd ["_law_script"] (spR K 1 (F_law cs).io) := by
  have c := cX.t.d
  have ci := exB_is (He.ba cX.more).1
  obtain ⟨fd0, FD0⟩ := c.def_ 0 (d := dD_InvalidCups_init) rfl
  obtain ⟨fd1, FD1⟩ := c.def_ 1 (d := dD_Incomparable_init) rfl
  obtain ⟨fd2, FD2⟩ := c.def_ 2 (d := dD_law_cell_at) rfl
  obtain ⟨fd3, FD3⟩ := c.def_ 3 (d := dD_law_mixed) rfl
  obtain ⟨fd4, FD4⟩ := c.def_ 4 (d := dD_law_source) rfl
  obtain ⟨fd5, FD5⟩ := c.def_ 5 (d := dD_law_draw) rfl
  obtain ⟨fd6, FD6⟩ := c.def_ 6 (d := dD_law_pick) rfl
  obtain ⟨fd7, FD7⟩ := c.def_ 7 (d := dD_law_marks) rfl
  obtain ⟨fd8, FD8⟩ := c.def_ 8 (d := dD_law_has_bases) rfl
  obtain ⟨fd9, FD9⟩ := c.def_ 9 (d := dD_law) rfl
  have hA : ∀ j, j < 12 → He.ga K (esl.getD j "") = adC (csK K) j := fun j hj => match j, hj with | 0, _ => rfl | 1, _ => rfl | 2, _ => rfl | 3, _ => rfl | 4, _ => rfl | 5, _ => rfl | 6, _ => rfl | 7, _ => rfl | 8, _ => rfl | 9, _ => rfl | 10, _ => rfl | 11, _ => rfl | n + 12, h => absurd h (by show ¬ (n + 12 < 12); omega)
  have T : Tt K mg (csK K) := ⟨He.free_ok X G (c.fact 8 (f := .free "ValueError") rfl),
    He.free_ok X G (c.fact 9 (f := .free "enumerate") rfl),
    He.free_ok X G (c.fact 10 (f := .free "int") rfl),
    He.free_ok X G (c.fact 11 (f := .free "isinstance") rfl),
    He.free_ok X G (c.fact 12 (f := .free "len") rfl),
    He.free_ok X G (c.fact 13 (f := .free "max") rfl),
    He.free_ok X G (c.fact 14 (f := .free "min") rfl),
    He.free_ok X G (c.fact 15 (f := .free "range") rfl),
    ⟨He.glo_ok X G (c.fact 6 (f := .glo "InvalidCup") rfl), (He.exc_ok (c.fact 16 (f := .exc "InvalidCup") rfl)).1, (He.exc_ok (c.fact 16 (f := .exc "InvalidCup") rfl)).2.1, (He.exc_ok (c.fact 16 (f := .exc "InvalidCup") rfl)).2.2.1, (He.exc_ok (c.fact 16 (f := .exc "InvalidCup") rfl)).2.2.2⟩,
    ⟨He.glo_ok X G (c.fact 4 (f := .glo "InvalidEvents") rfl), (He.exc_ok (c.fact 17 (f := .exc "InvalidEvents") rfl)).1, (He.exc_ok (c.fact 17 (f := .exc "InvalidEvents") rfl)).2.1, (He.exc_ok (c.fact 17 (f := .exc "InvalidEvents") rfl)).2.2.1, (He.exc_ok (c.fact 17 (f := .exc "InvalidEvents") rfl)).2.2.2⟩,
    ⟨He.glo_ok X G (c.fact 5 (f := .glo "InvalidMember") rfl), (He.exc_ok (c.fact 18 (f := .exc "InvalidMember") rfl)).1, (He.exc_ok (c.fact 18 (f := .exc "InvalidMember") rfl)).2.1, (He.exc_ok (c.fact 18 (f := .exc "InvalidMember") rfl)).2.2.1, (He.exc_ok (c.fact 18 (f := .exc "InvalidMember") rfl)).2.2.2⟩,
    ⟨He.glo_ok X G (c.fact 2 (f := .glo "InvalidState") rfl), (He.exc_ok (c.fact 19 (f := .exc "InvalidState") rfl)).1, (He.exc_ok (c.fact 19 (f := .exc "InvalidState") rfl)).2.1, (He.exc_ok (c.fact 19 (f := .exc "InvalidState") rfl)).2.2.1, (He.exc_ok (c.fact 19 (f := .exc "InvalidState") rfl)).2.2.2⟩,
    ⟨He.glo_ok X G (c.fact 3 (f := .glo "InvalidStep") rfl), (He.exc_ok (c.fact 20 (f := .exc "InvalidStep") rfl)).1, (He.exc_ok (c.fact 20 (f := .exc "InvalidStep") rfl)).2.1, (He.exc_ok (c.fact 20 (f := .exc "InvalidStep") rfl)).2.2.1, (He.exc_ok (c.fact 20 (f := .exc "InvalidStep") rfl)).2.2.2⟩,
    (fun k hk => (exB_err (He.ba cX.more).1 (k := k) ((show ∀ k, k < 7 → k ∈ ksl by decide) k hk)).congr (hA k (by omega)) (fun j hj => hA j (by omega))),
    (fun k hk => (hA k (by omega)) ▸ (show PySem.W.kitOne K (.ref (He.ga K (esl.getD k ""))) (.ref (He.ga K "CupLadderError")) = some true from of_decide_eq_true (List.all_eq_true.mp (He.ba cX.more).2 (esl.getD k "") ((show ∀ k, k < 7 → esl.getD k "" ∈ esl by decide +kernel) k hk)))),
    He.glo_ok X G (c.fact 0 (f := .glo "CupLadderError") rfl),
    He.glo_ok X G (c.fact 7 (f := .glo "Incomparable") rfl),
    He.glo_ok X G (c.fact 6 (f := .glo "InvalidCup") rfl),
    He.glo_ok X G (c.fact 1 (f := .glo "InvalidCups") rfl),
    He.glo_ok X G (c.fact 4 (f := .glo "InvalidEvents") rfl),
    He.glo_ok X G (c.fact 5 (f := .glo "InvalidMember") rfl),
    He.glo_ok X G (c.fact 2 (f := .glo "InvalidState") rfl),
    He.glo_ok X G (c.fact 3 (f := .glo "InvalidStep") rfl)⟩
  have e := hfa.symm.trans (He.glo_ok X G (c.fact 28 (f := .glo "law") rfl))
  cases e
  have bL := FunD.bindsA (ps := ["_law_script"]) FD9 fun _ _ _ _ _ _ us hl => match us, hl with | [_], _ => rfl
  refine ⟨csK K, fd9, fun s v => bL s [v] rfl, fun base _ _ hTB => ?_⟩
  have ok_law_mixed : R.FnOk P w K mg base CX0 1 _ fd3 P_law_mixed (spR K 2 (F_law_mixed (csK K)).io) := fn_R FD3 sc_law_mixed rfl (b_law_mixed  T) (fun ss Q _ q => wp_law_mixed (csK K) ss Q q)
  have h_law_mixed : CalR P w K mg base "_law_mixed" 2 (F_law_mixed (csK K)) [] 1 := by
      exact ⟨_, fd3, P_law_mixed, [], [], ok_law_mixed, He.glo_ok X G (c.fact 21 (f := .glo "_law_mixed") rfl), FD3.kp, (FunD.bindsN (ps := P_law_mixed) FD3 fun _ _ _ _ _ _ us hl => match us, hl with | [_, _], _ => rfl), .nil, fun _ => .nil⟩
  have ok_law_cell_at : R.FnOk P w K mg base CX0 1 _ fd2 P_law_cell_at (spR K 2 (F_law_cell_at (csK K)).io) := fn_R FD2 sc_law_cell_at rfl (b_law_cell_at  T) (fun ss Q _ q => wp_law_cell_at (csK K) ss Q q)
  have h_law_cell_at : CalR P w K mg base "_law_cell_at" 2 (F_law_cell_at (csK K)) [] 1 := by
      exact ⟨_, fd2, P_law_cell_at, [], [], ok_law_cell_at, He.glo_ok X G (c.fact 22 (f := .glo "_law_cell_at") rfl), FD2.kp, (FunD.bindsN (ps := P_law_cell_at) FD2 fun _ _ _ _ _ _ us hl => match us, hl with | [_, _], _ => rfl), .nil, fun _ => .nil⟩
  have ok_law_source : R.FnOk P w K mg base CX0 2 _ fd4 P_law_source (spR K 2 (F_law_source (csK K)).io) := fn_R FD4 sc_law_source rfl (b_law_source h_law_mixed h_law_cell_at T) (fun ss Q _ q => wp_law_source (csK K) ss Q q)
  have h_law_source : CalR P w K mg base "_law_source" 2 (F_law_source (csK K)) [] 2 := by
      exact ⟨_, fd4, P_law_source, [], [], ok_law_source, He.glo_ok X G (c.fact 23 (f := .glo "_law_source") rfl), FD4.kp, (FunD.bindsN (ps := P_law_source) FD4 fun _ _ _ _ _ _ us hl => match us, hl with | [_, _], _ => rfl), .nil, fun _ => .nil⟩
  have ok_law_draw : R.FnOk P w K mg base CX0 2 _ fd5 P_law_draw (spR K 2 (F_law_draw (csK K)).io) := fn_R FD5 sc_law_draw rfl (b_law_draw h_law_mixed T) (fun ss Q _ q => wp_law_draw (csK K) ss Q q)
  have h_law_draw : CalR P w K mg base "_law_draw" 2 (F_law_draw (csK K)) [] 2 := by
      exact ⟨_, fd5, P_law_draw, [], [], ok_law_draw, He.glo_ok X G (c.fact 24 (f := .glo "_law_draw") rfl), FD5.kp, (FunD.bindsN (ps := P_law_draw) FD5 fun _ _ _ _ _ _ us hl => match us, hl with | [_, _], _ => rfl), .nil, fun _ => .nil⟩
  have ok_law_pick : R.FnOk P w K mg base CX0 3 _ fd6 P_law_pick (spR K 2 (F_law_pick (csK K)).io) := fn_R FD6 sc_law_pick rfl (b_law_pick h_law_draw T) (fun ss Q _ q => wp_law_pick (csK K) ss Q q)
  have h_law_pick : CalR P w K mg base "_law_pick" 2 (F_law_pick (csK K)) [] 3 := by
      exact ⟨_, fd6, P_law_pick, [], [], ok_law_pick, He.glo_ok X G (c.fact 25 (f := .glo "_law_pick") rfl), FD6.kp, (FunD.bindsN (ps := P_law_pick) FD6 fun _ _ _ _ _ _ us hl => match us, hl with | [_, _], _ => rfl), .nil, fun _ => .nil⟩
  have h_InvalidCups_iniZ : IniZ P w K mg base "InvalidCups" (csK K).InvalidCups "part" 1 := by
      have ix := iniB_ok (exB_ox (He.ba cX.more).1 (p := ("InvalidCups", "part")) (by decide)).1
      have bb := R.kbindsZ (ps := P_InvalidCups_init) FD0 1 ["part"] (fun us ws => us ++ ws.reverse) (fun r1 r3 => r1.append (R.Vals.rev r3)) fun _ _ _ _ _ _ us ws hl hm => match us, hl, ws, hm with | [_], _, [_], _ => rfl
      exact ⟨He.glo_ok X G (c.fact 1 (f := .glo "InvalidCups") rfl), ix.1, ix.2.1, _, fd0, "self", _, ix.2.2.1, ix.2.2.2, fn_ini FD0 sc_InvalidCups_init (basB_ok (He.glo_ok X G (c.fact 0 (f := .glo "CupLadderError") rfl)) (exB_ox (He.ba cX.more).1 (p := ("InvalidCups", "part")) (by decide)).2) ix.1 ix.2.1 (.inl rfl) (.inl rfl) rfl (fun _ => rfl), bb⟩
  have h_InvalidCups_iniV : IniV P w K mg base "InvalidCups" (csK K).InvalidCups "part" 1 := by
      have ix := iniB_ok (exB_ox (He.ba cX.more).1 (p := ("InvalidCups", "part")) (by decide)).1
      exact ⟨He.glo_ok X G (c.fact 1 (f := .glo "InvalidCups") rfl), ix.1, ix.2.1, _, fd0, "self", ix.2.2.1, ix.2.2.2, fn_ini FD0 sc_InvalidCups_init (basB_ok (He.glo_ok X G (c.fact 0 (f := .glo "CupLadderError") rfl)) (exB_ox (He.ba cX.more).1 (p := ("InvalidCups", "part")) (by decide)).2) ix.1 ix.2.1 (.inl rfl) (.inl rfl) rfl (fun _ => rfl), (FunD.bindsN (ps := P_InvalidCups_init) FD0 fun _ _ _ _ _ _ us hl => match us, hl with | [_, _], _ => rfl)⟩
  have h_Incomparable_iniZ : IniZ P w K mg base "Incomparable" (csK K).Incomparable "what" 1 := by
      have ix := iniB_ok (exB_ox (He.ba cX.more).1 (p := ("Incomparable", "what")) (by decide)).1
      have bb := R.kbindsZ (ps := P_Incomparable_init) FD1 1 ["what"] (fun us ws => us ++ ws.reverse) (fun r1 r3 => r1.append (R.Vals.rev r3)) fun _ _ _ _ _ _ us ws hl hm => match us, hl, ws, hm with | [_], _, [_], _ => rfl
      exact ⟨He.glo_ok X G (c.fact 7 (f := .glo "Incomparable") rfl), ix.1, ix.2.1, _, fd1, "self", _, ix.2.2.1, ix.2.2.2, fn_ini FD1 sc_Incomparable_init (basB_ok (He.glo_ok X G (c.fact 0 (f := .glo "CupLadderError") rfl)) (exB_ox (He.ba cX.more).1 (p := ("Incomparable", "what")) (by decide)).2) ix.1 ix.2.1 (.inl rfl) (.inl rfl) rfl (fun _ => rfl), bb⟩
  have h_Incomparable_iniV : IniV P w K mg base "Incomparable" (csK K).Incomparable "what" 1 := by
      have ix := iniB_ok (exB_ox (He.ba cX.more).1 (p := ("Incomparable", "what")) (by decide)).1
      exact ⟨He.glo_ok X G (c.fact 7 (f := .glo "Incomparable") rfl), ix.1, ix.2.1, _, fd1, "self", ix.2.2.1, ix.2.2.2, fn_ini FD1 sc_Incomparable_init (basB_ok (He.glo_ok X G (c.fact 0 (f := .glo "CupLadderError") rfl)) (exB_ox (He.ba cX.more).1 (p := ("Incomparable", "what")) (by decide)).2) ix.1 ix.2.1 (.inl rfl) (.inl rfl) rfl (fun _ => rfl), (FunD.bindsN (ps := P_Incomparable_init) FD1 fun _ _ _ _ _ _ us hl => match us, hl with | [_, _], _ => rfl)⟩
  have ok_law_marks : R.FnOk P w K mg base CX0 1 _ fd7 P_law_marks (spR K 1 (F_law_marks (csK K)).io) := fn_R FD7 sc_law_marks rfl (b_law_marks  T) (fun ss Q _ q => wp_law_marks (csK K) ss Q q)
  have h_law_marks : CalR P w K mg base "_law_marks" 1 (F_law_marks (csK K)) [] 1 := by
      exact ⟨_, fd7, P_law_marks, [], [], ok_law_marks, He.glo_ok X G (c.fact 26 (f := .glo "_law_marks") rfl), FD7.kp, (FunD.bindsN (ps := P_law_marks) FD7 fun _ _ _ _ _ _ us hl => match us, hl with | [_], _ => rfl), .nil, fun _ => .nil⟩
  have ok_law_has_bases : R.FnOk P w K mg base CX0 1 _ fd8 P_law_has_bases (spR K 1 (F_law_has_bases (csK K)).io) := fn_R FD8 sc_law_has_bases rfl (b_law_has_bases  T) (fun ss Q _ q => wp_law_has_bases (csK K) ss Q q)
  have h_law_has_bases : CalR P w K mg base "_law_has_bases" 1 (F_law_has_bases (csK K)) [] 1 := by
      exact ⟨_, fd8, P_law_has_bases, [], [], ok_law_has_bases, He.glo_ok X G (c.fact 27 (f := .glo "_law_has_bases") rfl), FD8.kp, (FunD.bindsN (ps := P_law_has_bases) FD8 fun _ _ _ _ _ _ us hl => match us, hl with | [_], _ => rfl), .nil, fun _ => .nil⟩
  have ok_law : R.FnOk P w K mg base CX0 4 _ fd9 P_law (spR K 1 (F_law (csK K)).io) := fn_R FD9 sc_law rfl (b_law h_law_source h_law_draw h_law_pick h_InvalidCups_iniZ h_InvalidCups_iniV h_Incomparable_iniZ h_Incomparable_iniV h_law_marks h_law_has_bases T) (fun ss Q _ q => wp_law (csK K) ss Q q)
  exact ok_law
end Cl
open PySem PySem.W PySem.Calls PyProof.Rows
theorem PySem.Challenge.cw_cupladder_k64_error_classes_holds : PySem.Challenge.rw_cupladder_k64_error_classes.Holds := by
  w_on; o_law
  refine HandSHeadRun.head_any (r := OpenLaw.row PySem.Challenge.rw_cupladder_k64_error_classes) (q := view (OpenLaw.row PySem.Challenge.rw_cupladder_k64_error_classes).prog [17]) (H := Cl.hk) (ob := Cl.ob) (M := 9000) (loose := Cl.names) (d := HandSHeadRun.topDef (OpenLaw.row PySem.Challenge.rw_cupladder_k64_error_classes).prog 17) (kwd := []) Cl.ob_eq
    (by kernel_rfl) (fun s => by kernel_rfl) Cl.run (by kernel_rfl) (by kernel_rfl) (by kernel_rfl) (by rfl) (by first | assumption | decide +kernel) (by decide +kernel) ⟨rfl, rfl, rfl, rfl, rfl, by decide +kernel⟩ ?hw ?hc
  case hw => w_witness2
  case hc =>
    refine R.walk_ofG (l := PySem.Challenge.rw_cupladder_k64_error_classes) (n := 63) (k := 4) (x := "_law_script") (CX := fun _ => L2.CX0) rfl (by decide) (by kernel_rfl) ⟨⟨rfl, by decide, by decide⟩, rfl⟩ ?F (fun _ _ _ _ _ z => z)
    intro w mg fa h Y G hmg0
    obtain ⟨K, KX, cX⟩ := Y
    have hmg : mg ("law" : PySem.Str) = some (.ref fa) := by
      have e : (HandSHeadRun.topDef (OpenLaw.row PySem.Challenge.rw_cupladder_k64_error_classes).prog 17).name = ("law" : PySem.Str) := by kernel_rfl
      rw [← e]
      exact hmg0
    obtain ⟨cs, fd, hb, hF⟩ := Cl.facts (P := (PySem.Challenge.rw_cupladder_k64_error_classes).prog) (w := w) KX G hmg cX
    exact ⟨K, fd, R.spR K 1 (Cl.F_law cs).io, Cl.tf.map (He.cT K), KX, fun b => R.tabs_at KX cX b, hb, fun H a ns hl hO hS => R.sp_end (fun P q e => by obtain ⟨p, hp, rfl⟩ := R.exB_tab (He.ba cX.more).1 e; exact hO p hp) hS fun Q q => ⟨ns, rfl, hl, q⟩, hF⟩


import PyProof.Rows.All
import Wide.All
import OpenK.AllK
import Wide.FinOn
import PySem.Challenge.RW_cupladder_k03_single_steps
import KE.KStateDown
import Lean
import HandS.ForMost
import HandS.WordsExc
import HandS.Defaults
import HandS.IsInst
import HandS.Wide
import HandS.DictTup
import HandS.Zip
import HandS.Set
import HandS.Strs
import HandS.OwnEq
import HandS.MakeKw
import HandS.Flow
import HandS.Flt
import HandS.Conv
import HandS.MakeKwOnly
import HandS.WordsDict
import KE.KTupSum
import HandS.Head0
import HandS.Head1
import HandS.Head2
import HandS.HeadEnd
import HandS.HeadHook1
import HandS.HeadHook2
import HandS.Style
import HandS.RaiseMore
import HandS.Iter
import KE.GoesEnum
set_option Elab.async false
set_option linter.all false
set_option maxRecDepth 100000
set_option maxHeartbeats 4000000
/-! ## R: values as trees, slots, the readings of Python's constructs over them (no heap here) -/
namespace R
open PySem
/-- a value whose objects never change -/
inductive D where
  | non | bl (b : Bool) | int (i : Int) | str (s : Str)
  | lst (xs : List D) | tup (xs : List D)
  /-- a list that is read alone (the script) -/
  | rol (xs : List D)
  /-- an instance: its class, the names and values of its fields -/
  | ins (C : Nat) (ks : List Str) (vs : List D)
  /-- an object that may change under its invariant (kind, parameters) -/
  | vol (k : Nat) (ps : List D)
  /-- a value that nothing is known of -/
  | any
/-- a value of objects that are held alone -/
inductive OT where
  | leaf (d : D) | lst (ts : List OT) | tup (ts : List OT) | ins (C : Nat) (ks : List Str) (ts : List OT) | d0
/-- what an expression gives: frozen, new, borrowed (transient), borrowed from outside -/
inductive Rs where
  | fz (d : D) | nw (t : OT) | br (t : OT) | ex (t : OT)
abbrev Env := List (Option Rs)
abbrev DE := Env → (Rs → Prop) → Prop
abbrev DT := Env → (Bool → Prop) → Prop
abbrev DA := Env → (List Rs → Prop) → Prop
structure DK where
  nx : Env → Prop
  rt : Rs → Env → Prop
  bk : Env → Prop := fun _ => False
  ct : Env → Prop := fun _ => False
abbrev DS := Env → DK → Prop
abbrev DI := Env → (Bool → List Rs → Prop) → Prop
/-- a def: its arguments' slots; what it gives, and the slots behind -/
abbrev Spec := Env → (Rs → Env → Prop) → Prop

/-! ### trees -/
mutual
/-- frozen: f tells what the empty dicts become -/
inductive Fz : OT → D → Prop where
  | leaf (d : D) : Fz (.leaf d) d
  | lst {ts : List OT} {ds : List D} : FzAll ts ds → Fz (.lst ts) (.lst ds)
  | tup {ts : List OT} {ds : List D} : FzAll ts ds → Fz (.tup ts) (.tup ds)
  | ins {C : Nat} {ks : List Str} {ts : List OT} {ds : List D} : FzAll ts ds → Fz (.ins C ks ts) (.ins C ks ds)
  | d0 (k : Nat) (ps : List D) : Fz .d0 (.vol (k + 1) ps)
inductive FzAll : List OT → List D → Prop where
  | nil : FzAll [] []
  | cons {t : OT} {d : D} {ts : List OT} {ds : List D} : Fz t d → FzAll ts ds → FzAll (t :: ts) (d :: ds)
end
theorem FzAll.leafs : ∀ ds : List D, FzAll (ds.map OT.leaf) ds
  | [] => .nil
  | d :: ds => .cons (.leaf d) (FzAll.leafs ds)
/-- the items of a list, of a list or tuple -/
def OT.kidsL : OT → Option (List OT)
  | .leaf (.lst ds) => some (ds.map .leaf)
  | .lst ts => some ts
  | _ => none
def OT.kids : OT → Option (List OT)
  | .leaf (.lst ds) => some (ds.map .leaf)
  | .leaf (.tup ds) => some (ds.map .leaf)
  | .leaf (.rol ds) => some (ds.map .leaf)
  | .lst ts => some ts
  | .tup ts => some ts
  | _ => none
def OT.isLeaf : OT → Option D
  | .leaf d => some d
  | _ => none
/-- all frozen -/
def leaves : List OT → Option (List D)
  | [] => some []
  | .leaf d :: r => (leaves r).map (d :: ·)
  | _ :: _ => none
theorem leaves_map : ∀ ds : List D, leaves (ds.map OT.leaf) = some ds
  | [] => rfl
  | d :: r => by
    show (leaves (r.map OT.leaf)).map (d :: ·) = _
    rw [leaves_map r] <;> rfl
theorem leaves_eq : ∀ {ts : List OT} {ds : List D}, leaves ts = some ds → ts = ds.map OT.leaf
  | [], ds, h => by cases h <;> rfl
  | .leaf d :: r, ds, h => by
    cases q : leaves r with
    | none => rw [leaves, q] at h; cases h
    | some es =>
      rw [leaves, q] at h
      cases h
      rw [leaves_eq q] <;> rfl
  | .lst _ :: _, _, h => by cases h
  | .tup _ :: _, _, h => by cases h
  | .ins _ _ _ :: _, _, h => by cases h
  | .d0 :: _, _, h => by cases h
def Rs.t : Rs → OT
  | .fz d => .leaf d
  | .nw t => t
  | .br t => t
  | .ex t => t
def brOf : OT → Rs
  | .leaf d => .fz d
  | t => .br t
def exOf : OT → Rs
  | .leaf d => .fz d
  | t => .ex t
def nwOf : OT → Rs
  | .leaf d => .fz d
  | t => .nw t
/-- as an argument of a call that changes none of them -/
def Rs.arg : Rs → Rs
  | .fz d => .fz d
  | .nw t => .ex t
  | .br t => .ex t
  | .ex t => .ex t
/-- a slot's value as an expression -/
def Rs.rd : Rs → Rs
  | .fz d => .fz d
  | .nw t => .br t
  | .br t => .br t
  | .ex t => .ex t
/-- an item of it -/
def Rs.kid (r : Rs) (t : OT) : Rs := match r with
  | .ex _ => exOf t
  | _ => brOf t
/-- what may be held behind a statement, given back by a def -/
def Rs.own : Rs → Prop
  | .fz _ => True
  | .nw _ => True
  | _ => False
def Rs.slot : Rs → Prop
  | .br _ => False
  | _ => True
/-- what becomes an item of a new object -/
def Rs.item : Rs → Option OT
  | .fz d => some (.leaf d)
  | .nw t => some t
  | _ => none
def items : List Rs → Option (List OT)
  | [] => some []
  | r :: rs => r.item.bind fun t => (items rs).map (t :: ·)
/-- the items as frozen values -/
def Rs.els (r : Rs) (isL : Bool) : Option (List D) := match r with
  | .fz (.lst ds) => if isL then some ds else none
  | .fz (.tup ds) => if isL then none else some ds
  | .br (.lst ts) => if isL then leaves ts else none
  | .ex (.lst ts) => if isL then leaves ts else none
  | .br (.tup ts) => if isL then none else leaves ts
  | .ex (.tup ts) => if isL then none else leaves ts
  | _ => none
mutual
def OT.fzd : OT → Option D
  | .leaf d => some d
  | .lst ts => (fzdAll ts).map .lst
  | .tup ts => (fzdAll ts).map .tup
  | .ins C ks ts => (fzdAll ts).map (.ins C ks)
  | .d0 => none
def fzdAll : List OT → Option (List D)
  | [] => some []
  | t :: ts => t.fzd.bind fun d => (fzdAll ts).map (d :: ·)
end
mutual
theorem Fz.of : ∀ {t : OT} {d : D}, t.fzd = some d → Fz t d
  | .leaf d, e, h => by
    have h : some d = some e := h
    cases h
    exact .leaf d
  | .lst ts, e, h => by
    have h : (fzdAll ts).map .lst = some e := by rw [OT.fzd] at h; exact h
    cases q : fzdAll ts with
    | none => rw [q] at h; cases h
    | some ds => rw [q] at h; cases h; exact .lst (FzAll.of q)
  | .tup ts, e, h => by
    have h : (fzdAll ts).map .tup = some e := by rw [OT.fzd] at h; exact h
    cases q : fzdAll ts with
    | none => rw [q] at h; cases h
    | some ds => rw [q] at h; cases h; exact .tup (FzAll.of q)
  | .ins C ks ts, e, h => by
    have h : (fzdAll ts).map (.ins C ks) = some e := by rw [OT.fzd] at h; exact h
    cases q : fzdAll ts with
    | none => rw [q] at h; cases h
    | some ds => rw [q] at h; cases h; exact .ins (FzAll.of q)
  | .d0, _, h => by rw [OT.fzd] at h; cases h
theorem FzAll.of : ∀ {ts : List OT} {ds : List D}, fzdAll ts = some ds → FzAll ts ds
  | [], _, h => by rw [fzdAll] at h; cases h; exact .nil
  | t :: ts, e, h => by
    rw [fzdAll] at h
    cases q : t.fzd with
    | none => rw [q] at h; cases h
    | some d =>
      rw [q] at h
      cases q2 : fzdAll ts with
      | none => rw [q2] at h; cases h
      | some ds => rw [q2] at h; cases h; exact .cons (Fz.of q) (FzAll.of q2)
end
theorem fzdAll_map : ∀ ds : List D, fzdAll (ds.map OT.leaf) = some ds
  | [] => by rw [List.map_nil, fzdAll]
  | d :: ds => by rw [List.map_cons, fzdAll, fzdAll_map ds, OT.fzd] <;> rfl
theorem fzd_lst (ds : List D) : (OT.lst (ds.map .leaf)).fzd = some (.lst ds) := by rw [OT.fzd, fzdAll_map] <;> rfl
theorem fzd_tup (ds : List D) : (OT.tup (ds.map .leaf)).fzd = some (.tup ds) := by rw [OT.fzd, fzdAll_map] <;> rfl
/-- an operand: what is new is frozen -/
def Rs.ffz : Rs → Rs
  | .nw t => match t.fzd with
    | some d => .fz d
    | none => .nw t
  | r => r
/-! ### places in lists -/
def ixN' (n : Nat) (i : Int) : Option Nat := if 0 ≤ i then (if i < n then some i.toNat else none) else if -(n : Int) ≤ i then some (i + n).toNat else none
def at' {α : Type} (xs : List α) (i : Int) : Option α := (ixN' xs.length i).bind fun j => xs[j]?
theorem at_nat {α : Type} {xs : List α} {j : Nat} {v : α} (h : xs[j]? = some v) : at' xs (j : Int) = some v := by
  have hj : j < xs.length := (List.getElem?_eq_some_iff.mp h).1
  unfold at' ixN'
  rw [if_pos (by omega), if_pos (by omega)]
  simpa using h
theorem at_map {α β : Type} (f : α → β) (xs : List α) (i : Int) : at' (xs.map f) i = (at' xs i).map f := by
  unfold at'
  rw [List.length_map]
  cases ixN' xs.length i with
  | none => rfl
  | some j => simp
end R
namespace R
open PySem
/-! ### readings of expressions -/
def mVar (i : Nat) : DE := fun env Q => ∃ r, env[i]? = some (some r) ∧ Q r.rd
def mC (d : D) : DE := fun _ Q => Q (.fz d)
/-- two ints -/
def i2 (C : Int → Int → Prop) (g : Int → Int → D) : Rs → Rs → (Rs → Prop) → Prop
  | .fz (.int i), .fz (.int j), Q => C i j ∧ Q (.fz (g i j))
  | _, _, _ => False
def mOp (R : Rs → Rs → (Rs → Prop) → Prop) (a b : DE) : DE := fun env Q => a env fun x => b env fun y => R x.ffz y.ffz Q
def mUn (R : Rs → (Rs → Prop) → Prop) (a : DE) : DE := fun env Q => a env fun x => R x.ffz Q
def oSub := i2 (fun _ _ => True) fun i j => .int (i - j)
def oMod := i2 (fun _ j => 0 < j) fun i j => .int (i % j)
def oDiv := i2 (fun _ j => 0 < j ∧ j.natAbs.log2 < 9000) fun i j => .int (i / j)
def oPow := i2 (fun i j => 0 ≤ j ∧ j ≤ 1000000 ∧ i.natAbs < 2 ^ 64) fun i j => .int (i ^ j.toNat)
def oLt := i2 (fun _ _ => True) fun i j => .bl (decide (i < j))
def oLe := i2 (fun _ _ => True) fun i j => .bl (decide (i ≤ j))
def oGt := i2 (fun _ _ => True) fun i j => .bl (decide (j < i))
def oGe := i2 (fun _ _ => True) fun i j => .bl (decide (j ≤ i))
def sizeL : Nat := 16777216
/-- + : ints, texts, lists, tuples -/
def oAdd : Rs → Rs → (Rs → Prop) → Prop
  | .fz (.int i), .fz (.int j), Q => Q (.fz (.int (i + j)))
  | .fz (.str i), .fz (.str j), Q => i.length + j.length ≤ sizeL ∧ Q (.fz (.str (i ++ j)))
  | x, y, Q => (∃ ds es, x.els true = some ds ∧ y.els true = some es ∧ ds.length + es.length ≤ sizeL ∧ Q (.nw (.lst ((ds ++ es).map .leaf)))) ∨
    ∃ ds es, x.els false = some ds ∧ y.els false = some es ∧ ds ≠ [] ∧ es ≠ [] ∧ ds.length + es.length ≤ sizeL ∧ Q (.nw (.tup ((ds ++ es).map .leaf)))
/-- * : ints, a list by an int -/
def oMul : Rs → Rs → (Rs → Prop) → Prop
  | .fz (.int i), .fz (.int j), Q => ((-(2 ^ 64) < i ∧ i < 2 ^ 64) ∨ (-(2 ^ 64) < j ∧ j < 2 ^ 64)) ∧ Q (.fz (.int (i * j)))
  | x, .fz (.int k), Q => ∃ ds, x.els true = some ds ∧ -(2 ^ 63) ≤ k ∧ k < 2 ^ 63 ∧ ds.length * k.toNat ≤ sizeL ∧ Q (.nw (.lst ((List.replicate k.toNat ds).flatten.map .leaf)))
  | _, _, _ => False
def oNeg : Rs → (Rs → Prop) → Prop
  | .fz (.int i), Q => Q (.fz (.int (-i)))
  | _, _ => False
/-! tests -/
def mT (a : DE) : DT := fun env Q => a env fun
  | .fz (.bl b) => Q b
  | _ => False
def mAnd (t u : DT) : DT := fun env Q => t env fun c => if c = true then u env Q else Q false
def mOr (t u : DT) : DT := fun env Q => t env fun c => if c = true then Q true else u env Q
def mNot (t : DT) : DT := fun env Q => t env fun c => Q (!c)
def mAndV (a b : DE) : DE := fun env Q => a env fun
  | .fz (.bl c) => if c = true then b env Q else Q (.fz (.bl false))
  | _ => False
def mOrV (a b : DE) : DE := fun env Q => a env fun
  | .fz (.bl c) => if c = true then Q (.fz (.bl true)) else b env Q
  | _ => False
def mNotV (a : DE) : DE := fun env Q => a env fun
  | .fz (.bl c) => Q (.fz (.bl (!c)))
  | _ => False
def mIf (t : DT) (a b : DE) : DE := fun env Q => t env fun c => if c = true then a env Q else b env Q
/-- a < b < c -/
def mChain (R R' : Rs → Rs → (Rs → Prop) → Prop) (a b c : DE) : DE := fun env Q => a env fun x => b env fun y => R x.ffz y.ffz fun
  | .fz (.bl k) => if k = true then c env fun z => R' y.ffz z.ffz Q else Q (.fz (.bl false))
  | _ => False
/-- is None, is not None -/
def Rs.isNon (r : Rs) : Bool := match r.t with
  | .leaf .non => true
  | _ => false
def oIsN (neg : Bool) (r : Rs) (Q : Rs → Prop) : Prop := Q (.fz (.bl (r.isNon != neg)))
/-! argument lists, displays -/
def mNil : DA := fun _ Q => Q []
def mCons (a : DE) (r : DA) : DA := fun env Q => a env fun x => r env fun xs => Q (x :: xs)
def mLst (a : DA) : DE := fun env Q => a env fun rs => ∃ ts, items rs = some ts ∧ ts.length ≤ sizeL ∧ Q (.nw (.lst ts))
def mTup (a : DA) : DE := fun env Q => a env fun rs => ∃ ts, items rs = some ts ∧ ts.length ≤ sizeL ∧ Q (.nw (.tup ts))
/-- new, then frozen -/
def mFz (a : DE) : DE := fun env Q => a env fun
  | .fz d => Q (.fz d)
  | .nw t => ∃ d, Fz t d ∧ Q (.fz d)
  | _ => False
/-! an item -/
def oIx : Rs → Rs → (Rs → Prop) → Prop
  | .fz (.lst ds), .fz (.int i), Q => ∃ d, at' ds i = some d ∧ Q (.fz d)
  | .fz (.tup ds), .fz (.int i), Q => ∃ d, at' ds i = some d ∧ Q (.fz d)
  | .fz (.rol ds), .fz (.int i), Q => ∃ d, at' ds i = some d ∧ Q (.fz d)
  | .fz (.str z), .fz (.int i), Q => z.length ≤ sizeL ∧ ∃ c, at' z.cps.toList i = some c ∧ Q (.fz (.str ⟨#[c]⟩))
  | .fz (.vol 0 _), .fz (.int i), Q => 0 ≤ i ∧ i < 3 ∧ ∀ x, Q (.fz (.int x))
  | r, .fz (.int i), Q => ∃ ts t, r.t.kids = some ts ∧ at' ts i = some t ∧ Q (r.kid t)
  | _, _, _ => False
end R
namespace R
open PySem
/-! slices -/
abbrev DO := Env → (Option Int → Prop) → Prop
def mNoP : DO := fun _ Q => Q none
def mPart (a : DE) : DO := fun env Q => a env fun
  | .fz (.int i) => Q (some i)
  | _ => False
def sIx' (n d : Nat) : Option Int → Nat
  | none => d
  | some v => if v < 0 then (v + (n : Int)).toNat else min v.toNat n
def cut' {α : Type} (xs : List α) (lo hi : Option Int) : List α := (xs.drop (sIx' xs.length 0 lo)).take (sIx' xs.length xs.length hi - sIx' xs.length 0 lo)
def oSl (r : Rs) (lo hi : Option Int) (Q : Rs → Prop) : Prop := match r with
  | .fz (.tup ds) => (cut' ds lo hi).length < ds.length ∧ Q (.fz (.tup (cut' ds lo hi)))
  | r => ∃ ds, r.els true = some ds ∧ Q (.nw (.lst ((cut' ds lo hi).map .leaf)))
def mSl (a : DE) (lo hi : DO) : DE := fun env Q => a env fun x => lo env fun l => hi env fun h => oSl x.ffz l h Q
/-! built-ins by their arguments -/
def mB (R : List Rs → (Rs → Prop) → Prop) (a : DA) : DE := fun env Q => a env fun xs => R (xs.map Rs.ffz) Q
def oLen : List Rs → (Rs → Prop) → Prop
  | [.fz (.str z)], Q => z.length ≤ sizeL ∧ Q (.fz (.int z.length))
  | [r], Q => ∃ ts, r.t.kids = some ts ∧ Q (.fz (.int ts.length))
  | _, _ => False
def oInt1 : List Rs → (Rs → Prop) → Prop
  | [.fz (.int i)], Q => Q (.fz (.int i))
  | [.fz (.bl b)], Q => Q (.fz (.int (if b then 1 else 0)))
  | _, _ => False
def oMin2 : List Rs → (Rs → Prop) → Prop
  | [.fz (.int i), .fz (.int j)], Q => Q (.fz (.int (min i j)))
  | _, _ => False
def oMin3 : List Rs → (Rs → Prop) → Prop
  | [.fz (.int i), .fz (.int j), .fz (.int k)], Q => Q (.fz (.int (min (min i j) k)))
  | _, _ => False
def oMax2 : List Rs → (Rs → Prop) → Prop
  | [.fz (.int i), .fz (.int j)], Q => Q (.fz (.int (max i j)))
  | _, _ => False
/-- a list of ints, of bools, of texts -/
def D.int? : D → Option Int
  | .int i => some i
  | _ => none
def D.bl? : D → Option Bool
  | .bl i => some i
  | _ => none
def D.str? : D → Option Str
  | .str i => some i
  | _ => none
def allOf {α : Type} (f : D → Option α) : List D → Option (List α)
  | [] => some []
  | d :: ds => (f d).bind fun x => (allOf f ds).map (x :: ·)
theorem allOf_map {α : Type} {f : D → Option α} {g : α → D} (h : ∀ x, f (g x) = some x) : ∀ xs : List α, allOf f (xs.map g) = some xs
  | [] => rfl
  | x :: xs => by
    rw [List.map_cons, allOf, h, allOf_map h xs] <;> rfl
theorem ints_of (xs : List Int) : allOf D.int? (xs.map D.int) = some xs := allOf_map (f := D.int?) (g := D.int) (fun _ => rfl) xs
theorem bls_of (xs : List Bool) : allOf D.bl? (xs.map D.bl) = some xs := allOf_map (f := D.bl?) (g := D.bl) (fun _ => rfl) xs
theorem strs_of (xs : List Str) : allOf D.str? (xs.map D.str) = some xs := allOf_map (f := D.str?) (g := D.str) (fun _ => rfl) xs
theorem int?_inv {d : D} {x : Int} (h : d.int? = some x) : d = .int x := by cases d <;> cases h <;> rfl
theorem bl?_inv {d : D} {x : Bool} (h : d.bl? = some x) : d = .bl x := by cases d <;> cases h <;> rfl
theorem str?_inv {d : D} {x : Str} (h : d.str? = some x) : d = .str x := by cases d <;> cases h <;> rfl
theorem allOf_inv {α : Type} {f : D → Option α} {g : α → D} (h : ∀ {d x}, f d = some x → d = g x) : ∀ {ds : List D} {xs : List α}, allOf f ds = some xs → ds = xs.map g
  | [], xs, e => by cases e <;> rfl
  | d :: ds, xs, e => by
    rw [allOf] at e
    cases q : f d with
    | none => rw [q] at e; cases e
    | some x =>
      rw [q] at e
      cases q2 : allOf f ds with
      | none => rw [q2] at e; cases e
      | some ys =>
        rw [q2] at e
        cases e
        rw [h q, allOf_inv h q2] <;> rfl
def oSum : List Rs → (Rs → Prop) → Prop
  | [.fz (.tup ds)], Q => ∃ ns, allOf D.int? ds = some ns ∧ Q (.fz (.int ns.sum))
  | [r], Q => ∃ ds ns, r.els true = some ds ∧ allOf D.int? ds = some ns ∧ Q (.fz (.int ns.sum))
  | _, _ => False
def oAll : List Rs → (Rs → Prop) → Prop
  | [r], Q => ∃ ds bs, r.els true = some ds ∧ allOf D.bl? ds = some bs ∧ Q (.fz (.bl (bs.all id)))
  | _, _ => False
def oMaxL : List Rs → (Rs → Prop) → Prop
  | [r], Q => ∃ ds ns, r.els true = some ds ∧ allOf D.int? ds = some ns ∧ ns ≠ [] ∧ ∀ m, m ∈ ns → (∀ y, y ∈ ns → y ≤ m) → Q (.fz (.int m))
  | _, _ => False
def oMinL : List Rs → (Rs → Prop) → Prop
  | [r], Q => ∃ ds ns, r.els true = some ds ∧ allOf D.int? ds = some ns ∧ ns ≠ [] ∧ ∀ m, m ∈ ns → (∀ y, y ∈ ns → m ≤ y) → Q (.fz (.int m))
  | _, _ => False
/-- list(..), tuple(..) of a list or tuple -/
def oList : List Rs → (Rs → Prop) → Prop
  | [.fz (.lst ds)], Q => Q (.nw (.lst (ds.map .leaf)))
  | [.fz (.tup ds)], Q => Q (.nw (.lst (ds.map .leaf)))
  | [r], Q => ∃ ds, r.els true = some ds ∧ Q (.nw (.lst (ds.map .leaf)))
  | _, _ => False
def oTuple : List Rs → (Rs → Prop) → Prop
  | [.fz (.tup ds)], Q => Q (.fz (.tup ds))
  | [r], Q => ∃ ds, r.els true = some ds ∧ Q (.fz (.tup ds))
  | _, _ => False
end R
namespace R
open PySem
/-! ### readings of statements -/
def mSeq (a b : DS) : DS := fun env D => a env { D with nx := fun e => b e D }
def mNext : DS := fun env D => D.nx env
def mAsg (i : Nat) (a : DE) : DS := fun env D => a env fun r => r.slot ∧ D.nx (env.set i (some r))
def mIfS (t : DT) (a b : DS) : DS := fun env D => t env fun c => if c = true then a env D else b env D
def mRet (a : DE) : DS := fun env D => a env fun r => r.own ∧ D.rt r env
def mRetN : DS := fun env D => D.rt (.fz .non) env
def mDrop (a : DE) : DS := fun env D => a env fun _ => D.nx env
def mBreak : DS := fun env D => D.bk env
def mCont : DS := fun env D => D.ct env
def mNever : DS := fun _ _ => False
/-- a slot is frozen from here on -/
def mFzS (i : Nat) (a : DS) : DS := fun env D => ∃ t d, env[i]? = some (some (.nw t)) ∧ Fz t d ∧ a (env.set i (some (.fz d))) D
/-- x op= e -/
def mAug (i : Nat) (R : Rs → Rs → (Rs → Prop) → Prop) (a : DE) : DS := fun env D => ∃ x, env[i]? = some (some (.fz x)) ∧ a env fun y => R (.fz x) y.ffz fun r => r.slot ∧ D.nx (env.set i (some r))
/-- while: Wm by a measure -/
def mWhile (t : DT) (a : DS) : DS := fun env D => ∃ Wm : Nat → Env → Prop, (∃ m, Wm m env) ∧ ∀ m e, Wm m e → t e fun c =>
  if c = true then a e { D with nx := fun e' => ∃ m', m' < m ∧ Wm m' e', ct := fun e' => ∃ m', m' < m ∧ Wm m' e', bk := D.nx } else D.nx e
/-- targets -/
abbrev DG := Env → Rs → (Env → Prop) → Prop
def gN (i : Nat) : DG := fun env r Q => r.slot ∧ Q (env.set i (some r))
def gsN : List DG → List Rs → Env → (Env → Prop) → Prop
  | [], [], env, Q => Q env
  | g :: gs, r :: rs, env, Q => g env r fun e => gsN gs rs e Q
  | _, _, _, _ => False
/-- the items of a tuple that is taken apart -/
def Rs.parts : Rs → Option (List Rs)
  | .fz (.tup ds) => some (ds.map .fz)
  | .nw (.tup ts) => some (ts.map nwOf)
  | .ex (.tup ts) => some (ts.map exOf)
  | _ => none
def gT (gs : List DG) : DG := fun env r Q => ∃ rs, r.parts = some rs ∧ rs.length = gs.length ∧ gsN gs rs env Q
def mAsgG (g : DG) (a : DE) : DS := fun env D => a env fun r => g env r D.nx
/-- it stays whatever the walk's body changes -/
def Rs.stays : Rs → Bool
  | .fz _ => true
  | .ex _ => true
  | _ => false
/-- what is walked -/
def mItL (a : DE) : DI := fun env Q => a env fun r => ∃ ts, r.ffz.t.kids = some ts ∧ Q r.ffz.stays (ts.map (Rs.kid r.ffz))
def rng (lo : Int) (n : Nat) : List Rs := (List.range n).map fun (i : Nat) => Rs.fz (.int (lo + (i : Int)))
def mItR1 (a : DE) : DI := fun env Q => a env fun
  | .fz (.int n) => -(2 ^ 62) ≤ n ∧ n < 2 ^ 62 ∧ Q true (rng 0 n.toNat)
  | _ => False
def mItR2 (a b : DE) : DI := fun env Q => a env fun x => b env fun y => match x, y with
  | .fz (.int i), .fz (.int j) => -(2 ^ 62) ≤ i ∧ i < 2 ^ 62 ∧ -(2 ^ 62) ≤ j ∧ j < 2 ^ 62 ∧ Q true (rng i (j - i).toNat)
  | _, _ => False
/-- for: Pv by the turn; the items frozen, or lent from outside -/
def mFor (it : DI) (g : DG) (a : DS) : DS := fun env D => it env fun st xs => st = true ∧ ∃ Pv : Nat → Env → Prop, Pv 0 env ∧
  (∀ i r e, xs[i]? = some r → Pv i e → g e r fun e' => a e' { D with nx := Pv (i + 1), ct := Pv (i + 1), bk := D.nx }) ∧ ∀ e, Pv xs.length e → D.nx e
def Env.wipe (env : Env) : List Nat → Env
  | [] => env
  | i :: is => (Env.wipe env is).set i none
/-- the slots as a block reads them -/
def Env.lent (env : Env) : Env := env.map (Option.map Rs.arg)
def mYes : DT := fun _ Q => Q true
/-- [e for g in it if t], ws the block's own slots: Pv by the turn and what is made so far -/
def mLc (it : DI) (g : DG) (t : DT) (e : DE) (ws : List Nat) : DE := fun env Q => it env fun _ xs => ∃ Pv : Nat → List OT → Prop, Pv 0 [] ∧
  (∀ i r acc, xs[i]? = some r → Pv i acc → acc.length < sizeL ∧ g (Env.wipe (Env.lent env) ws) r.arg fun e1 => e1.length = env.length ∧ t e1 fun b => if b = true then e e1 fun y => ∃ ty, y.item = some ty ∧ Pv (i + 1) (acc ++ [ty]) else Pv (i + 1) acc) ∧
  ∀ acc, Pv xs.length acc → Q (.nw (.lst acc))
/-! ### calls -/
abbrev Spec1 := Env → (Rs → Prop) → Prop
/-- a def that changes no argument -/
def Spec1.io (F : Spec1) : Spec := fun ss Q => F ss fun r => Q r (ss.map fun _ => none)
def Rs.lend (r : Rs) : Rs := r.ffz.arg
def args (rs : List Rs) (dv : List D) : Env := rs.map (fun r => some r.lend) ++ dv.map fun d => some (.fz d)
def mCall (n : Nat) (F : Spec1) (a : DA) (dv : List D) : DE := fun env Q => a env fun rs => (args rs dv).length = n ∧ F (args rs dv) fun r => r.own ∧ Q r
/-- an instance: its class, its fields -/
def OT.inst : OT → Option (Nat × List Str × List OT)
  | .leaf (.ins C ks ds) => some (C, ks, ds.map .leaf)
  | .ins C ks ts => some (C, ks, ts)
  | _ => none
def mMeth (n : Nat) (C : Nat) (m : Str) (F : Spec1) (o : DE) (a : DA) (dv : List D) : DE := fun env Q => o env fun x => ∃ ks ts, x.ffz.t.inst = some (C, ks, ts) ∧ ks.contains m = false ∧ a env fun rs => (args rs dv).length + 1 = n ∧ F (some x.lend :: args rs dv) fun r => r.own ∧ Q r
/-- C(..): F is __init__'s -/
def mMake (n : Nat) (C : Nat) (F : Spec) (a : DA) (dv : List D) : DE := fun env Q => a env fun rs => (args rs dv).length + 1 = n ∧ F (some (.nw (.ins C [] [])) :: args rs dv) fun r ss => r = .fz .non ∧ ∃ t, ss.head? = some (some (.nw t)) ∧ Q (.nw t)
/-- o.f -/
def assoc (f : Str) : List Str → List OT → Option OT
  | k :: ks, t :: ts => if k = f then some t else assoc f ks ts
  | _, _ => none
def mFld (C : Nat) (f : Str) (o : DE) : DE := fun env Q => o env fun x => ∃ ks ts t, x.ffz.t.inst = some (C, ks, ts) ∧ assoc f ks ts = some t ∧ Q (x.ffz.kid t)
/-- the slots of the arguments behind a def; pr: those that are the caller's still -/
def outs (pr : List Nat) (n : Nat) (e : Env) : Env := (List.range n).map fun i => if i ∈ pr then (e[i]?).join else none
/-! ### places that are held alone, and what is done to them -/
/-- a place: a slot and a way into its tree -/
abbrev DP := Env → (Nat → List Nat → Prop) → Prop
def OT.kid? : OT → Nat → Option OT
  | .lst ts, j => ts[j]?
  | .tup ts, j => ts[j]?
  | .ins _ _ ts, j => ts[j]?
  | _, _ => none
def OT.set? : OT → Nat → OT → OT
  | .lst ts, j, c => .lst (ts.set j c)
  | .tup ts, j, c => .tup (ts.set j c)
  | .ins C ks ts, j, c => .ins C ks (ts.set j c)
  | t, _, _ => t
def OT.at? : OT → List Nat → Option OT
  | t, [] => some t
  | t, j :: js => (t.kid? j).bind fun c => c.at? js
def OT.put : OT → List Nat → OT → OT
  | _, [], s => s
  | t, j :: js, s => match t.kid? j with
    | some c => t.set? j (c.put js s)
    | none => t
/-- the tree at a place -/
def tree (env : Env) (i : Nat) (p : List Nat) : Option OT := match env[i]? with
  | some (some (.nw t)) => t.at? p
  | _ => none
def put (env : Env) (i : Nat) (p : List Nat) (s : OT) : Env := match env[i]? with
  | some (some (.nw t)) => env.set i (some (.nw (t.put p s)))
  | _ => env
def plN (i : Nat) : DP := fun env Q => (∃ t, env[i]? = some (some (.nw t))) ∧ Q i []
def idx (f : Str) : List Str → Option Nat
  | [] => none
  | k :: ks => if k = f then some 0 else (idx f ks).map (· + 1)
def plF (C : Nat) (f : Str) (a : DP) : DP := fun env Q => a env fun i p => ∃ ks ts j, tree env i p = some (.ins C ks ts) ∧ idx f ks = some j ∧ Q i (p ++ [j])
def plI (a : DP) (b : DE) : DP := fun env Q => a env fun i p => b env fun
  | .fz (.int k) => ∃ ts j, tree env i p = some (.lst ts) ∧ ixN' ts.length k = some j ∧ Q i (p ++ [j])
  | _ => False
/-- a.append(e) -/
def mAppend (a : DP) (e : DE) : DS := fun env D => a env fun i p => ∃ ts, tree env i p = some (.lst ts) ∧ ts.length < sizeL ∧ e env fun r => ∃ t, r.item = some t ∧ D.nx (put env i p (.lst (ts ++ [t])))
/-- a[k] = e -/
def mSetI (a : DP) (k e : DE) : DS := fun env D => e env fun r => a env fun i p => k env fun
  | .fz (.int n) => ∃ ts j t, r.item = some t ∧ tree env i p = some (.lst ts) ∧ ixN' ts.length n = some j ∧ D.nx (put env i p (.lst (ts.set j t)))
  | _ => False
/-- s[k] = e, s a draw's source -/
def mSetVol (s k e : DE) : DS := fun env D => e env fun
  | .fz (.int _) => s env fun
    | .fz (.vol 0 _) => k env fun
      | .fz (.int n) => 0 ≤ n ∧ n < 3 ∧ D.nx env
      | _ => False
    | _ => False
  | _ => False
/-- a new list of three ints becomes a draw's source -/
def mSrc (a : DE) : DE := fun env Q => a env fun
  | .nw (.lst [.leaf (.int _), .leaf (.int _), .leaf (.int _)]) => Q (.fz (.vol 0 []))
  | _ => False
/-- self.f = e, the object held alone in slot i -/
def putK (f : Str) (t : OT) : List Str → List OT → List Str × List OT
  | k :: ks, u :: us => if k = f then (k :: ks, t :: us) else ((k :: (putK f t ks us).1), (u :: (putK f t ks us).2))
  | _, _ => ([f], [t])
def mSetF (C : Nat) (f : Str) (i : Nat) (e : DE) : DS := fun env D => e env fun r => ∃ t ks ts, r.item = some t ∧ env[i]? = some (some (.nw (.ins C ks ts))) ∧ ks.length < 1000 ∧ D.nx (env.set i (some (.nw (.ins C (putK f t ks ts).1 (putK f t ks ts).2))))
/-- j = a.pop(k): what is taken out is given to slot j (frozen, or held alone) -/
def mPop (j : Nat) (a : DP) (k : DE) : DS := fun env D => a env fun i p => ∃ ts, tree env i p = some (.lst ts) ∧ k env fun
  | .fz (.int n) => ∃ m t, -(2 ^ 63) ≤ n ∧ n < 2 ^ 63 ∧ ixN' ts.length n = some m ∧ ts[m]? = some t ∧ D.nx ((put env i p (.lst (ts.eraseIdx m))).set j (some (nwOf t)))
  | _ => False
end R
namespace R
open PySem
/-! ### == -/
def D.pd : Nat → D → Option PyData
  | _, .non => some .none
  | _, .bl b => some (.bool b)
  | _, .int i => some (.int i)
  | _, .str x => if PyData.strOk x = true then some (.str x) else none
  | n + 1, .lst ds => (allOf (D.pd n) ds).map .list
  | n + 1, .tup ds => (allOf (D.pd n) ds).map .tuple
  | n + 1, .rol ds => (allOf (D.pd n) ds).map .list
  | _, _ => none
def allOfT {α : Type} (f : OT → Option α) : List OT → Option (List α)
  | [] => some []
  | t :: ts => (f t).bind fun x => (allOfT f ts).map (x :: ·)
def OT.pd : Nat → OT → Option PyData
  | n, .leaf d => d.pd n
  | n + 1, .lst ts => (allOfT (OT.pd n) ts).map .list
  | n + 1, .tup ts => (allOfT (OT.pd n) ts).map .tuple
  | _, _ => none
def oEq (neg : Bool) (x y : Rs) (Q : Rs → Prop) : Prop := ∃ p q, x.t.pd 8 = some p ∧ y.t.pd 8 = some q ∧ Q (.fz (.bl (PyData.eqv p q != neg)))
end R
/-! ## the plain law of blocks: what a block does to a queue's indices -/
namespace R
open PySem
def nI (n : Nat) : D := .int (n : Int)
def nL (ns : List Nat) : D := .lst (ns.map nI)
def nT (ns : List Nat) : D := .tup (ns.map nI)
def pk (l : List Nat) (i : Nat) : Nat := l.getD i 0
def fillN (e : Nat → Nat × List Nat) : Nat → List Nat × List Nat → List Nat × List Nat
  | 0, p => p
  | n + 1, p => fillN e n (p.1 ++ [pk p.2 (e p.2.length).1], (e p.2.length).2.map (pk p.2))
/-- the block for a cup, on a queue of some length: who enters, who remains -/
def ent (sz fw : List Nat) : Nat → Nat → Nat × List Nat
  | 0, len => (0, List.range' 1 (len - 1))
  | c + 1, len => (pk (fillN (ent sz fw c) (pk sz c) ([], List.range len)).1 (pk fw c), (fillN (ent sz fw c) (pk sz c) ([], List.range len)).2 ++ (fillN (ent sz fw c) (pk sz c) ([], List.range len)).1.eraseIdx (pk fw c))
def fil (sz fw : List Nat) (c len : Nat) : List Nat × List Nat := fillN (ent sz fw c) (pk sz c) ([], List.range len)
def entD (sz fw : List Nat) (c len : Nat) : D := .tup [nI (ent sz fw c len).1, nT (ent sz fw c len).2]
def entL (sz fw : List Nat) (c len : Nat) : D := .tup [nI (ent sz fw c len).1, nL (ent sz fw c len).2]
def natOf : D → Nat
  | .int i => i.toNat
  | _ => 0
def natsOf : D → List Nat
  | .tup ds => ds.map natOf
  | _ => []
theorem natsOf_nT (ns : List Nat) : natsOf (nT ns) = ns := by
  show (ns.map nI).map natOf = ns
  rw [List.map_map]
  have e : (natOf ∘ nI) = id := by
    funext n
    show (n : Int).toNat = n
    exact Int.toNat_natCast n
  rw [e, List.map_id]
/-- the memories: 0 the blocks -/
def memo : Nat → List D → List L2.Key → Option D
  | 0, [s, f], [.inl c, .inl n] => if 0 ≤ c ∧ c < 64 ∧ 0 ≤ n ∧ n < 64 then some (entD (natsOf s) (natsOf f) c.toNat n.toNat) else none
  | 2, [s, f], [.inl c, .inl n] => if 0 ≤ c ∧ c < 64 ∧ 0 ≤ n ∧ n < 64 then some (entL (natsOf s) (natsOf f) c.toNat n.toNat) else none
  | _, _, _ => none
def keys2 : List (List L2.Key) := (List.range 64).flatMap fun (c : Nat) => (List.range 64).map fun (n : Nat) => [Sum.inl (c : Int), Sum.inl (n : Int)]
theorem memo_fin (k : Nat) : ∃ L : List (List L2.Key), L.length < 16777216 ∧ ∀ ps key d, memo k ps key = some d → key ∈ L := by
  refine ⟨keys2, by decide +kernel, fun ps key d h => ?_⟩
  have mem : ∀ c n : Int, 0 ≤ c ∧ c < 64 ∧ 0 ≤ n ∧ n < 64 → [Sum.inl c, Sum.inl n] ∈ keys2 := fun c n ⟨h1, h2, h3, h4⟩ => by
    unfold keys2
    rw [List.mem_flatMap]
    refine ⟨c.toNat, by rw [List.mem_range]; omega, List.mem_map.mpr ⟨n.toNat, by rw [List.mem_range]; omega, ?_⟩⟩
    rw [Int.toNat_of_nonneg h1, Int.toNat_of_nonneg h3]
  unfold memo at h
  split at h
  · split at h
    · rename_i hh
      exact mem _ _ hh
    · cases h
  · split at h
    · rename_i hh
      exact mem _ _ hh
    · cases h
  · cases h
theorem memo_ent (sz fw : List Nat) {c n : Nat} (h : c < 64) (h2 : n < 64) : memo 0 [nT sz, nT fw] [.inl (c : Int), .inl (n : Int)] = some (entD sz fw c n) := by
  show (if _ then _ else _) = _
  rw [if_pos (by omega), natsOf_nT, natsOf_nT, Int.toNat_natCast, Int.toNat_natCast]
theorem memo_entL (sz fw : List Nat) {c n : Nat} (h : c < 64) (h2 : n < 64) : memo 2 [nT sz, nT fw] [.inl (c : Int), .inl (n : Int)] = some (entL sz fw c n) := by
  show (if _ then _ else _) = _
  rw [if_pos (by omega), natsOf_nT, natsOf_nT, Int.toNat_natCast, Int.toNat_natCast]
end R
/-! ## the plain law of blocks: they are permutations; a step-by-step run gives them -/
namespace R
open PySem
/-- the least number of members for a cup's block -/
def least (sz : List Nat) (c : Nat) : Nat := ((sz.take c).map (· - 1)).sum + 1
theorem pk_lt {l : List Nat} {i : Nat} (h : i < l.length) : pk l i = l[i] := by
  unfold pk
  rw [List.getD_eq_getElem?_getD, List.getElem?_eq_getElem h]
  rfl
theorem pk_mem {l : List Nat} {i : Nat} (h : i < l.length) : pk l i ∈ l := by rw [pk_lt h]; exact List.getElem_mem h
theorem pk_map {l : List Nat} {g : Nat → Nat} {i : Nat} (h : i < l.length) : pk (l.map g) i = g (pk l i) := by
  rw [pk_lt h, pk_lt (by rw [List.length_map]; exact h), List.getElem_map]
theorem map_pk_range (l : List Nat) : (List.range l.length).map (pk l) = l := by
  apply List.ext_getElem
  · rw [List.length_map, List.length_range]
  · intro i h1 h2
    rw [List.getElem_map, List.getElem_range, pk_lt h2]
theorem least_succ {sz : List Nat} {c : Nat} (h : c < sz.length) : least sz (c + 1) = least sz c + (pk sz c - 1) := by
  unfold least
  rw [List.take_add_one, List.getElem?_eq_getElem h, pk_lt h]
  simp only [Option.toList_some, List.map_append, List.map_cons, List.map_nil, List.sum_append, List.sum_cons, List.sum_nil]
  omega
/-- a block is a permutation of the indices -/
def Pm (e : Nat × List Nat) (len : Nat) : Prop := (e.1 :: e.2).Perm (List.range len)
theorem Pm.lt {e : Nat × List Nat} {len : Nat} (h : Pm e len) : e.1 < len ∧ ∀ x ∈ e.2, x < len := by
  have k : ∀ x ∈ e.1 :: e.2, x < len := fun x m => List.mem_range.mp (h.mem_iff.mp m)
  exact ⟨k _ List.mem_cons_self, fun x m => k x (List.mem_cons_of_mem _ m)⟩
theorem Pm.len {e : Nat × List Nat} {len : Nat} (h : Pm e len) : e.2.length + 1 = len := by
  have := h.length_eq
  rw [List.length_cons, List.length_range] at this
  exact this
theorem Pm.app {e : Nat × List Nat} {l : List Nat} (h : Pm e l.length) : (pk l e.1 :: e.2.map (pk l)).Perm l := by
  have := h.map (pk l)
  rw [map_pk_range] at this
  exact this
theorem fillN_perm {e : Nat → Nat × List Nat} : ∀ (n : Nat) (p : List Nat × List Nat), (∀ k, k < n → Pm (e (p.2.length - k)) (p.2.length - k)) → n ≤ p.2.length → ((fillN e n p).1 ++ (fillN e n p).2).Perm (p.1 ++ p.2) ∧ (fillN e n p).1.length = p.1.length + n
  | 0, p, _, _ => ⟨.refl _, rfl⟩
  | n + 1, p, h, hl => by
    have h0 := h 0 (by omega)
    rw [Nat.sub_zero] at h0
    have hlen := h0.len
    have l2 : ((e p.2.length).2.map (pk p.2)).length = p.2.length - 1 := by rw [List.length_map]; omega
    obtain ⟨a, b⟩ := fillN_perm (e := e) n (p.1 ++ [pk p.2 (e p.2.length).1], (e p.2.length).2.map (pk p.2)) (fun k hk => by
      show Pm (e (((e p.2.length).2.map (pk p.2)).length - k)) (((e p.2.length).2.map (pk p.2)).length - k)
      rw [l2, Nat.sub_sub, Nat.add_comm 1 k]
      exact h (k + 1) (by omega)) (by rw [l2]; omega)
    refine ⟨a.trans ?_, by rw [fillN, b, List.length_append, List.length_singleton]; omega⟩
    rw [List.append_assoc]
    exact h0.app.append_left p.1
theorem erase_perm {l : List Nat} {i : Nat} (h : i < l.length) : (pk l i :: l.eraseIdx i).Perm l := by
  rw [pk_lt h]
  induction l generalizing i with
  | nil => simp at h
  | cons x l ih =>
    cases i with
    | zero => exact .refl _
    | succ i =>
      have h2 : i < l.length := by simpa using h
      rw [List.eraseIdx_cons_succ, List.getElem_cons_succ]
      exact (List.Perm.swap _ _ _).trans ((ih h2).cons x)
structure Cups (sz fw : List Nat) (c : Nat) : Prop where
  l1 : c ≤ sz.length
  s1 : ∀ i, i < c → 1 ≤ pk sz i
  f1 : ∀ i, i < c → pk fw i < pk sz i
theorem Cups.down {sz fw : List Nat} {c : Nat} (h : Cups sz fw (c + 1)) : Cups sz fw c := ⟨by have := h.l1; omega, fun i hi => h.s1 i (by omega), fun i hi => h.f1 i (by omega)⟩
theorem ent_perm {sz fw : List Nat} : ∀ {c : Nat} {len : Nat}, Cups sz fw c → least sz c ≤ len → Pm (ent sz fw c len) len
  | 0, len, _, h => by
    have h1 : 1 ≤ len := h
    obtain ⟨n, rfl⟩ : ∃ n, len = n + 1 := ⟨len - 1, by omega⟩
    show (0 :: List.range' 1 n).Perm (List.range (n + 1))
    rw [List.range_eq_range', List.range'_succ]
  | c + 1, len, C, h => by
    have hs := C.s1 c (by omega)
    have hf := C.f1 c (by omega)
    rw [least_succ (by have := C.l1; omega)] at h
    have hl1 : 1 ≤ least sz c := by unfold least; omega
    obtain ⟨a, b⟩ := fillN_perm (e := ent sz fw c) (pk sz c) ([], List.range len) (fun k hk => by
      show Pm (ent sz fw c ((List.range len).length - k)) ((List.range len).length - k)
      rw [List.length_range]
      exact ent_perm C.down (by omega)) (by show pk sz c ≤ (List.range len).length; rw [List.length_range]; omega)
    have a : ((fil sz fw c len).1 ++ (fil sz fw c len).2).Perm (List.range len) := a
    have b : (fil sz fw c len).1.length = pk sz c := by
      have b2 : (fil sz fw c len).1.length = 0 + pk sz c := b
      omega
    show (pk (fil sz fw c len).1 (pk fw c) :: ((fil sz fw c len).2 ++ (fil sz fw c len).1.eraseIdx (pk fw c))).Perm (List.range len)
    refine List.Perm.trans ?_ a
    have e := erase_perm (l := (fil sz fw c len).1) (i := pk fw c) (by omega)
    refine List.Perm.trans ?_ (e.append_right (fil sz fw c len).2)
    exact List.Perm.cons _ List.perm_append_comm
end R
/-! ## the plain law of blocks: a step-by-step run of the cups before one -/
namespace R
open PySem
/-- a member enters the first of these cups -/
def casc : List Nat → List Nat → List (List Nat) → Nat → List Nat → List (List Nat) × List Nat × Option Nat
  | s :: ss, f :: fs, c :: cs, m, q => if c.length + 1 = s then
      ([] :: (casc ss fs cs (pk (c ++ [m]) f) (q ++ (c ++ [m]).eraseIdx f)).1, (casc ss fs cs (pk (c ++ [m]) f) (q ++ (c ++ [m]).eraseIdx f)).2)
    else ((c ++ [m]) :: cs, q, none)
  | _, _, cs, m, q => (cs, q, some m)
/-- after n steps the member m leaves the cups, behind it the queue is q' and the cups are empty -/
inductive Run (ss fs : List Nat) : Nat → List (List Nat) → List Nat → Nat → List Nat → Prop where
  | done {cs cs' : List (List Nat)} {m x : Nat} {q q' : List Nat} : casc ss fs cs x q = (cs', q', some m) → (∀ c ∈ cs', c = []) → Run ss fs 1 cs (x :: q) m q'
  | step {cs cs' : List (List Nat)} {n m x : Nat} {q q1 q' : List Nat} : casc ss fs cs x q = (cs', q1, none) → Run ss fs n cs' q1 m q' → Run ss fs (n + 1) cs (x :: q) m q'
theorem casc_len : ∀ {ss fs : List Nat} {cs : List (List Nat)} {m : Nat} {q : List Nat}, (casc ss fs cs m q).1.length = cs.length
  | [], _, cs, m, q => by rw [casc]; intro _ _ _ _ _ _ e; cases e
  | _ :: _, [], cs, m, q => by rw [casc]; intro _ _ _ _ _ _ _ e; cases e
  | _ :: _, _ :: _, [], m, q => by rw [casc]; intro _ _ _ _ _ _ _ _ e; cases e
  | s :: ss, f :: fs, c :: cs, m, q => by
    rw [casc]
    split
    · rw [List.length_cons, casc_len, List.length_cons]
    · rfl
/-- one cup more at the end -/
theorem casc_snoc {s f : Nat} {c : List Nat} : ∀ {ss fs : List Nat} {cs : List (List Nat)} {m : Nat} {q : List Nat}, ss.length = fs.length → ss.length = cs.length →
    casc (ss ++ [s]) (fs ++ [f]) (cs ++ [c]) m q = match (casc ss fs cs m q).2.2 with
      | none => ((casc ss fs cs m q).1 ++ [c], (casc ss fs cs m q).2.1, none)
      | some m' => if c.length + 1 = s then ((casc ss fs cs m q).1 ++ [[]], (casc ss fs cs m q).2.1 ++ (c ++ [m']).eraseIdx f, some (pk (c ++ [m']) f)) else ((casc ss fs cs m q).1 ++ [c ++ [m']], (casc ss fs cs m q).2.1, none)
  | [], [], [], m, q, _, _ => by
    show casc [s] [f] [c] m q = if c.length + 1 = s then ([[]], q ++ (c ++ [m]).eraseIdx f, some (pk (c ++ [m]) f)) else ([c ++ [m]], q, none)
    rw [casc]
    split
    · rfl
    · rfl
  | s1 :: ss, f1 :: fs, c1 :: cs, m, q, h1, h2 => by
    have ih := @casc_snoc s f c ss fs cs (pk (c1 ++ [m]) f1) (q ++ (c1 ++ [m]).eraseIdx f1) (by simpa using h1) (by simpa using h2)
    show casc (s1 :: (ss ++ [s])) (f1 :: (fs ++ [f])) (c1 :: (cs ++ [c])) m q = _
    rw [casc, casc]
    by_cases h : c1.length + 1 = s1
    · rw [if_pos h, if_pos h, ih]
      cases q2 : (casc ss fs cs (pk (c1 ++ [m]) f1) (q ++ (c1 ++ [m]).eraseIdx f1)).2.2 with
      | none => simp only [q2]; rfl
      | some m' =>
        simp only [q2]
        split
        · rfl
        · rfl
    · rw [if_neg h, if_neg h]
      rfl
  | [], _ :: _, _, _, _, h, _ => by simp at h
  | _ :: _, [], _, _, _, h, _ => by simp at h
  | [], [], _ :: _, _, _, _, h => by simp at h
  | _ :: _, _ :: _, [], _, _, _, h => by simp at h
theorem all_nil {cs : List (List Nat)} (h : ∀ c ∈ cs, c = []) : cs = List.replicate cs.length [] := List.eq_replicate_iff.mpr ⟨rfl, h⟩
/-- a run of the cups before, then the last cup takes the member -/
theorem Run.more {ss fs : List Nat} {s f : Nat} {c : List Nat} (hl : ss.length = fs.length) {n : Nat} {cs : List (List Nat)} {q : List Nat} {m : Nat} {q' : List Nat} (r : Run ss fs n cs q m q') : ss.length = cs.length → c.length + 1 ≠ s →
    ∀ {N m2 : Nat} {q2 : List Nat}, Run (ss ++ [s]) (fs ++ [f]) N (List.replicate cs.length [] ++ [c ++ [m]]) q' m2 q2 → Run (ss ++ [s]) (fs ++ [f]) (n + N) (cs ++ [c]) q m2 q2 := by
  induction r with
  | @done cs cs' m x q q' e en =>
    intro h2 hs N m2 q2 r
    have e2 := @casc_snoc s f c ss fs cs x q hl h2
    have el := @casc_len ss fs cs x q
    rw [e] at e2 el
    simp only [if_neg hs] at e2
    rw [all_nil en, show cs'.length = cs.length from el] at e2
    rw [Nat.add_comm]
    exact .step e2 r
  | @step cs cs' n m x q q1 q' e r0 ih =>
    intro h2 hs N m2 q2 r
    have e2 := @casc_snoc s f c ss fs cs x q hl h2
    have el := @casc_len ss fs cs x q
    rw [e] at e2 el
    have el : cs'.length = cs.length := el
    rw [Nat.add_right_comm]
    exact .step e2 (ih (by omega) hs (by rw [el]; exact r))
theorem Run.last {ss fs : List Nat} {s f : Nat} {c : List Nat} (hl : ss.length = fs.length) {n : Nat} {cs : List (List Nat)} {q : List Nat} {m : Nat} {q' : List Nat} (r : Run ss fs n cs q m q') : ss.length = cs.length → c.length + 1 = s →
    Run (ss ++ [s]) (fs ++ [f]) n (cs ++ [c]) q (pk (c ++ [m]) f) (q' ++ (c ++ [m]).eraseIdx f) := by
  induction r with
  | @done cs cs' m x q q' e en =>
    intro h2 hs
    have e2 := @casc_snoc s f c ss fs cs x q hl h2
    rw [e] at e2
    simp only [if_pos hs] at e2
    refine .done e2 fun d m => ?_
    rcases List.mem_append.mp m with m | m
    · exact en d m
    · exact List.mem_singleton.mp m
  | @step cs cs' n m x q q1 q' e r0 ih =>
    intro h2 hs
    have e2 := @casc_snoc s f c ss fs cs x q hl h2
    have el := @casc_len ss fs cs x q
    rw [e] at e2 el
    have el : cs'.length = cs.length := el
    exact .step e2 (ih (by omega) hs)
theorem erase_map {α β : Type} (f : α → β) : ∀ (l : List α) (j : Nat), (l.eraseIdx j).map f = (l.map f).eraseIdx j
  | [], _ => rfl
  | _ :: _, 0 => rfl
  | x :: l, j + 1 => by rw [List.eraseIdx_cons_succ, List.map_cons, List.map_cons, List.eraseIdx_cons_succ, erase_map f l j]
def prodL (l : List Nat) : Nat := l.foldl (· * ·) 1
theorem prodL_snoc (l : List Nat) (s : Nat) : prodL (l ++ [s]) = prodL l * s := by
  unfold prodL
  rw [List.foldl_append]
  rfl
theorem take_snoc {l : List Nat} {c : Nat} (h : c < l.length) : l.take (c + 1) = l.take c ++ [pk l c] := by
  rw [List.take_add_one, List.getElem?_eq_getElem h, pk_lt h] <;> rfl
theorem map_pk_map {l x : List Nat} {g : Nat → Nat} (h : ∀ i ∈ x, i < l.length) : x.map (pk (l.map g)) = (x.map (pk l)).map g := by
  rw [List.map_map]
  refine List.map_congr_left fun i hi => ?_
  exact pk_map (h i hi)
/-- THE BLOCK: so many steps, and what they do -/
theorem run_block {sz fw : List Nat} : ∀ {c : Nat}, Cups sz fw c → c ≤ fw.length → ∀ {q : List Nat}, least sz c ≤ q.length →
    Run (sz.take c) (fw.take c) (prodL (sz.take c)) (List.replicate c []) q (pk q (ent sz fw c q.length).1) ((ent sz fw c q.length).2.map (pk q))
  | 0, _, _, q, h => by
    have h1 : 1 ≤ q.length := h
    cases q with
    | nil => simp at h1
    | cons x q =>
      rw [List.take_zero, List.take_zero]
      have e : (ent sz fw 0 (x :: q).length).2.map (pk (x :: q)) = q := by
        show (List.range' 1 q.length).map (pk (x :: q)) = q
        apply List.ext_getElem
        · rw [List.length_map, List.length_range']
        · intro i h1 h2
          rw [List.getElem_map, List.getElem_range', pk_lt (by simpa [Nat.add_comm] using h2)]
          simp [Nat.add_comm]
      rw [e]
      exact Run.done (cs' := []) (m := x) rfl fun _ m => by cases m
  | c + 1, C, hf, q, h => by
    have hl := C.l1
    have hs := C.s1 c (by omega)
    rw [least_succ (by omega)] at h
    have h1 : 1 ≤ least sz c := by unfold least; omega
    rw [take_snoc (l := sz) (by omega), take_snoc (l := fw) (by omega), prodL_snoc, List.replicate_succ']
    have hll : (sz.take c).length = (fw.take c).length := by rw [List.length_take, List.length_take]; omega
    have hlc : (sz.take c).length = c := by rw [List.length_take]; omega
    -- the entries one by one
    have key : ∀ (k : Nat) (p : List Nat × List Nat), p.1.length + (k + 1) = pk sz c → (∀ i ∈ p.2, i < q.length) → least sz c + k ≤ p.2.length → 
        Run (sz.take c ++ [pk sz c]) (fw.take c ++ [pk fw c]) (prodL (sz.take c) * (k + 1)) (List.replicate c [] ++ [p.1.map (pk q)]) (p.2.map (pk q))
          (pk (((fillN (ent sz fw c) (k + 1) p).1).map (pk q)) (pk fw c)) ((fillN (ent sz fw c) (k + 1) p).2.map (pk q) ++ ((fillN (ent sz fw c) (k + 1) p).1.map (pk q)).eraseIdx (pk fw c)) := by
      intro k
      induction k with
      | zero =>
        intro p hp hi hk
        have pm := ent_perm (sz := sz) (fw := fw) C.down (len := p.2.length) (by omega)
        obtain ⟨l1, l2⟩ := pm.lt
        have r := run_block (sz := sz) (fw := fw) C.down (by omega) (q := p.2.map (pk q)) (by rw [List.length_map]; omega)
        rw [List.length_map, pk_map l1, map_pk_map l2] at r
        have r2 := r.last (s := pk sz c) (f := pk fw c) (c := p.1.map (pk q)) hll (by rw [List.length_replicate]; omega) (by rw [List.length_map]; omega)
        rw [Nat.zero_add, Nat.mul_one]
        show Run _ _ _ _ _ (pk ((p.1 ++ [pk p.2 (ent sz fw c p.2.length).1]).map (pk q)) (pk fw c)) (((ent sz fw c p.2.length).2.map (pk p.2)).map (pk q) ++ ((p.1 ++ [pk p.2 (ent sz fw c p.2.length).1]).map (pk q)).eraseIdx (pk fw c))
        rw [List.map_append, List.map_singleton]
        exact r2
      | succ k ih =>
        intro p hp hi hk
        have pm := ent_perm (sz := sz) (fw := fw) C.down (len := p.2.length) (by omega)
        obtain ⟨l1, l2⟩ := pm.lt
        have hlen := pm.len
        have r := run_block (sz := sz) (fw := fw) C.down (by omega) (q := p.2.map (pk q)) (by rw [List.length_map]; omega)
        rw [List.length_map, pk_map l1, map_pk_map l2] at r
        have nx := ih (p.1 ++ [pk p.2 (ent sz fw c p.2.length).1], (ent sz fw c p.2.length).2.map (pk p.2)) (by rw [List.length_append, List.length_singleton]; omega) (fun i m => by
          obtain ⟨j, hj, e⟩ := List.mem_map.mp m
          rw [← e]
          exact hi _ (pk_mem (l2 j hj))) (by rw [List.length_map]; omega)
        rw [Nat.mul_succ, Nat.add_comm]
        refine r.more (s := pk sz c) (f := pk fw c) (c := p.1.map (pk q)) hll (by rw [List.length_replicate]; omega) (by rw [List.length_map]; omega) ?_
        rw [List.length_replicate]
        have e2 : (p.1 ++ [pk p.2 (ent sz fw c p.2.length).1]).map (pk q) = p.1.map (pk q) ++ [pk q (pk p.2 (ent sz fw c p.2.length).1)] := by rw [List.map_append, List.map_singleton]
        rw [← e2]
        exact nx
    have k0 := key (pk sz c - 1) ([], List.range q.length) (by show 0 + _ = _; omega) (fun i m => List.mem_range.mp m) (by rw [List.length_range]; omega)
    have es : pk sz c - 1 + 1 = pk sz c := by omega
    rw [es] at k0
    have hf1 := C.f1 c (by omega)
    have eq0 : (List.range q.length).map (pk q) = q := map_pk_range q
    have b : (fil sz fw c q.length).1.length = pk sz c := by
      have := (fillN_perm (e := ent sz fw c) (pk sz c) ([], List.range q.length) (fun k hk => by
        show Pm (ent sz fw c ((List.range q.length).length - k)) ((List.range q.length).length - k)
        rw [List.length_range]
        exact ent_perm C.down (by omega)) (by show pk sz c ≤ (List.range q.length).length; rw [List.length_range]; omega)).2
      have b2 : (fil sz fw c q.length).1.length = 0 + pk sz c := this
      omega
    show Run _ _ _ _ _ (pk q (pk (fil sz fw c q.length).1 (pk fw c))) (((fil sz fw c q.length).2 ++ (fil sz fw c q.length).1.eraseIdx (pk fw c)).map (pk q))
    have k1 : Run (sz.take c ++ [pk sz c]) (fw.take c ++ [pk fw c]) (prodL (sz.take c) * pk sz c) (List.replicate c [] ++ [[]]) q (pk ((fil sz fw c q.length).1.map (pk q)) (pk fw c)) ((fil sz fw c q.length).2.map (pk q) ++ ((fil sz fw c q.length).1.map (pk q)).eraseIdx (pk fw c)) := by
      rw [show (([], List.range q.length) : List Nat × List Nat).2.map (pk q) = q from eq0] at k0
      exact k0
    rw [pk_map (by omega), ← erase_map, ← List.map_append] at k1
    exact k1
end R
/-! ## R over the heap: what a tree means, what may change -/
namespace R
open PySem PySem.Spec PyProof.Rows L2
structure Wd where
  G : Hp
  S : Addr → Option (Nat × List D)
mutual
/-- v is the frozen value d -/
inductive Rep (K : PySem.W.Frag) (W : Wd) : V → D → Prop where
  | non : Rep K W .non .non
  | bl (b : Bool) : Rep K W (.bl b) (.bl b)
  | int (i : Int) : Rep K W (.int i) (.int i)
  | str (x : Str) : Rep K W (.str x) (.str x)
  | lst {a : Addr} {xs : List V} {ds : List D} : W.G a = some (.lst xs) → RepAll K W xs ds → Rep K W (.ref a) (.lst ds)
  | tup {a : Addr} {xs : List V} {ds : List D} : W.G a = some (.tup xs) → RepAll K W xs ds → Rep K W (.ref a) (.tup ds)
  | rol {a : Addr} {xs : List V} {ds : List D} : SqL K W.G a xs → RepAll K W xs ds → Rep K W (.ref a) (.rol ds)
  | ins {a : Addr} {C dx : Addr} {fs : List (Str × V)} {ds : List D} : W.G a = some (.ins C dx fs) → RepAll K W (fs.map (·.2)) ds → Rep K W (.ref a) (.ins C (fs.map (·.1)) ds)
  | vol {a : Addr} {k : Nat} {ps : List D} : W.S a = some (k, ps) → Rep K W (.ref a) (.vol k ps)
  | any (a : Addr) : Rep K W (.ref a) .any
inductive RepAll (K : PySem.W.Frag) (W : Wd) : List V → List D → Prop where
  | nil : RepAll K W [] []
  | cons {v : V} {vs : List V} {d : D} {ds : List D} : Rep K W v d → RepAll K W vs ds → RepAll K W (v :: vs) (d :: ds)
end
mutual
/-- v is held alone, as t; its cells are f -/
inductive Own (K : PySem.W.Frag) (W : Wd) (H : Hp) : V → OT → List Addr → Prop where
  | leaf {v : V} {d : D} : Rep K W v d → Own K W H v (.leaf d) []
  | lst {p : Addr} {vs : List V} {ts : List OT} {f : List Addr} : H p = some (.lst vs) → OwnAll K W H vs ts f → Own K W H (.ref p) (.lst ts) (p :: f)
  | tup {p : Addr} {vs : List V} {ts : List OT} {f : List Addr} : H p = some (.tup vs) → OwnAll K W H vs ts f → Own K W H (.ref p) (.tup ts) (p :: f)
  | ins {p : Addr} {C dx : Addr} {fs : List (Str × V)} {ts : List OT} {f : List Addr} : H p = some (.ins C dx fs) → OwnAll K W H (fs.map (·.2)) ts f → Own K W H (.ref p) (.ins C (fs.map (·.1)) ts) (p :: f)
  | d0 {p : Addr} : H p = some (.dT []) → Own K W H (.ref p) .d0 [p]
inductive OwnAll (K : PySem.W.Frag) (W : Wd) (H : Hp) : List V → List OT → List Addr → Prop where
  | nil : OwnAll K W H [] [] []
  | cons {v : V} {vs : List V} {t : OT} {ts : List OT} {f g : List Addr} : Own K W H v t f → OwnAll K W H vs ts g → OwnAll K W H (v :: vs) (t :: ts) (f ++ g)
end
/-- what an object of the kind keeps (0: a draw's source; others: a memory of results) -/
def VI (k : Nat) (ps : List D) (rep : V → D → Prop) (o : HO) : Prop := match k with
  | 0 => ∃ x y z : Int, o = .lst [.int x, .int y, .int z]
  | k + 1 => ∃ kvs : List (List Key × V), o = .dT kvs ∧ (kvs.map (·.1)).Nodup ∧ ∀ p ∈ kvs, ∃ d, memo k ps p.1 = some d ∧ rep p.2 d
structure Sat (K : PySem.W.Frag) (W : Wd) (H : Hp) (fp xf : List Addr) : Prop where
  sub : ∀ a o, W.G a = some o → H a = some o
  vol : ∀ a k ps, W.S a = some (k, ps) → W.G a = none ∧ ∃ o, H a = some o ∧ VI k ps (Rep K W) o
  nd : fp.Nodup
  off : ∀ a ∈ fp, W.G a = none ∧ W.S a = none ∧ H a ≠ none
  xof : ∀ a ∈ xf, a ∉ fp ∧ W.S a = none ∧ H a ≠ none
/-- from one state to another: f may change -/
structure Stp (W : Wd) (H : Hp) (f : List Addr) (W' : Wd) (H' : Hp) : Prop where
  wx : ∀ a, H a ≠ none → a ∉ f → W'.G a = W.G a ∧ W'.S a = W.S a
  kp : ∀ a o, H a = some o → a ∉ f → W.S a = none → H' a = some o
  al : ∀ a, H a ≠ none → H' a ≠ none
/-- the slots hold -/
inductive EnvOk (K : PySem.W.Frag) (W : Wd) (H : Hp) : L2.St → Env → List Addr → List Addr → Prop where
  | nil : EnvOk K W H [] [] [] []
  | no {x : Option V} {σ : L2.St} {e : Env} {fp xf : List Addr} : EnvOk K W H σ e fp xf → EnvOk K W H (x :: σ) (none :: e) fp xf
  | fz {v : V} {d : D} {σ : L2.St} {e : Env} {fp xf : List Addr} : Rep K W v d → EnvOk K W H σ e fp xf → EnvOk K W H (some v :: σ) (some (.fz d) :: e) fp xf
  | nw {v : V} {t : OT} {f : List Addr} {σ : L2.St} {e : Env} {fp xf : List Addr} : Own K W H v t f → EnvOk K W H σ e fp xf → EnvOk K W H (some v :: σ) (some (.nw t) :: e) (f ++ fp) xf
  | ex {v : V} {t : OT} {f : List Addr} {σ : L2.St} {e : Env} {fp xf : List Addr} : Own K W H v t f → EnvOk K W H σ e fp xf → EnvOk K W H (some v :: σ) (some (.ex t) :: e) fp (f ++ xf)
/-- what an expression gave: H the heap at its start -/
def ResOk (K : PySem.W.Frag) (H : Hp) (fp : List Addr) (W' : Wd) (H' : Hp) (v : V) : Rs → Prop
  | .fz d => Rep K W' v d
  | .nw t => ∃ f, Own K W' H' v t f ∧ f.Nodup ∧ ∀ a ∈ f, H a = none ∧ W'.G a = none ∧ W'.S a = none
  | .br t => ∃ f, Own K W' H' v t f ∧ ∀ a ∈ f, W'.S a = none
  | .ex t => ∃ f, Own K W' H' v t f ∧ ∀ a ∈ f, W'.S a = none ∧ a ∉ fp
/-- a list of them -/
inductive ResAll (K : PySem.W.Frag) (H : Hp) (fp : List Addr) (W' : Wd) (H' : Hp) : List V → List Rs → List Addr → Prop where
  | nil : ResAll K H fp W' H' [] [] []
  | fz {v : V} {d : D} {vs : List V} {rs : List Rs} {g : List Addr} : Rep K W' v d → ResAll K H fp W' H' vs rs g → ResAll K H fp W' H' (v :: vs) (.fz d :: rs) g
  | nw {v : V} {t : OT} {f : List Addr} {vs : List V} {rs : List Rs} {g : List Addr} : Own K W' H' v t f → ResAll K H fp W' H' vs rs g → ResAll K H fp W' H' (v :: vs) (.nw t :: rs) (f ++ g)
  | br {v : V} {t : OT} {f : List Addr} {vs : List V} {rs : List Rs} {g : List Addr} : Own K W' H' v t f → (∀ a ∈ f, W'.S a = none) → ResAll K H fp W' H' vs rs g → ResAll K H fp W' H' (v :: vs) (.br t :: rs) g
  | ex {v : V} {t : OT} {f : List Addr} {vs : List V} {rs : List Rs} {g : List Addr} : Own K W' H' v t f → (∀ a ∈ f, W'.S a = none ∧ a ∉ fp) → ResAll K H fp W' H' vs rs g → ResAll K H fp W' H' (v :: vs) (.ex t :: rs) g

/-! ### what stays -/
structure Wd.Le (W W' : Wd) : Prop where
  g : ∀ a o, W.G a = some o → W'.G a = some o
  s : ∀ a k, W.S a = some k → W'.S a = some k
theorem Wd.Le.refl (W : Wd) : W.Le W := ⟨fun _ _ h => h, fun _ _ h => h⟩
theorem Wd.Le.trans {W W1 W2 : Wd} (a : W.Le W1) (b : W1.Le W2) : W.Le W2 := ⟨fun c o h => b.g c o (a.g c o h), fun c o h => b.s c o (a.s c o h)⟩
theorem SqL.mono {K : PySem.W.Frag} {G G' : Hp} {a : Addr} {xs : List V} (h : ∀ a o, G a = some o → G' a = some o) (q : SqL K G a xs) : SqL K G' a xs := by
  rcases q with (q | ⟨o, q⟩) | q
  · exact .inl (.inl (h _ _ q))
  · exact .inl (.inr ⟨o, h _ _ q⟩)
  · exact .inr q
section
variable {K : PySem.W.Frag} {W W' : Wd} {H H' : Hp}
mutual
theorem Rep.mono (l : W.Le W') : ∀ {v : V} {d : D}, Rep K W v d → Rep K W' v d
  | _, _, .non => .non
  | _, _, .bl b => .bl b
  | _, _, .int i => .int i
  | _, _, .str x => .str x
  | _, _, .lst h r => .lst (l.g _ _ h) (RepAll.mono l r)
  | _, _, .tup h r => .tup (l.g _ _ h) (RepAll.mono l r)
  | _, _, .rol h r => .rol (SqL.mono l.g h) (RepAll.mono l r)
  | _, _, .ins h r => .ins (l.g _ _ h) (RepAll.mono l r)
  | _, _, .vol h => .vol (l.s _ _ h)
  | _, _, .any a => .any a
theorem RepAll.mono (l : W.Le W') : ∀ {vs : List V} {ds : List D}, RepAll K W vs ds → RepAll K W' vs ds
  | _, _, .nil => .nil
  | _, _, .cons h r => .cons (Rep.mono l h) (RepAll.mono l r)
end
mutual
theorem Own.alloc : ∀ {v : V} {t : OT} {f : List Addr}, Own K W H v t f → ∀ a ∈ f, H a ≠ none
  | _, _, _, .leaf _, _, ha => by cases ha
  | _, _, _, .lst h r, a, ha => by
    rcases List.mem_cons.mp ha with e | ha
    · rw [e, h]; exact fun z => nomatch z
    · exact OwnAll.alloc r a ha
  | _, _, _, .tup h r, a, ha => by
    rcases List.mem_cons.mp ha with e | ha
    · rw [e, h]; exact fun z => nomatch z
    · exact OwnAll.alloc r a ha
  | _, _, _, .ins h r, a, ha => by
    rcases List.mem_cons.mp ha with e | ha
    · rw [e, h]; exact fun z => nomatch z
    · exact OwnAll.alloc r a ha
  | _, _, _, .d0 h, a, ha => by
    rw [List.mem_singleton.mp ha, h]; exact fun z => nomatch z
theorem OwnAll.alloc : ∀ {vs : List V} {ts : List OT} {f : List Addr}, OwnAll K W H vs ts f → ∀ a ∈ f, H a ≠ none
  | _, _, _, .nil, _, ha => by cases ha
  | _, _, _, .cons h r, a, ha => by
    rcases List.mem_append.mp ha with ha | ha
    · exact Own.alloc h a ha
    · exact OwnAll.alloc r a ha
end
mutual
theorem Own.mono (l : W.Le W') : ∀ {v : V} {t : OT} {f : List Addr}, Own K W H v t f → (∀ a ∈ f, ∀ o, H a = some o → H' a = some o) → Own K W' H' v t f
  | _, _, _, .leaf r, _ => .leaf (r.mono l)
  | _, _, _, .lst h r, k => .lst (k _ List.mem_cons_self _ h) (OwnAll.mono l r fun a ha => k a (List.mem_cons_of_mem _ ha))
  | _, _, _, .tup h r, k => .tup (k _ List.mem_cons_self _ h) (OwnAll.mono l r fun a ha => k a (List.mem_cons_of_mem _ ha))
  | _, _, _, .ins h r, k => .ins (k _ List.mem_cons_self _ h) (OwnAll.mono l r fun a ha => k a (List.mem_cons_of_mem _ ha))
  | _, _, _, .d0 h, k => .d0 (k _ List.mem_cons_self _ h)
theorem OwnAll.mono (l : W.Le W') : ∀ {vs : List V} {ts : List OT} {f : List Addr}, OwnAll K W H vs ts f → (∀ a ∈ f, ∀ o, H a = some o → H' a = some o) → OwnAll K W' H' vs ts f
  | _, _, _, .nil, _ => .nil
  | _, _, _, .cons h r, k => .cons (Own.mono l h fun a ha => k a (List.mem_append_left _ ha)) (OwnAll.mono l r fun a ha => k a (List.mem_append_right _ ha))
end
theorem EnvOk.mono (l : W.Le W') {σ : L2.St} {e : Env} {fp xf : List Addr} (h : EnvOk K W H σ e fp xf) : (∀ a, a ∈ fp ∨ a ∈ xf → ∀ o, H a = some o → H' a = some o) → EnvOk K W' H' σ e fp xf := by
  induction h with
  | nil => intro _; exact .nil
  | no _ ih => intro k; exact .no (ih k)
  | fz r _ ih => intro k; exact .fz (r.mono l) (ih k)
  | nw r _ ih => intro k; exact .nw (r.mono l fun a ha => k a (.inl (List.mem_append_left _ ha))) (ih fun a ha => k a (ha.imp (List.mem_append_right _) id))
  | ex r _ ih => intro k; exact .ex (r.mono l fun a ha => k a (.inr (List.mem_append_left _ ha))) (ih fun a ha => k a (ha.imp id (List.mem_append_right _)))
theorem ResAll.mono {H0 : Hp} {fp : List Addr} (l : W.Le W') {vs : List V} {rs : List Rs} {g : List Addr} (h : ResAll K H0 fp W H vs rs g) :
    (∀ a o, H a = some o → W.S a = none → H' a = some o) → (∀ a, H a ≠ none → W'.S a = W.S a) → (∀ a ∈ g, W.S a = none) → ResAll K H0 fp W' H' vs rs g := by
  have key : ∀ {v : V} {t : OT} {f : List Addr}, Own K W H v t f → ∀ a ∈ f, H a ≠ none := by
    intro v t f o
    exact (Own.alloc o)
  induction h with
  | nil => intro _ _ _; exact .nil
  | fz r _ ih => intro k s q; exact .fz (r.mono l) (ih k s q)
  | nw r _ ih => intro k s q; exact .nw (r.mono l fun a ha o e => k a o e (q a (List.mem_append_left _ ha))) (ih k s fun a ha => q a (List.mem_append_right _ ha))
  | br r z _ ih => intro k s q; exact .br (r.mono l fun a ha o e => k a o e (z a ha)) (fun a ha => (s a (key r a ha)).trans (z a ha)) (ih k s q)
  | ex r z _ ih => intro k s q; exact .ex (r.mono l fun a ha o e => k a o e (z a ha).1) (fun a ha => ⟨(s a (key r a ha)).trans (z a ha).1, (z a ha).2⟩) (ih k s q)
end
section
variable {K : PySem.W.Frag} {W W1 W2 W' : Wd} {H H1 H2 H' : Hp} {f f1 fp xf : List Addr}
theorem Stp.refl : Stp W H f W H := ⟨fun _ _ _ => ⟨rfl, rfl⟩, fun _ _ h _ _ => h, fun _ h => h⟩
theorem Stp.le (s : Sat K W H fp xf) (t : Stp W H f W' H') (h : ∀ a ∈ f, a ∈ fp ∨ H a = none) : W.Le W' := by
  have key : ∀ a, (W.G a ≠ none ∨ W.S a ≠ none) → H a ≠ none ∧ a ∉ f := by
    intro a z
    have ha : H a ≠ none := by
      rcases z with z | z
      · cases q : W.G a with
        | none => exact absurd q z
        | some o => rw [s.sub a o q]; exact fun z => nomatch z
      · cases q : W.S a with
        | none => exact absurd q z
        | some o =>
          obtain ⟨k, ps⟩ := o
          obtain ⟨_, o, e, _⟩ := s.vol a k ps q
          rw [e]; exact fun z => nomatch z
    refine ⟨ha, fun m => ?_⟩
    rcases h a m with m | m
    · obtain ⟨g1, g2, _⟩ := s.off a m
      rcases z with z | z
      · exact z g1
      · exact z g2
    · exact ha m
  refine ⟨fun a o e => ?_, fun a o e => ?_⟩
  · obtain ⟨k1, k2⟩ := key a (.inl (by rw [e]; exact fun z => nomatch z))
    rw [(t.wx a k1 k2).1]; exact e
  · obtain ⟨k1, k2⟩ := key a (.inr (by rw [e]; exact fun z => nomatch z))
    rw [(t.wx a k1 k2).2]; exact e
theorem Stp.trans (a : Stp W H f W1 H1) (b : Stp W1 H1 f1 W2 H2) (h : ∀ a ∈ f1, a ∈ f ∨ H a = none) : Stp W H f W2 H2 := by
  have nf : ∀ c, H c ≠ none → c ∉ f → c ∉ f1 := fun c hc hf m => (h c m).elim hf hc
  refine ⟨fun c hc hf => ?_, fun c o e hf hs => ?_, fun c hc => b.al c (a.al c hc)⟩
  · obtain ⟨x1, x2⟩ := a.wx c hc hf
    obtain ⟨y1, y2⟩ := b.wx c (a.al c hc) (nf c hc hf)
    exact ⟨y1.trans x1, y2.trans x2⟩
  · have hc : H c ≠ none := by rw [e]; exact fun z => nomatch z
    exact b.kp c o (a.kp c o e hf hs) (nf c hc hf) ((a.wx c hc hf).2.trans hs)
theorem Stp.tr0 (a : Stp W H [] W1 H1) (b : Stp W1 H1 [] W2 H2) : Stp W H [] W2 H2 := a.trans b fun _ m => by cases m
theorem Stp.up (a : Stp W H [] W1 H1) : Stp W H f W1 H1 := ⟨fun c h _ => a.wx c h (by simp), fun c o e _ s => a.kp c o e (by simp) s, a.al⟩
/-- a pure step keeps the slots -/
theorem EnvOk.keep {σ : L2.St} {e : Env} (h : EnvOk K W H σ e fp xf) (s : Sat K W H fp xf) (t : Stp W H [] W' H') : EnvOk K W' H' σ e fp xf :=
  h.mono (t.le s fun _ m => by cases m) fun a m o q => t.kp a o q (by simp) (m.elim (fun z => (s.off a z).2.1) fun z => (s.xof a z).2.1)
theorem some_ne {α : Type} {a : α} {o : Option α} (h : o = some a) : o ≠ none := by rw [h]; exact fun z => nomatch z
/-- a new object -/
theorem Stp.new {p : Addr} {o : HO} (h : H p = none) : Stp W H [] W (upd H p o) :=
  ⟨fun _ _ _ => ⟨rfl, rfl⟩, fun a u e _ _ => by rw [upd_ne (ne_of_none e h)]; exact e, fun a z => by
    by_cases e : a = p
    · rw [e, h] at z; exact absurd rfl z
    · rw [upd_ne e]; exact z⟩
theorem Sat.new {p : Addr} {o : HO} (s : Sat K W H fp xf) (h : H p = none) : Sat K W (upd H p o) fp xf := by
  have n : ∀ a, H a ≠ none → upd H p o a = H a := fun a z => upd_ne fun e => z (by rw [e]; exact h)
  have nn : ∀ a, H a ≠ none → upd H p o a ≠ none := fun a z => by rw [n a z]; exact z
  refine ⟨fun a u e => ?_, fun a k ps e => ?_, s.nd, fun a m => ?_, fun a m => ?_⟩
  · have q := s.sub a u e
    rw [n a (some_ne q)]; exact q
  · obtain ⟨g, u, q, v⟩ := s.vol a k ps e
    exact ⟨g, u, by rw [n a (some_ne q)]; exact q, v⟩
  · obtain ⟨a1, a2, a3⟩ := s.off a m
    exact ⟨a1, a2, nn a a3⟩
  · obtain ⟨a1, a2, a3⟩ := s.xof a m
    exact ⟨a1, a2, nn a a3⟩
/-- nothing is known of a free address -/
theorem Sat.free (s : Sat K W H fp xf) {p : Addr} (h : H p = none) : W.G p = none ∧ W.S p = none := by
  constructor
  · cases q : W.G p with
    | none => rfl
    | some o => rw [s.sub p o q] at h; cases h
  · cases q : W.S p with
    | none => rfl
    | some o =>
      obtain ⟨k, ps⟩ := o
      obtain ⟨_, o, e, _⟩ := s.vol p k ps q
      rw [e] at h; cases h

/-! ### freezing -/
/-- the world with the cells of f frozen -/
structure Frz (K : PySem.W.Frag) (W : Wd) (H : Hp) (f : List Addr) (W' : Wd) : Prop where
  out : ∀ a, a ∉ f → W'.G a = W.G a ∧ W'.S a = W.S a
  g : ∀ a ∈ f, ∀ o, W'.G a = some o → H a = some o
  s : ∀ a ∈ f, ∀ k ps, W'.S a = some (k, ps) → W'.G a = none ∧ H a = some (.dT []) ∧ k ≠ 0
theorem Frz.le (z : Frz K W H f W') (h : ∀ a ∈ f, W.G a = none ∧ W.S a = none) : W.Le W' := by
  refine ⟨fun a o e => ?_, fun a o e => ?_⟩
  · have n : a ∉ f := fun m => by rw [(h a m).1] at e; cases e
    rw [(z.out a n).1]; exact e
  · have n : a ∉ f := fun m => by rw [(h a m).2] at e; cases e
    rw [(z.out a n).2]; exact e
theorem Frz.trans {g : List Addr} (a : Frz K W H f W1) (b : Frz K W1 H g W2) (d : ∀ x ∈ f, x ∉ g) : Frz K W H (f ++ g) W2 := by
  refine ⟨fun x n => ?_, fun x m o e => ?_, fun x m k ps e => ?_⟩
  · have n1 : x ∉ f := fun z => n (List.mem_append_left _ z)
    have n2 : x ∉ g := fun z => n (List.mem_append_right _ z)
    exact ⟨(b.out x n2).1.trans (a.out x n1).1, (b.out x n2).2.trans (a.out x n1).2⟩
  · rcases List.mem_append.mp m with m | m
    · rw [(b.out x (d x m)).1] at e; exact a.g x m o e
    · exact b.g x m o e
  · rcases List.mem_append.mp m with m | m
    · rw [(b.out x (d x m)).2] at e
      rw [(b.out x (d x m)).1]
      exact a.s x m k ps e
    · exact b.s x m k ps e
def Wd.put (W : Wd) (p : Addr) (o : HO) : Wd := ⟨upd W.G p o, W.S⟩
theorem Frz.put (z : Frz K W H f W') {p : Addr} {o : HO} (h : H p = some o) (n : W.S p = none) (m : p ∉ f) : Frz K W H (p :: f) (W'.put p o) := by
  refine ⟨fun a na => ?_, fun a ma u e => ?_, fun a ma k ps e => ?_⟩
  · have n1 : a ≠ p := fun q => na (by rw [q]; exact List.mem_cons_self)
    have n2 : a ∉ f := fun q => na (List.mem_cons_of_mem _ q)
    exact ⟨(upd_ne n1).trans (z.out a n2).1, (z.out a n2).2⟩
  · by_cases q : a = p
    · subst q
      have e2 : upd W'.G a o a = some u := e
      rw [upd_same] at e2
      cases e2
      exact h
    · have e2 : upd W'.G p o a = some u := e
      rw [upd_ne q] at e2
      exact z.g a ((List.mem_cons.mp ma).resolve_left q) u e2
  · by_cases q : a = p
    · subst q
      have e2 : W'.S a = some (k, ps) := e
      rw [(z.out a m).2, n] at e2
      cases e2
    · have e2 : W'.S a = some (k, ps) := e
      obtain ⟨r1, r2⟩ := z.s a ((List.mem_cons.mp ma).resolve_left q) k ps e2
      exact ⟨(upd_ne q).trans r1, r2⟩
theorem Frz.leP (z : Frz K W H f W') {p : Addr} {o : HO} (n : W'.G p = none) : W'.Le (W'.put p o) := ⟨fun a u e => by
  have q : a ≠ p := fun q => by rw [q, n] at e; cases e
  exact (upd_ne q).trans e, fun _ _ e => e⟩
mutual
theorem freeze : ∀ {t : OT} {v : V} {d : D} {f : List Addr} {W : Wd}, Own K W H v t f → Fz t d → f.Nodup → (∀ a ∈ f, W.G a = none ∧ W.S a = none) → ∃ W', Frz K W H f W' ∧ Rep K W' v d ∧ (t.fzd ≠ none → W'.S = W.S)
  | .leaf _, v, _, _, W, .leaf r, .leaf _, _, _ => ⟨W, ⟨fun _ _ => ⟨rfl, rfl⟩, fun _ m => (by cases m), fun _ m => (by cases m)⟩, r, fun _ => rfl⟩
  | _, _, _, _, W, .lst (p := p) (f := f) h r, .lst z, nd, off => by
    obtain ⟨n1, n2⟩ := List.nodup_cons.mp nd
    obtain ⟨W', F, R, sk⟩ := freezeAll r z n2 fun a m => off a (List.mem_cons_of_mem _ m)
    have g : W'.G p = none := (F.out p n1).1.trans (off p List.mem_cons_self).1
    exact ⟨_, F.put h (off p List.mem_cons_self).2 n1, .lst upd_same (R.mono (F.leP g)), fun q => sk fun q2 => q (by rw [OT.fzd, q2] <;> rfl)⟩
  | _, _, _, _, W, .tup (p := p) (f := f) h r, .tup z, nd, off => by
    obtain ⟨n1, n2⟩ := List.nodup_cons.mp nd
    obtain ⟨W', F, R, sk⟩ := freezeAll r z n2 fun a m => off a (List.mem_cons_of_mem _ m)
    have g : W'.G p = none := (F.out p n1).1.trans (off p List.mem_cons_self).1
    exact ⟨_, F.put h (off p List.mem_cons_self).2 n1, .tup upd_same (R.mono (F.leP g)), fun q => sk fun q2 => q (by rw [OT.fzd, q2] <;> rfl)⟩
  | _, _, _, _, W, .ins (p := p) (f := f) h r, .ins z, nd, off => by
    obtain ⟨n1, n2⟩ := List.nodup_cons.mp nd
    obtain ⟨W', F, R, sk⟩ := freezeAll r z n2 fun a m => off a (List.mem_cons_of_mem _ m)
    have g : W'.G p = none := (F.out p n1).1.trans (off p List.mem_cons_self).1
    exact ⟨_, F.put h (off p List.mem_cons_self).2 n1, .ins upd_same (R.mono (F.leP g)), fun q => sk fun q2 => q (by rw [OT.fzd, q2] <;> rfl)⟩
  | _, _, _, _, W, .d0 (p := p) h, .d0 k ps, _, off => by
    obtain ⟨o1, o2⟩ := off p List.mem_cons_self
    refine ⟨⟨W.G, fun a => if a = p then some (k + 1, ps) else W.S a⟩, ⟨fun a n => ?_, fun a m o e => ?_, fun a m k' ps' e => ?_⟩, .vol (if_pos rfl), fun q => absurd (by rw [OT.fzd]) q⟩
    · have q : a ≠ p := fun z => n (by rw [z]; exact List.mem_cons_self)
      exact ⟨rfl, if_neg q⟩
    · rw [List.mem_singleton.mp m] at e
      rw [show W.G p = none from o1] at e; cases e
    · rw [List.mem_singleton.mp m] at e ⊢
      have e2 : (if p = p then some (k + 1, ps) else W.S p) = some (k', ps') := e
      rw [if_pos rfl] at e2
      cases e2
      exact ⟨o1, h, Nat.succ_ne_zero k⟩
theorem freezeAll : ∀ {ts : List OT} {vs : List V} {ds : List D} {f : List Addr} {W : Wd}, OwnAll K W H vs ts f → FzAll ts ds → f.Nodup → (∀ a ∈ f, W.G a = none ∧ W.S a = none) → ∃ W', Frz K W H f W' ∧ RepAll K W' vs ds ∧ (fzdAll ts ≠ none → W'.S = W.S)
  | _, _, _, _, W, .nil, .nil, _, _ => ⟨W, ⟨fun _ _ => ⟨rfl, rfl⟩, fun _ m => (by cases m), fun _ m => (by cases m)⟩, .nil, fun _ => rfl⟩
  | _, _, _, _, W, .cons (f := f) (g := g) h r, .cons z zs, nd, off => by
    obtain ⟨n1, n2, n3⟩ := List.nodup_append.mp nd
    obtain ⟨W1, F1, R1, k1⟩ := freeze h z n1 fun a m => off a (List.mem_append_left _ m)
    have d : ∀ x ∈ f, x ∉ g := fun x m1 m2 => n3 x m1 x m2 rfl
    have off2 : ∀ a ∈ g, W1.G a = none ∧ W1.S a = none := fun a m => by
      have n : a ∉ f := fun q => d a q m
      obtain ⟨e1, e2⟩ := F1.out a n
      obtain ⟨o1, o2⟩ := off a (List.mem_append_right _ m)
      exact ⟨e1.trans o1, e2.trans o2⟩
    have l1 : W.Le W1 := F1.le fun a m => off a (List.mem_append_left _ m)
    obtain ⟨W2, F2, R2, k2⟩ := freezeAll (r.mono l1 fun _ _ _ e => e) zs n2 off2
    refine ⟨W2, F1.trans F2 d, .cons (R1.mono (F2.le off2)) R2, fun q => ?_⟩
    rw [fzdAll] at q
    rw [k2 fun q2 => q (by rw [q2]; cases OT.fzd _ <;> rfl), k1 fun q1 => q (by rw [q1] <;> rfl)]
end
/-- the state behind a freeze of f -/
theorem Frz.sat (z : Frz K W H f W') (s : Sat K W H fp xf) (h : ∀ a ∈ f, W.G a = none ∧ W.S a = none ∧ H a ≠ none) (d : ∀ a ∈ f, a ∉ fp ∧ a ∉ xf) : Sat K W' H fp xf := by
  have l := z.le fun a m => ⟨(h a m).1, (h a m).2.1⟩
  refine ⟨fun a o e => ?_, fun a k ps e => ?_, s.nd, fun a m => ?_, fun a m => ?_⟩
  · by_cases m : a ∈ f
    · exact z.g a m o e
    · rw [(z.out a m).1] at e; exact s.sub a o e
  · by_cases m : a ∈ f
    · obtain ⟨e1, e2, e3⟩ := z.s a m k ps e
      refine ⟨e1, _, e2, ?_⟩
      cases k with
      | zero => exact absurd rfl e3
      | succ k => exact ⟨[], rfl, List.nodup_nil, fun _ m => by cases m⟩
    · rw [(z.out a m).2] at e
      obtain ⟨e1, o, e2, e3⟩ := s.vol a k ps e
      refine ⟨(z.out a m).1.trans e1, o, e2, ?_⟩
      cases k with
      | zero => exact e3
      | succ k =>
        obtain ⟨kvs, q1, q2, q3⟩ := e3
        exact ⟨kvs, q1, q2, fun p hp => let ⟨d, w1, w2⟩ := q3 p hp; ⟨d, w1, w2.mono l⟩⟩
  · have n : a ∉ f := fun q => (d a q).1 m
    obtain ⟨a1, a2, a3⟩ := s.off a m
    exact ⟨(z.out a n).1.trans a1, (z.out a n).2.trans a2, a3⟩
  · have n : a ∉ f := fun q => (d a q).2 m
    obtain ⟨a1, a2, a3⟩ := s.xof a m
    exact ⟨a1, (z.out a n).2.trans a2, a3⟩
theorem Frz.stp (z : Frz K W H f W') : Stp W H f W' H := ⟨fun a _ n => z.out a n, fun _ _ e _ _ => e, fun _ h => h⟩
end
end R
/-! ## the rules, expressions -/
namespace R
open PySem PySem.Spec PyProof.Rows L2
/-- m's meaning at the slots and the heap -/
def LP (K : PySem.W.Frag) (m : DE) : TE := fun σ H Q => ∃ (W : Wd) (env : Env) (fp xf : List Addr) (Q0 : Rs → Prop), EnvOk K W H σ env fp xf ∧ Sat K W H fp xf ∧ m env Q0 ∧
  ∀ r, Q0 r → ∀ v W' H', Stp W H [] W' H' → Sat K W' H' fp xf → ResOk K H fp W' H' v r → Q v H'
def LT (K : PySem.W.Frag) (m : DT) : TT := fun σ H Q => ∃ (W : Wd) (env : Env) (fp xf : List Addr) (Q0 : Bool → Prop), EnvOk K W H σ env fp xf ∧ Sat K W H fp xf ∧ m env Q0 ∧
  ∀ r, Q0 r → ∀ W' H', Stp W H [] W' H' → Sat K W' H' fp xf → Q r H'
def Fresh (H : Hp) (W' : Wd) (g : List Addr) : Prop := g.Nodup ∧ ∀ a ∈ g, H a = none ∧ W'.G a = none ∧ W'.S a = none
def LA (K : PySem.W.Frag) (m : DA) : TA := fun σ H Q => ∃ (W : Wd) (env : Env) (fp xf : List Addr) (Q0 : List Rs → Prop), EnvOk K W H σ env fp xf ∧ Sat K W H fp xf ∧ m env Q0 ∧
  ∀ rs, Q0 rs → ∀ vs W' H' g, Stp W H [] W' H' → Sat K W' H' fp xf → ResAll K H fp W' H' vs rs g → Fresh H W' g → Q vs H'
theorem pe_imp {X : Cx} {e : Expr} {t t' : TE} (h : PE X e t) (k : ∀ σ H Q, t' σ H Q → t σ H Q) : PE X e t' := ⟨fun pins s σ H Q I w => h.run pins s σ H Q I (k σ H Q w)⟩
theorem pt_imp {X : Cx} {e : Expr} {t t' : TT} (h : PT X e t) (k : ∀ σ H Q, t' σ H Q → t σ H Q) : PT X e t' := ⟨fun pins s σ H Q I w => h.run pins s σ H Q I (k σ H Q w)⟩
theorem pw_imp {X : Cx} {e : Expr} {t t' : TT} (h : PW X e t) (k : ∀ σ H Q, t' σ H Q → t σ H Q) : PW X e t' := ⟨fun wh pins s σ H Q I w => h.run wh pins s σ H Q I (k σ H Q w)⟩
theorem pa_imp {X : Cx} {e : List Expr} {t t' : TA} (h : PA X e t) (k : ∀ σ H Q, t' σ H Q → t σ H Q) : PA X e t' := ⟨fun pos pins s σ H Q I w => h.run pos pins s σ H Q I (k σ H Q w)⟩
theorem ps_imp {X : Cx} {e : Stmt} {t t' : TS} (h : PS X e t) (k : ∀ D σ H, t' D σ H → t D σ H) : PS X e t' := ⟨fun pins s σ H D I w => h.run pins s σ H D I (k D σ H w)⟩
theorem pss_imp {X : Cx} {e : List Stmt} {t t' : TS} (h : PSs X e t) (k : ∀ D σ H, t' D σ H → t D σ H) : PSs X e t' := ⟨fun pins s σ H D I w => h.run pins s σ H D I (k D σ H w)⟩
section
variable {K : PySem.W.Frag} {W W1 W2 W' : Wd} {H H1 H2 H' : Hp} {f f1 fp xf : List Addr} {σ : L2.St} {Q : VK} {r : Rs} {v : V} {env : Env}
theorem Stp.kpS (t : Stp W H [] W' H') {a : Addr} (h : H a ≠ none) : W'.G a = W.G a ∧ W'.S a = W.S a := t.wx a h (by simp)
/-- an operand's value behind a further pure step -/
theorem ResOk.keep (h : ResOk K H fp W1 H1 v r) (t : Stp W1 H1 [] W2 H2) (l : W1.Le W2) : ResOk K H fp W2 H2 v r := by
  cases r with
  | fz d => exact Rep.mono l h
  | nw x =>
    obtain ⟨f, o, nd, z⟩ := h
    refine ⟨f, o.mono l fun a m u e => t.kp a u e (by simp) (z a m).2.2, nd, fun a m => ?_⟩
    obtain ⟨e1, e2⟩ := t.kpS (o.alloc a m)
    obtain ⟨z1, z2, z3⟩ := z a m
    exact ⟨z1, e1.trans z2, e2.trans z3⟩
  | br x =>
    obtain ⟨f, o, z⟩ := h
    exact ⟨f, o.mono l fun a m u e => t.kp a u e (by simp) (z a m), fun a m => (t.kpS (o.alloc a m)).2.trans (z a m)⟩
  | ex x =>
    obtain ⟨f, o, z⟩ := h
    exact ⟨f, o.mono l fun a m u e => t.kp a u e (by simp) (z a m).1, fun a m => ⟨(t.kpS (o.alloc a m)).2.trans (z a m).1, (z a m).2⟩⟩
/-- seen from an earlier start -/
theorem ResOk.back (h : ResOk K H1 fp W2 H2 v r) (t : ∀ a, H a ≠ none → H1 a ≠ none) : ResOk K H fp W2 H2 v r := by
  cases r with
  | fz d => exact h
  | nw x =>
    obtain ⟨f, o, nd, z⟩ := h
    refine ⟨f, o, nd, fun a m => ⟨?_, (z a m).2⟩⟩
    cases q : H a with
    | none => rfl
    | some u => exact absurd (z a m).1 (t a (by rw [q]; exact fun z => nomatch z))
  | br x => exact h
  | ex x => exact h
theorem fresh_back {g : List Addr} (h : Fresh H1 W2 g) (t : ∀ a, H a ≠ none → H1 a ≠ none) : Fresh H W2 g := ⟨h.1, fun a m => ⟨by
  cases q : H a with
  | none => rfl
  | some u => exact absurd (h.2 a m).1 (t a (by rw [q]; exact fun z => nomatch z)), (h.2 a m).2⟩⟩
theorem ResAll.back {vs : List V} {rs : List Rs} {g : List Addr} (h : ResAll K H1 fp W2 H2 vs rs g) : ResAll K H fp W2 H2 vs rs g := by
  induction h with
  | nil => exact .nil
  | fz r _ ih => exact .fz r ih
  | nw r _ ih => exact .nw r ih
  | br r z _ ih => exact .br r z ih
  | ex r z _ ih => exact .ex r z ih
/-- what is new is frozen (cells of the evaluation alone) -/
theorem ffz_ok (S : Sat K W H fp xf) (t : Stp W H [] W1 H1) (S1 : Sat K W1 H1 fp xf) (o : ResOk K H fp W1 H1 v r) : ∃ W', Stp W H [] W' H1 ∧ Sat K W' H1 fp xf ∧ W1.Le W' ∧ ResOk K H fp W' H1 v r.ffz := by
  cases r with
  | fz d => exact ⟨W1, t, S1, .refl _, o⟩
  | br d => exact ⟨W1, t, S1, .refl _, o⟩
  | ex d => exact ⟨W1, t, S1, .refl _, o⟩
  | nw x =>
    cases q : x.fzd with
    | none => exact ⟨W1, t, S1, .refl _, by show ResOk K H fp W1 H1 v (match x.fzd with | some d => .fz d | none => .nw x); rw [q]; exact o⟩
    | some d =>
      obtain ⟨f, ow, nd, z⟩ := o
      obtain ⟨W', F, R, _⟩ := freeze ow (Fz.of q) nd fun a m => (z a m).2
      have za : ∀ a ∈ f, a ∉ fp ∧ a ∉ xf := fun a m => ⟨fun m2 => (S.off a m2).2.2 (z a m).1, fun m2 => (S.xof a m2).2.2 (z a m).1⟩
      refine ⟨W', ?_, F.sat S1 (fun a m => ⟨(z a m).2.1, (z a m).2.2, ow.alloc a m⟩) za, F.le fun a m => (z a m).2, ?_⟩
      · exact t.trans F.stp fun a m => .inr (z a m).1
      · show ResOk K H fp W' H1 v (match x.fzd with | some d => .fz d | none => .nw x)
        rw [q]; exact R
/-- the operands of a pure operation -/
structure Ops (K : PySem.W.Frag) (H : Hp) (Q : VK) (Q0 : Rs → Prop) (W2 : Wd) (H2 : Hp) (W : Wd) (fp xf : List Addr) : Prop where
  S : Sat K W H fp xf
  t : Stp W H [] W2 H2
  S2 : Sat K W2 H2 fp xf
  k : ∀ r, Q0 r → ∀ v W' H', Stp W H [] W' H' → Sat K W' H' fp xf → ResOk K H fp W' H' v r → Q v H'
theorem Ops.fin {Q0 : Rs → Prop} (o : Ops K H Q Q0 W2 H2 W fp xf) {d : D} (q : Q0 (.fz d)) (h : Rep K W2 v d) : Q v H2 := o.k _ q v W2 H2 o.t o.S2 h
/-- a value given back as it is -/
theorem Ops.res {Q0 : Rs → Prop} (o : Ops K H Q Q0 W2 H2 W fp xf) (q : Q0 r) (h : ResOk K H fp W2 H2 v r) : Q v H2 := o.k _ q v W2 H2 o.t o.S2 h
/-- a new list whose items are frozen -/
theorem OwnAll.leafs {vs : List V} : ∀ {vs : List V} {ds : List D}, RepAll K W vs ds → OwnAll K W H vs (ds.map .leaf) []
  | _, _, .nil => .nil
  | _, _, .cons r rs => .cons (f := []) (g := []) (.leaf r) (OwnAll.leafs (vs := []) rs)
theorem Ops.newL {Q0 : Rs → Prop} (o : Ops K H Q Q0 W2 H2 W fp xf) {ds : List D} {vs : List V} (q : Q0 (.nw (.lst (ds.map .leaf)))) (h : RepAll K W2 vs ds) (p : Addr) (n : H2 p = none) : Q (.ref p) (upd H2 p (.lst vs)) := by
  have hn : H p = none := by
    cases z : H p with
    | none => rfl
    | some u => exact absurd n (o.t.al p (some_ne z))
  refine o.k _ q _ W2 _ (o.t.tr0 (.new n)) (o.S2.new n) ⟨[p], .lst upd_same (OwnAll.leafs (vs := []) h), List.nodup_cons.mpr ⟨by simp, List.nodup_nil⟩, fun a m => ?_⟩
  rw [List.mem_singleton.mp m]
  exact ⟨hn, (o.S2.free n).1, (o.S2.free n).2⟩
theorem Ops.newT {Q0 : Rs → Prop} (o : Ops K H Q Q0 W2 H2 W fp xf) {ds : List D} {vs : List V} (q : Q0 (.nw (.tup (ds.map .leaf)))) (h : RepAll K W2 vs ds) (p : Addr) (n : H2 p = none) : Q (.ref p) (upd H2 p (.tup vs)) := by
  have hn : H p = none := by
    cases z : H p with
    | none => rfl
    | some u => exact absurd n (o.t.al p (some_ne z))
  refine o.k _ q _ W2 _ (o.t.tr0 (.new n)) (o.S2.new n) ⟨[p], .tup upd_same (OwnAll.leafs (vs := []) h), List.nodup_cons.mpr ⟨by simp, List.nodup_nil⟩, fun a m => ?_⟩
  rw [List.mem_singleton.mp m]
  exact ⟨hn, (o.S2.free n).1, (o.S2.free n).2⟩
/-- two operands -/
theorem LP.two {ma mb : DE} {R : Rs → Rs → (Rs → Prop) → Prop} {q : V → V → Hp → Prop} (h : LP K (mOp R ma mb) σ H Q)
    (hop : ∀ (W : Wd) (fp xf : List Addr) (Q0 : Rs → Prop) r1 r2 v1 v2 W2 H2, R r1 r2 Q0 → Ops K H Q Q0 W2 H2 W fp xf → ResOk K H fp W2 H2 v1 r1 → ResOk K H fp W2 H2 v2 r2 → q v1 v2 H2) : LP K ma σ H fun x H1 => LP K mb σ H1 fun y H2 => q x y H2 := by
  obtain ⟨W, env, fp, xf, Q0, E, S, hm, k⟩ := h
  refine ⟨W, env, fp, xf, _, E, S, hm, fun r1 h1 v1 W1' H1 t1' S1' o1' => ?_⟩
  obtain ⟨W1, t1, S1, _, o1⟩ := ffz_ok S t1' S1' o1'
  refine ⟨W1, env, fp, xf, _, E.keep S t1, S1, h1, fun r2 h2 v2 W2' H2 t2' S2' o2' => ?_⟩
  obtain ⟨W2, t2, S2, _, o2⟩ := ffz_ok S1 t2' S2' o2'
  have l := t2.le S1 fun _ m => by cases m
  exact hop W fp xf Q0 r1.ffz r2.ffz v1 v2 W2 H2 h2 ⟨S, t1.tr0 t2, S2, k⟩ (o1.keep t2 l) (o2.back t1.al)
theorem LP.one {ma : DE} {R : Rs → (Rs → Prop) → Prop} {q : V → Hp → Prop} (h : LP K (mUn R ma) σ H Q)
    (hop : ∀ (W : Wd) (fp xf : List Addr) (Q0 : Rs → Prop) r1 v1 W2 H2, R r1 Q0 → Ops K H Q Q0 W2 H2 W fp xf → ResOk K H fp W2 H2 v1 r1 → q v1 H2) : LP K ma σ H q := by
  obtain ⟨W, env, fp, xf, Q0, E, S, hm, k⟩ := h
  refine ⟨W, env, fp, xf, _, E, S, hm, fun r1 h1 v1 W1' H1 t1' S1' o1' => ?_⟩
  obtain ⟨W1, t1, S1, _, o1⟩ := ffz_ok S t1' S1' o1'
  exact hop W fp xf Q0 r1.ffz v1 W1 H1 h1 ⟨S, t1, S1, k⟩ o1
/-- a list's or tuple's items -/
theorem OwnAll.reps : ∀ {vs : List V} {ts : List OT} {ds : List D} {f : List Addr}, OwnAll K W H vs ts f → leaves ts = some ds → RepAll K W vs ds
  | _, _, _, _, .nil, h => by cases h; exact .nil
  | _, .leaf d :: ts, es, _, .cons (.leaf r) rs, h => by
    cases q : leaves ts with
    | none => rw [leaves, q] at h; cases h
    | some ds =>
      rw [leaves, q] at h
      cases h
      exact .cons r (OwnAll.reps rs q)
theorem els_L {ds : List D} (h : r.els true = some ds) (o : ResOk K H fp W2 H2 v r) (S : Sat K W2 H2 fp xf) : ∃ p vs, v = .ref p ∧ H2 p = some (.lst vs) ∧ RepAll K W2 vs ds := by
  unfold Rs.els at h
  split at h
  · cases h
    cases (show Rep K W2 v (.lst ds) from o) with
    | lst g r => exact ⟨_, _, rfl, S.sub _ _ g, r⟩
  · cases h
  · obtain ⟨f, o, _⟩ := o
    cases o with
    | lst g r => exact ⟨_, _, rfl, g, r.reps h⟩
  · obtain ⟨f, o, _⟩ := o
    cases o with
    | lst g r => exact ⟨_, _, rfl, g, r.reps h⟩
  · cases h
  · cases h
  · cases h
theorem els_T {ds : List D} (h : r.els false = some ds) (o : ResOk K H fp W2 H2 v r) (S : Sat K W2 H2 fp xf) : ∃ p vs, v = .ref p ∧ H2 p = some (.tup vs) ∧ RepAll K W2 vs ds := by
  unfold Rs.els at h
  split at h
  · cases h
  · cases h
    cases (show Rep K W2 v (.tup ds) from o) with
    | tup g r => exact ⟨_, _, rfl, S.sub _ _ g, r⟩
  · cases h
  · cases h
  · obtain ⟨f, o, _⟩ := o
    cases o with
    | tup g r => exact ⟨_, _, rfl, g, r.reps h⟩
  · obtain ⟨f, o, _⟩ := o
    cases o with
    | tup g r => exact ⟨_, _, rfl, g, r.reps h⟩
  · cases h
theorem RepAll.len {vs : List V} {ds : List D} (h : RepAll K W vs ds) : vs.length = ds.length := by
  induction ds generalizing vs with
  | nil => cases h; rfl
  | cons d ds ih =>
    cases h with
    | cons r rs => rw [List.length_cons, List.length_cons, ih rs]
theorem RepAll.app : ∀ {vs us : List V} {ds es : List D}, RepAll K W vs ds → RepAll K W us es → RepAll K W (vs ++ us) (ds ++ es)
  | _, _, _, _, .nil, h => h
  | _, _, _, _, .cons r rs, h => .cons r (RepAll.app rs h)
theorem RepAll.rep {vs : List V} {ds : List D} (h : RepAll K W vs ds) : ∀ n : Nat, RepAll K W (List.replicate n vs).flatten (List.replicate n ds).flatten
  | 0 => .nil
  | n + 1 => by
    rw [List.replicate_succ, List.replicate_succ, List.flatten_cons, List.flatten_cons]
    exact RepAll.app h (RepAll.rep h n)
/-- an int operand -/
theorem int_of {i : Int} (h : ResOk K H fp W' H' v (.fz (.int i))) : v = .int i := by
  have h : Rep K W' v (.int i) := h
  cases h
  rfl
theorem bl_of {i : Bool} (h : ResOk K H fp W' H' v (.fz (.bl i))) : v = .bl i := by
  have h : Rep K W' v (.bl i) := h
  cases h
  rfl
theorem str_of {i : Str} (h : ResOk K H fp W' H' v (.fz (.str i))) : v = .str i := by
  have h : Rep K W' v (.str i) := h
  cases h
  rfl
theorem i2_inv {C : Int → Int → Prop} {g : Int → Int → D} {x y : Rs} {Q : Rs → Prop} (h : i2 C g x y Q) : ∃ i j, x = .fz (.int i) ∧ y = .fz (.int j) ∧ C i j ∧ Q (.fz (g i j)) := by
  unfold i2 at h
  split at h
  · exact ⟨_, _, rfl, rfl, h⟩
  · exact h.elim
/-- names -/
theorem EnvOk.get0 {σ : L2.St} {fp0 xf0 : List Addr} (E : EnvOk K W H σ env fp0 xf0) : ∀ {i : Nat} {r : Rs}, env[i]? = some (some r) → (∀ a ∈ fp0, W.S a = none) → (∀ a ∈ xf0, W.S a = none ∧ a ∉ fp) → ∃ v, σ[i]? = some (some v) ∧ ResOk K H fp W H v r.rd ∧ (∀ d, r = .fz d → Rep K W v d) := by
  induction E with
  | nil => intro _ _ e; simp at e
  | no _ ih =>
    intro i r e a b
    cases i with
    | zero => simp at e
    | succ i => exact ih (by simpa using e) a b
  | fz q _ ih =>
    intro i r e a b
    cases i with
    | zero =>
      simp at e
      subst e
      exact ⟨_, rfl, q, fun d z => by cases z; exact q⟩
    | succ i => exact ih (by simpa using e) a b
  | nw q _ ih =>
    intro i r e a b
    cases i with
    | zero =>
      simp at e
      subst e
      exact ⟨_, rfl, ⟨_, q, fun c m => a c (List.mem_append_left _ m)⟩, fun d z => by cases z⟩
    | succ i => exact ih (by simpa using e) (fun c m => a c (List.mem_append_right _ m)) b
  | ex q _ ih =>
    intro i r e a b
    cases i with
    | zero =>
      simp at e
      subst e
      exact ⟨_, rfl, ⟨_, q, fun c m => b c (List.mem_append_left _ m)⟩, fun d z => by cases z⟩
    | succ i => exact ih (by simpa using e) a fun c m => b c (List.mem_append_right _ m)
theorem EnvOk.get {i : Nat} {σ : L2.St} (E : EnvOk K W H σ env fp xf) (e : env[i]? = some (some r)) (S : Sat K W H fp xf) : ∃ v, σ[i]? = some (some v) ∧ ResOk K H fp W H v r.rd ∧ (∀ d, r = .fz d → Rep K W v d) :=
  E.get0 e (fun a m => (S.off a m).2.1) fun a m => ⟨(S.xof a m).2.1, (S.xof a m).1⟩
end
section
variable {X : Cx} {a b c : Expr} {ma mb mc : DE} {pos : Pos} {ta tb : DT} {rest : List Expr}
theorem dp_var {i : Nat} {x : Str} (hN : X.N[i]? = some x := by rfl) (hv : Vis X.env.scope x := by first | exact Or.inl rfl | exact Or.inr (Or.inl rfl) | exact Or.inr (Or.inr rfl)) (hd : (x == ("__debug__" : Str)) = false := by decide)
    (hcd : (x == ("__classdict__" : Str)) = false := by decide) : PE X (.Name x pos) (LP X.K (mVar i)) := pe_imp (pe_var (i := i) hN hv hd hcd) fun σ H Q h => by
  obtain ⟨W, env, fp, xf, Q0, E, S, ⟨r, e, hm⟩, k⟩ := h
  obtain ⟨v, e2, o, _⟩ := E.get e S
  exact ⟨v, e2, k _ hm v W H .refl S o⟩
theorem dp_c {d : D} {v : V} {e : Expr} (h : PE X e (tC v)) (r : ∀ W, Rep X.K W v d) : PE X e (LP X.K (mC d)) := pe_imp h fun σ H Q h => by
  obtain ⟨W, env, fp, xf, Q0, E, S, hm, k⟩ := h
  exact k _ hm v W H .refl S (r W)
theorem dp_int {i j pos} : PE X (.Constant (.int i) j pos) (LP X.K (mC (.int i))) := dp_c pe_int fun _ => .int i
theorem dp_bl {i j pos} : PE X (.Constant (.bool i) j pos) (LP X.K (mC (.bl i))) := dp_c pe_bl fun _ => .bl i
theorem dp_non {j pos} : PE X (.Constant .none j pos) (LP X.K (mC .non)) := dp_c pe_non fun _ => .non
theorem dp_str {i j pos} : PE X (.Constant (.str i) j pos) (LP X.K (mC (.str i))) := dp_c pe_str fun _ => .str i
theorem dp_glob {x : Str} {v : V} {u : Value} {d : D} (hg : Gl X x) (hm : X.mg x = some u) (r : RelV v u) (q : ∀ W, Rep X.K W v d) (hd : (x == ("__debug__" : Str)) = false := by decide) : PE X (.Name x pos) (LP X.K (mC d)) := dp_c (pe_glob hg hm r hd) q
/-- ints -/
theorem r_i2 {K : PySem.W.Frag} {σ : L2.St} {H : Hp} {Q : VK} {C C' : Int → Int → Prop} {g : Int → Int → D} {g' : Int → Int → V} (hC : ∀ i j, C i j → C' i j) (hg : ∀ i j W, C i j → Rep K W (g' i j) (g i j)) (h : LP K (mOp (i2 C g) ma mb) σ H Q) : tOp (rI C' g') (LP K ma) (LP K mb) σ H Q :=
  h.two fun W fp xf Q0 r1 r2 v1 v2 W2 H2 hr O o1 o2 => by
    obtain ⟨i, j, rfl, rfl, hc, q⟩ := i2_inv hr
    exact ⟨i, j, int_of o1, int_of o2, hC i j hc, O.fin q (hg i j W2 hc)⟩
theorem r_i0 {K : PySem.W.Frag} {σ : L2.St} {H : Hp} {Q : VK} {C : Int → Int → Prop} {g : Int → Int → D} {g' : Int → Int → V} (hg : ∀ i j W, C i j → Rep K W (g' i j) (g i j)) (h : LP K (mOp (i2 C g) ma mb) σ H Q) : tOp (rI0 g') (LP K ma) (LP K mb) σ H Q :=
  h.two fun W fp xf Q0 r1 r2 v1 v2 W2 H2 hr O o1 o2 => by
    obtain ⟨i, j, rfl, rfl, hc, q⟩ := i2_inv hr
    exact ⟨i, j, int_of o1, int_of o2, O.fin q (hg i j W2 hc)⟩
theorem dp_sub (ha : PE X a (LP X.K ma)) (hb : PE X b (LP X.K mb)) : PE X (.BinOp a .Sub b pos) (LP X.K (mOp oSub ma mb)) := pe_imp (pe_op op_sub ha hb) fun _ _ _ h => r_i0 (fun _ _ _ _ => .int _) h
theorem dp_mod (ha : PE X a (LP X.K ma)) (hb : PE X b (LP X.K mb)) : PE X (.BinOp a .Mod b pos) (LP X.K (mOp oMod ma mb)) := pe_imp (pe_op op_mod ha hb) fun _ _ _ h => r_i2 (fun _ _ c => c) (fun _ _ _ _ => .int _) h
theorem dp_div (ha : PE X a (LP X.K ma)) (hb : PE X b (LP X.K mb)) : PE X (.BinOp a .FloorDiv b pos) (LP X.K (mOp oDiv ma mb)) := pe_imp (pe_op op_fdivW ha hb) fun _ _ _ h => r_i2 (fun _ _ c => c) (fun _ _ _ _ => .int _) h
theorem dp_pow (ha : PE X a (LP X.K ma)) (hb : PE X b (LP X.K mb)) : PE X (.BinOp a .Pow b pos) (LP X.K (mOp oPow ma mb)) := pe_imp (pe_op op_pow ha hb) fun _ _ _ h => r_i2 (fun _ _ c => c) (fun _ _ _ _ => .int _) h
theorem dp_lt (ha : PE X a (LP X.K ma)) (hb : PE X b (LP X.K mb)) : PE X (.Compare a [.Lt] [b] pos) (LP X.K (mOp oLt ma mb)) := pe_imp (pe_cmpR op_lt ha hb (nomark _)) fun _ _ _ h => r_i0 (fun _ _ _ _ => .bl _) h
theorem dp_le (ha : PE X a (LP X.K ma)) (hb : PE X b (LP X.K mb)) : PE X (.Compare a [.LtE] [b] pos) (LP X.K (mOp oLe ma mb)) := pe_imp (pe_cmpR op_le ha hb (nomark _)) fun _ _ _ h => r_i0 (fun _ _ _ _ => .bl _) h
theorem dp_gt (ha : PE X a (LP X.K ma)) (hb : PE X b (LP X.K mb)) : PE X (.Compare a [.Gt] [b] pos) (LP X.K (mOp oGt ma mb)) := pe_imp (pe_cmpR op_gt ha hb (nomark _)) fun _ _ _ h => r_i0 (fun _ _ _ _ => .bl _) h
theorem dp_ge (ha : PE X a (LP X.K ma)) (hb : PE X b (LP X.K mb)) : PE X (.Compare a [.GtE] [b] pos) (LP X.K (mOp oGe ma mb)) := pe_imp (pe_cmpR op_ge ha hb (nomark _)) fun _ _ _ h => r_i0 (fun _ _ _ _ => .bl _) h
/-- an expression as a test -/
theorem dt_val {e : Expr} (h : PE X e (LP X.K ma)) (he : ∀ whole, isTrue e X.env whole = (do let v ← whole; standAt e.pos; holding [v] (truthy v)) := by intro _; rfl) : PT X e (LT X.K (mT ma)) := pt_imp (pt_val h he) fun σ H Q h => by
  obtain ⟨W, env, fp, xf, Q0, E, S, hm, k⟩ := h
  refine ⟨W, env, fp, xf, _, E, S, hm, fun r1 h1 v1 W1 H1 t1 S1 o1 => ?_⟩
  split at h1
  · exact ⟨_, bl_of o1, k _ h1 W1 H1 t1 S1⟩
  · exact h1.elim
theorem sizeL_eq : sizeL = sizeLine := sizeLine_eq.symm
/-- + -/
def rAddAll (K : PySem.W.Frag) : R2 := fun x y H Q => (rI0 (fun i j => .int (i + j))) x y H Q ∨ (∃ i j, x = .str i ∧ y = .str j ∧ i.length + j.length ≤ sizeLine ∧ Q (.str (i ++ j)) H) ∨ rCat x y H Q ∨ rCatT K x y H Q
theorem op_addAll : OpR X (binaryOp .Add) (rAddAll X.K) := op_add.or (op_add_str.or (op_cat.or op_catT))
theorem dp_add (ha : PE X a (LP X.K ma)) (hb : PE X b (LP X.K mb)) : PE X (.BinOp a .Add b pos) (LP X.K (mOp oAdd ma mb)) := pe_imp (pe_op op_addAll ha hb) fun σ H Q h =>
  h.two fun W fp xf Q0 r1 r2 v1 v2 W2 H2 hr O o1 o2 => by
    unfold oAdd at hr
    split at hr
    · exact .inl ⟨_, _, int_of o1, int_of o2, O.fin hr (.int _)⟩
    · exact .inr (.inl ⟨_, _, str_of o1, str_of o2, by rw [← sizeL_eq]; exact hr.1, O.fin hr.2 (.str _)⟩)
    · rcases hr with ⟨ds, es, e1, e2, hl, q⟩ | ⟨ds, es, e1, e2, n1, n2, hl, q⟩
      · obtain ⟨p, vs, rfl, g1, s1⟩ := els_L e1 o1 O.S2
        obtain ⟨p2, us, rfl, g2, s2⟩ := els_L e2 o2 O.S2
        exact .inr (.inr (.inl ⟨p, p2, vs, us, rfl, rfl, g1, g2, by rw [← sizeL_eq, s1.len, s2.len]; exact hl, fun l n => O.newL q (s1.app s2) l n⟩))
      · obtain ⟨p, vs, rfl, g1, s1⟩ := els_T e1 o1 O.S2
        obtain ⟨p2, us, rfl, g2, s2⟩ := els_T e2 o2 O.S2
        have m1 : vs ≠ [] := fun z => n1 (List.eq_nil_of_length_eq_zero (by rw [← s1.len, z] <;> rfl))
        have m2 : us ≠ [] := fun z => n2 (List.eq_nil_of_length_eq_zero (by rw [← s2.len, z] <;> rfl))
        exact .inr (.inr (.inr ⟨p, p2, vs, us, rfl, rfl, .of g1, .of g2, m1, by rw [← sizeL_eq, s1.len, s2.len]; exact hl, fun z => absurd z m2, fun _ l n => O.newT q (s1.app s2) l n⟩))
/-- * -/
def rMulAll : R2 := fun x y H Q => (rI CMul fun i j => .int (i * j)) x y H Q ∨ rRep x y H Q
theorem op_mulAll : OpR X (binaryOp .Mult) rMulAll := op_mul.or op_rep
theorem dp_mul (ha : PE X a (LP X.K ma)) (hb : PE X b (LP X.K mb)) : PE X (.BinOp a .Mult b pos) (LP X.K (mOp oMul ma mb)) := pe_imp (pe_op op_mulAll ha hb) fun σ H Q h =>
  h.two fun W fp xf Q0 r1 r2 v1 v2 W2 H2 hr O o1 o2 => by
    unfold oMul at hr
    split at hr
    · exact .inl ⟨_, _, int_of o1, int_of o2, hr.1, O.fin hr.2 (.int _)⟩
    · obtain ⟨ds, e, k1, k2, k3, q⟩ := hr
      obtain ⟨p, vs, rfl, g1, s1⟩ := els_L e o1 O.S2
      exact .inr ⟨p, _, vs, rfl, int_of o2, g1, k1, k2, by rw [← sizeL_eq, s1.len]; exact k3, fun l n => O.newL q (s1.rep _) l n⟩
    · exact hr.elim
theorem dp_neg (ha : PE X a (LP X.K ma)) : PE X (.UnaryOp .USub a pos) (LP X.K (mUn oNeg ma)) := pe_imp (pe_un un_neg ha) fun σ H Q h =>
  h.one fun W fp xf Q0 r1 v1 W2 H2 hr O o1 => by
    unfold oNeg at hr
    split at hr
    · exact ⟨_, int_of o1, O.fin hr (.int _)⟩
    · exact hr.elim
end
end R
namespace R
open PySem PySem.Spec PyProof.Rows L2
section
variable {K : PySem.W.Frag} {W W1 W2 W' : Wd} {H H1 H2 H' : Hp} {f f1 fp xf : List Addr} {σ : L2.St} {Q : VK} {r : Rs} {v : V} {env : Env}
theorem ResOk.own (o : ResOk K H fp W2 H2 v r) : ∃ f, Own K W2 H2 v r.t f := by
  cases r with
  | fz d => exact ⟨[], .leaf o⟩
  | nw t => obtain ⟨f, o, _⟩ := o; exact ⟨f, o⟩
  | br t => obtain ⟨f, o, _⟩ := o; exact ⟨f, o⟩
  | ex t => obtain ⟨f, o, _⟩ := o; exact ⟨f, o⟩
theorem non_iff (o : ResOk K H fp W2 H2 v r) : decide (v = .non) = r.isNon := by
  obtain ⟨f, o⟩ := o.own
  unfold Rs.isNon
  generalize r.t = t at o
  cases o with
  | leaf r => cases r <;> rfl
  | lst _ _ => rfl
  | tup _ _ => rfl
  | ins _ _ => rfl
  | d0 _ => rfl
/-- the items of a list or tuple that is read -/
theorem kids_ok {ts : List OT} (h : r.t.kids = some ts) (o : ResOk K H fp W2 H2 v r) (S : Sat K W2 H2 fp xf) : ∃ p vs f, v = .ref p ∧ (SqL K H2 p vs ∨ SqT K H2 p vs) ∧ OwnAll K W2 H2 vs ts f ∧
    (match r with | .ex _ => ∀ a ∈ f, W2.S a = none ∧ a ∉ fp | .fz _ => f = [] | _ => ∀ a ∈ f, W2.S a = none) := by
  have lf : ∀ {d : D}, Rep K W2 v d → (OT.leaf d).kids = some ts → ∃ p vs, v = .ref p ∧ (SqL K H2 p vs ∨ SqT K H2 p vs) ∧ OwnAll K W2 H2 vs ts [] := by
    intro d q h
    cases q with
    | lst g r => cases h; exact ⟨_, _, rfl, .inl (.of (S.sub _ _ g)), OwnAll.leafs (vs := []) r⟩
    | tup g r => cases h; exact ⟨_, _, rfl, .inr (.of (S.sub _ _ g)), OwnAll.leafs (vs := []) r⟩
    | rol g r => cases h; exact ⟨_, _, rfl, .inl (SqL.mono S.sub g), OwnAll.leafs (vs := []) r⟩
    | non => cases h
    | bl _ => cases h
    | int _ => cases h
    | str _ => cases h
    | ins _ _ => cases h
    | vol _ => cases h
    | any _ => cases h
  have own : ∀ {t : OT} {f : List Addr}, Own K W2 H2 v t f → t.kids = some ts → ∃ p vs f', v = .ref p ∧ (SqL K H2 p vs ∨ SqT K H2 p vs) ∧ OwnAll K W2 H2 vs ts f' ∧ ∀ a ∈ f', a ∈ f := by
    intro t f o h
    cases o with
    | leaf q =>
      obtain ⟨p, vs, e, s, w⟩ := lf q h
      exact ⟨p, vs, [], e, s, w, fun _ m => by cases m⟩
    | lst g r => cases h; exact ⟨_, _, _, rfl, .inl (.of g), r, fun _ m => List.mem_cons_of_mem _ m⟩
    | tup g r => cases h; exact ⟨_, _, _, rfl, .inr (.of g), r, fun _ m => List.mem_cons_of_mem _ m⟩
    | ins _ _ => cases h
    | d0 _ => cases h
  cases r with
  | fz d =>
    obtain ⟨p, vs, e, s, w⟩ := lf o h
    exact ⟨p, vs, [], e, s, w, rfl⟩
  | nw t =>
    obtain ⟨f, o, z⟩ := o
    obtain ⟨p, vs, f', e, s, w, i⟩ := own o h
    exact ⟨p, vs, f', e, s, w, fun a m => (z.2 a (i a m)).2.2⟩
  | br t =>
    obtain ⟨f, o, z⟩ := o
    obtain ⟨p, vs, f', e, s, w, i⟩ := own o h
    exact ⟨p, vs, f', e, s, w, fun a m => z a (i a m)⟩
  | ex t =>
    obtain ⟨f, o, z⟩ := o
    obtain ⟨p, vs, f', e, s, w, i⟩ := own o h
    exact ⟨p, vs, f', e, s, w, fun a m => z a (i a m)⟩
theorem OwnAll.len : ∀ {vs : List V} {ts : List OT} {f : List Addr}, OwnAll K W H vs ts f → vs.length = ts.length
  | _, _, _, .nil => rfl
  | _, _, _, .cons _ r => by rw [List.length_cons, List.length_cons, OwnAll.len r]
theorem OwnAll.get : ∀ {vs : List V} {ts : List OT} {f : List Addr} {i : Nat} {t : OT}, OwnAll K W H vs ts f → ts[i]? = some t → ∃ v g, vs[i]? = some v ∧ Own K W H v t g ∧ ∀ a ∈ g, a ∈ f
  | _, _, _, _, _, .nil, h => by simp at h
  | _, _, _, 0, _, .cons o _, h => by
    simp at h
    subst h
    exact ⟨_, _, rfl, o, fun _ m => List.mem_append_left _ m⟩
  | _, _, _, i + 1, _, .cons _ r, h => by
    obtain ⟨v, g, e, o, z⟩ := OwnAll.get (i := i) r (by simpa using h)
    exact ⟨v, g, by simpa using e, o, fun a m => List.mem_append_right _ (z a m)⟩
theorem at_eq {α : Type} (xs : List α) (i : Int) : atI xs i = at' xs i := rfl
theorem kid_ok {ts : List OT} {t : OT} {i : Int} (h : r.t.kids = some ts) (e : at' ts i = some t) (o : ResOk K H fp W2 H2 v r) (S : Sat K W2 H2 fp xf) :
    ∃ p vs u, v = .ref p ∧ (SqL K H2 p vs ∨ SqT K H2 p vs) ∧ atI vs i = some u ∧ ResOk K H fp W2 H2 u (r.kid t) := by
  obtain ⟨p, vs, f, ev, s, w, z⟩ := kids_ok h o S
  have e' := e
  unfold at' at e'
  cases q : ixN' ts.length i with
  | none => rw [q] at e'; cases e'
  | some j =>
    rw [q] at e'
    obtain ⟨u, g, eu, ow, i2⟩ := w.get (show ts[j]? = some t from e')
    refine ⟨p, vs, u, ev, s, ?_, ?_⟩
    · show (ixN' vs.length i).bind (fun j => vs[j]?) = some u
      rw [w.len, q]
      exact eu
    · have lf : ∀ d, t = .leaf d → Rep K W2 u d := by
        intro d e
        subst e
        cases ow with
        | leaf q => exact q
      cases r with
      | fz d =>
        have z : f = [] := z
        subst z
        cases t with
        | leaf d => exact lf d rfl
        | lst _ => exact ⟨g, ow, fun a m => absurd (i2 a m) (by simp)⟩
        | tup _ => exact ⟨g, ow, fun a m => absurd (i2 a m) (by simp)⟩
        | ins _ _ _ => exact ⟨g, ow, fun a m => absurd (i2 a m) (by simp)⟩
        | d0 => exact ⟨g, ow, fun a m => absurd (i2 a m) (by simp)⟩
      | nw x =>
        cases t with
        | leaf d => exact lf d rfl
        | lst _ => exact ⟨g, ow, fun a m => z a (i2 a m)⟩
        | tup _ => exact ⟨g, ow, fun a m => z a (i2 a m)⟩
        | ins _ _ _ => exact ⟨g, ow, fun a m => z a (i2 a m)⟩
        | d0 => exact ⟨g, ow, fun a m => z a (i2 a m)⟩
      | br x =>
        cases t with
        | leaf d => exact lf d rfl
        | lst _ => exact ⟨g, ow, fun a m => z a (i2 a m)⟩
        | tup _ => exact ⟨g, ow, fun a m => z a (i2 a m)⟩
        | ins _ _ _ => exact ⟨g, ow, fun a m => z a (i2 a m)⟩
        | d0 => exact ⟨g, ow, fun a m => z a (i2 a m)⟩
      | ex x =>
        cases t with
        | leaf d => exact lf d rfl
        | lst _ => exact ⟨g, ow, fun a m => z a (i2 a m)⟩
        | tup _ => exact ⟨g, ow, fun a m => z a (i2 a m)⟩
        | ins _ _ _ => exact ⟨g, ow, fun a m => z a (i2 a m)⟩
        | d0 => exact ⟨g, ow, fun a m => z a (i2 a m)⟩
end
section
variable {X : Cx} {a b c : Expr} {ma mb mc : DE} {pos : Pos} {ta tb : DT} {rest : List Expr} {es : List Expr} {mr : DA}
theorem dp_isN {j pos'} (ha : PE X a (LP X.K ma)) : PE X (.Compare a [.Is] [.Constant .none j pos'] pos) (LP X.K (mUn (oIsN false) ma)) := pe_imp (pe_cmp (pc_isN ha) rfl) fun σ H Q h =>
  h.one fun W fp xf Q0 r1 v1 W2 H2 hr O o1 => by
    refine O.fin hr ?_
    rw [non_iff o1, Bool.bne_false]
    exact .bl _
theorem dp_notN {j pos'} (ha : PE X a (LP X.K ma)) : PE X (.Compare a [.IsNot] [.Constant .none j pos'] pos) (LP X.K (mUn (oIsN true) ma)) := pe_imp (pe_cmp (pc_notN ha) rfl) fun σ H Q h =>
  h.one fun W fp xf Q0 r1 v1 W2 H2 hr O o1 => by
    refine O.fin hr ?_
    rw [non_iff o1, Bool.bne_true]
    exact .bl _
/-! ### an item -/
theorem dp_ix (ha : PE X a (LP X.K ma)) (hb : PE X b (LP X.K mb)) (hs : PlainIx b := by exact fun _ _ => rfl) : PE X (.Subscript a b pos) (LP X.K (mOp oIx ma mb)) := pe_imp (pe_ix ix_seq ha hb hs) fun σ H Q h =>
  h.two fun W fp xf Q0 r1 r2 v1 v2 W2 H2 hr O o1 o2 => by
    have key : ∀ {i : Int} {ts : List OT} {t : OT}, r1.t.kids = some ts → at' ts i = some t → r2 = .fz (.int i) → Q0 (r1.kid t) → rIx X.K v1 v2 H2 Q := by
      intro i ts t e1 e2 e3 q
      obtain ⟨p, vs, u, rfl, s, au, ou⟩ := kid_ok e1 e2 o1 O.S2
      have ei : v2 = .int i := int_of (by rw [e3] at o2; exact o2)
      rcases s with s | s
      · exact .inl ⟨p, vs, i, u, rfl, ei, s, au, O.res q ou⟩
      · exact .inr (.inl ⟨p, vs, i, u, rfl, ei, s, au, O.res q ou⟩)
    have lf : ∀ {ds : List D} {d : D} {i : Int}, at' ds i = some d → at' (ds.map OT.leaf) i = some (.leaf d) := by
      intro ds d i e
      rw [at_map, e]
      rfl
    unfold oIx at hr
    split at hr
    · obtain ⟨d, e, q⟩ := hr
      exact key rfl (lf e) rfl q
    · obtain ⟨d, e, q⟩ := hr
      exact key rfl (lf e) rfl q
    · obtain ⟨d, e, q⟩ := hr
      exact key rfl (lf e) rfl q
    · obtain ⟨hl, c, e, q⟩ := hr
      exact .inr (.inr ⟨_, _, c, str_of o1, int_of o2, by rw [← sizeL_eq]; exact hl, e, O.fin q (.str _)⟩)
    · rename_i ps i
      obtain ⟨h0, h3, q⟩ := hr
      cases (show Rep X.K W2 v1 (.vol 0 ps) from o1) with
      | vol s =>
        obtain ⟨_, o, g, x, y, z, e⟩ := O.S2.vol _ _ _ s
        subst e
        have hi : i = 0 ∨ i = 1 ∨ i = 2 := by omega
        rcases hi with rfl | rfl | rfl
        · exact .inl ⟨_, _, 0, .int x, rfl, int_of o2, .of g, rfl, O.fin (q x) (.int _)⟩
        · exact .inl ⟨_, _, 1, .int y, rfl, int_of o2, .of g, rfl, O.fin (q y) (.int _)⟩
        · exact .inl ⟨_, _, 2, .int z, rfl, int_of o2, .of g, rfl, O.fin (q z) (.int _)⟩
    · obtain ⟨ts, t, e1, e2, q⟩ := hr
      exact key e1 e2 rfl q
    · exact hr.elim
/-! ### tests -/
theorem lt_lp {K : PySem.W.Frag} {m : DE} {σ : L2.St} {H : Hp} {Q : Bool → Hp → Prop} (h : LT K (mT m) σ H Q) : LP K m σ H fun x H' => ∃ k, x = .bl k ∧ Q k H' := by
  obtain ⟨W, env, fp, xf, Q0, E, S, hm, k⟩ := h
  refine ⟨W, env, fp, xf, _, E, S, hm, fun r1 h1 v1 W1 H1 t1 S1 o1 => ?_⟩
  split at h1
  · exact ⟨_, bl_of o1, k _ h1 W1 H1 t1 S1⟩
  · exact h1.elim
theorem dt_of {op : CmpOp} {r : R2} {R : Rs → Rs → (Rs → Prop) → Prop} (ho : OpR X (compareOp op) r) (I : ∀ σ H Q, LP X.K (mOp R ma mb) σ H Q → tOp r (LP X.K ma) (LP X.K mb) σ H Q) (ha : PE X a (LP X.K ma)) (hb : PE X b (LP X.K mb))
    (hm : behindInMarks op b = false) : PT X (.Compare a [op] [b] pos) (LT X.K (mT (mOp R ma mb))) := pt_imp (pt_cmpR ho ha hb hm) fun σ H Q h => I σ H _ (lt_lp h)
theorem dt_lt (ha : PE X a (LP X.K ma)) (hb : PE X b (LP X.K mb)) : PT X (.Compare a [.Lt] [b] pos) (LT X.K (mT (mOp oLt ma mb))) := dt_of op_lt (fun _ _ _ h => r_i0 (fun _ _ _ _ => .bl _) h) ha hb (nomark _)
theorem dt_le (ha : PE X a (LP X.K ma)) (hb : PE X b (LP X.K mb)) : PT X (.Compare a [.LtE] [b] pos) (LT X.K (mT (mOp oLe ma mb))) := dt_of op_le (fun _ _ _ h => r_i0 (fun _ _ _ _ => .bl _) h) ha hb (nomark _)
theorem dt_gt (ha : PE X a (LP X.K ma)) (hb : PE X b (LP X.K mb)) : PT X (.Compare a [.Gt] [b] pos) (LT X.K (mT (mOp oGt ma mb))) := dt_of op_gt (fun _ _ _ h => r_i0 (fun _ _ _ _ => .bl _) h) ha hb (nomark _)
theorem dt_ge (ha : PE X a (LP X.K ma)) (hb : PE X b (LP X.K mb)) : PT X (.Compare a [.GtE] [b] pos) (LT X.K (mT (mOp oGe ma mb))) := dt_of op_ge (fun _ _ _ h => r_i0 (fun _ _ _ _ => .bl _) h) ha hb (nomark _)
theorem dt_isN {j pos'} (ha : PE X a (LP X.K ma)) : PT X (.Compare a [.Is] [.Constant .none j pos'] pos) (LT X.K (mT (mUn (oIsN false) ma))) := pt_imp (pt_cmp (pc_isN ha) rfl) fun σ H Q h =>
  (lt_lp h).one fun W fp xf Q0 r1 v1 W2 H2 hr O o1 => by
    refine O.fin (v := .bl (decide (v1 = .non))) hr ?_
    rw [non_iff o1, Bool.bne_false]
    exact .bl _
theorem dt_notN {j pos'} (ha : PE X a (LP X.K ma)) : PT X (.Compare a [.IsNot] [.Constant .none j pos'] pos) (LT X.K (mT (mUn (oIsN true) ma))) := pt_imp (pt_cmp (pc_notN ha) rfl) fun σ H Q h =>
  (lt_lp h).one fun W fp xf Q0 r1 v1 W2 H2 hr O o1 => by
    refine O.fin (v := .bl (!decide (v1 = .non))) hr ?_
    rw [non_iff o1, Bool.bne_true]
    exact .bl _
/-- a test, then what hangs on it -/
theorem LT.next {K : PySem.W.Frag} {t : DT} {σ : L2.St} {H : Hp} {W : Wd} {env : Env} {fp xf : List Addr} {Q1 : Bool → Prop} {q : Bool → Hp → Prop} (E : EnvOk K W H σ env fp xf) (S : Sat K W H fp xf) (h : t env Q1)
    (k : ∀ b, Q1 b → ∀ W1 H1, Stp W H [] W1 H1 → Sat K W1 H1 fp xf → EnvOk K W1 H1 σ env fp xf → q b H1) : LT K t σ H q :=
  ⟨W, env, fp, xf, Q1, E, S, h, fun b hb W1 H1 t1 S1 => k b hb W1 H1 t1 S1 (E.keep S t1)⟩
theorem dw_and1 {p : Pos} (h : PT X a (LT X.K ta)) : PW X (.BoolOp .And [a] p) (LT X.K ta) := pw_and1 h
theorem dw_or1 {p : Pos} (h : PT X a (LT X.K ta)) : PW X (.BoolOp .Or [a] p) (LT X.K ta) := pw_or1 h
theorem dw_and (ha : PT X a (LT X.K ta)) (hb : PW X (.BoolOp .And (b :: rest) pos) (LT X.K tb)) : PW X (.BoolOp .And (a :: b :: rest) pos) (LT X.K (mAnd ta tb)) := pw_imp (pw_and ha hb) fun σ H Q h => by
  obtain ⟨W, env, fp, xf, Q0, E, S, hm, k⟩ := h
  refine LT.next E S hm fun c hc W1 H1 t1 S1 E1 => ?_
  cases c with
  | true => exact iteT (LT.next E1 S1 (show tb env Q0 from hc) fun c hc W2 H2 t2 S2 _ => k c hc W2 H2 (t1.tr0 t2) S2)
  | false => exact iteF (k false hc W1 H1 t1 S1)
theorem dw_or (ha : PT X a (LT X.K ta)) (hb : PW X (.BoolOp .Or (b :: rest) pos) (LT X.K tb)) : PW X (.BoolOp .Or (a :: b :: rest) pos) (LT X.K (mOr ta tb)) := pw_imp (pw_or ha hb) fun σ H Q h => by
  obtain ⟨W, env, fp, xf, Q0, E, S, hm, k⟩ := h
  refine LT.next E S hm fun c hc W1 H1 t1 S1 E1 => ?_
  cases c with
  | true => exact iteT (k true hc W1 H1 t1 S1)
  | false => exact iteF (LT.next E1 S1 (show tb env Q0 from hc) fun c hc W2 H2 t2 S2 _ => k c hc W2 H2 (t1.tr0 t2) S2)
theorem dt_not (h : PT X a (LT X.K ta)) : PT X (.UnaryOp .Not a pos) (LT X.K (mNot ta)) := pt_imp (pt_not h) fun σ H Q h => by
  obtain ⟨W, env, fp, xf, Q0, E, S, hm, k⟩ := h
  exact LT.next E S hm fun c hc W1 H1 t1 S1 E1 => k _ hc W1 H1 t1 S1
/-- an expression, then what hangs on it -/
theorem LP.next {K : PySem.W.Frag} {m : DE} {σ : L2.St} {H : Hp} {W : Wd} {env : Env} {fp xf : List Addr} {Q1 : Rs → Prop} {q : V → Hp → Prop} (E : EnvOk K W H σ env fp xf) (S : Sat K W H fp xf) (h : m env Q1)
    (k : ∀ r, Q1 r → ∀ v W1 H1, Stp W H [] W1 H1 → Sat K W1 H1 fp xf → EnvOk K W1 H1 σ env fp xf → ResOk K H fp W1 H1 v r → q v H1) : LP K m σ H q :=
  ⟨W, env, fp, xf, Q1, E, S, h, fun r hr v W1 H1 t1 S1 o => k r hr v W1 H1 t1 S1 (E.keep S t1) o⟩
theorem dp_if (hc : PT X c (LT X.K ta)) (ha : PE X a (LP X.K ma)) (hb : PE X b (LP X.K mb)) : PE X (.IfExp c a b pos) (LP X.K (mIf ta ma mb)) := pe_imp (pe_ifExp hc ha hb) fun σ H Q h => by
  obtain ⟨W, env, fp, xf, Q0, E, S, hm, k⟩ := h
  refine LT.next E S hm fun c hc W1 H1 t1 S1 E1 => ?_
  cases c with
  | true => exact iteT (LP.next E1 S1 (show ma env Q0 from hc) fun r hr v W2 H2 t2 S2 _ o => k r hr v W2 H2 (t1.tr0 t2) S2 (o.back t1.al))
  | false => exact iteF (LP.next E1 S1 (show mb env Q0 from hc) fun r hr v W2 H2 t2 S2 _ o => k r hr v W2 H2 (t1.tr0 t2) S2 (o.back t1.al))
theorem dp_one {op : BoolOp} (h : PE X a (LP X.K ma)) : PE X (.BoolOp op [a] pos) (LP X.K ma) := pe_one h
theorem dp_and (ha : PE X a (LP X.K ma)) (hb : PE X (.BoolOp .And (b :: rest) pos) (LP X.K mb)) : PE X (.BoolOp .And (a :: b :: rest) pos) (LP X.K (mAndV ma mb)) := pe_imp (pe_and ha hb) fun σ H Q h => by
  obtain ⟨W, env, fp, xf, Q0, E, S, hm, k⟩ := h
  refine LP.next E S hm fun r hr v W1 H1 t1 S1 E1 o => ?_
  split at hr
  · rename_i c
    refine ⟨c, bl_of o, ?_⟩
    cases c with
    | true => exact iteT (LP.next E1 S1 (show mb env Q0 from hr) fun r hr v W2 H2 t2 S2 _ o => k r hr v W2 H2 (t1.tr0 t2) S2 (o.back t1.al))
    | false => exact iteF (k _ hr _ W1 H1 t1 S1 (Rep.bl false))
  · exact hr.elim
theorem dp_or (ha : PE X a (LP X.K ma)) (hb : PE X (.BoolOp .Or (b :: rest) pos) (LP X.K mb)) : PE X (.BoolOp .Or (a :: b :: rest) pos) (LP X.K (mOrV ma mb)) := pe_imp (pe_or ha hb) fun σ H Q h => by
  obtain ⟨W, env, fp, xf, Q0, E, S, hm, k⟩ := h
  refine LP.next E S hm fun r hr v W1 H1 t1 S1 E1 o => ?_
  split at hr
  · rename_i c
    refine ⟨c, bl_of o, ?_⟩
    cases c with
    | true => exact iteT (k _ hr _ W1 H1 t1 S1 (Rep.bl true))
    | false => exact iteF (LP.next E1 S1 (show mb env Q0 from hr) fun r hr v W2 H2 t2 S2 _ o => k r hr v W2 H2 (t1.tr0 t2) S2 (o.back t1.al))
  · exact hr.elim
theorem dp_not (ha : PE X a (LP X.K ma)) : PE X (.UnaryOp .Not a pos) (LP X.K (mNotV ma)) := pe_imp (pe_not ha) fun σ H Q h => by
  obtain ⟨W, env, fp, xf, Q0, E, S, hm, k⟩ := h
  refine LP.next E S hm fun r hr v W1 H1 t1 S1 E1 o => ?_
  split at hr
  · exact ⟨_, bl_of o, k _ hr _ W1 H1 t1 S1 (Rep.bl _)⟩
  · exact hr.elim
/-! ### what is new is frozen -/
theorem dp_fz (ha : PE X a (LP X.K ma)) : PE X a (LP X.K (mFz ma)) := pe_imp ha fun σ H Q h => by
  obtain ⟨W, env, fp, xf, Q0, E, S, hm, k⟩ := h
  refine LP.next E S hm fun r hr v W1 H1 t1 S1 E1 o => ?_
  cases r with
  | fz d => exact k _ hr v W1 H1 t1 S1 o
  | nw t =>
    obtain ⟨d, z, q⟩ := hr
    obtain ⟨f, ow, nd, y⟩ := o
    obtain ⟨W', F, R, _⟩ := freeze ow z nd fun a m => (y a m).2
    have za : ∀ a ∈ f, a ∉ fp ∧ a ∉ xf := fun a m => ⟨fun m2 => (S.off a m2).2.2 (y a m).1, fun m2 => (S.xof a m2).2.2 (y a m).1⟩
    exact k _ q v W' H1 (t1.trans F.stp fun a m => .inr (y a m).1) (F.sat S1 (fun a m => ⟨(y a m).2.1, (y a m).2.2, ow.alloc a m⟩) za) R
  | br t => exact hr.elim
  | ex t => exact hr.elim
/-! ### argument lists, displays -/
theorem da_nil : PA X [] (LA X.K mNil) := pa_imp pa_nil fun σ H Q h => by
  obtain ⟨W, env, fp, xf, Q0, E, S, hm, k⟩ := h
  exact k _ hm [] W H [] .refl S .nil ⟨List.nodup_nil, fun _ m => by cases m⟩
theorem ResAll.cells {K : PySem.W.Frag} {H : Hp} {fp : List Addr} {W' : Wd} {H' : Hp} {vs : List V} {rs : List Rs} {g : List Addr} (h : ResAll K H fp W' H' vs rs g) : ∀ a ∈ g, H' a ≠ none := by
  induction h with
  | nil => intro a m; cases m
  | fz _ _ ih => exact ih
  | nw o _ ih => intro a m; exact (List.mem_append.mp m).elim (o.alloc a) (ih a)
  | br _ _ _ ih => exact ih
  | ex _ _ _ ih => exact ih
theorem da_cons (ha : PE X a (LP X.K ma)) (hr : PA X es (LA X.K mr)) (hs : starEach (a :: es) X.env = (false, eval a X.env) :: starEach es X.env := by rfl) : PA X (a :: es) (LA X.K (mCons ma mr)) := pa_imp (pa_cons ha hr hs) fun σ H Q h => by
  obtain ⟨W, env, fp, xf, Q0, E, S, hm, k⟩ := h
  refine LP.next E S hm fun r hr v W1 H1 t1 S1 E1 o => ?_
  refine ⟨W1, env, fp, xf, _, E1, S1, hr, fun rs hq vs W2 H2 g t2 S2 os F => ?_⟩
  have l := t2.le S1 fun _ m => by cases m
  have o2 := o.keep t2 l
  have Fb := fresh_back F t1.al
  have os' : ResAll X.K H fp W2 H2 vs rs g := os.back
  cases r with
  | fz d => exact k _ hq _ W2 H2 g (t1.tr0 t2) S2 (.fz o2 os') Fb
  | nw t =>
    obtain ⟨f, ow, nd, z⟩ := o
    have ow2 := ow.mono l fun a m u e => t2.kp a u e (by simp) (z a m).2.2
    refine k _ hq _ W2 H2 (f ++ g) (t1.tr0 t2) S2 (.nw ow2 os') ⟨List.nodup_append.mpr ⟨nd, F.1, fun x m y m2 e => ?_⟩, fun a m => ?_⟩
    · subst e
      exact ow.alloc x m (F.2 x m2).1
    · rcases List.mem_append.mp m with m | m
      · obtain ⟨e1, e2⟩ := t2.kpS (ow.alloc a m)
        exact ⟨(z a m).1, e1.trans (z a m).2.1, e2.trans (z a m).2.2⟩
      · exact Fb.2 a m
  | br t =>
    obtain ⟨f, ow, z⟩ := o2
    exact k _ hq _ W2 H2 g (t1.tr0 t2) S2 (.br ow z os') Fb
  | ex t =>
    obtain ⟨f, ow, z⟩ := o2
    exact k _ hq _ W2 H2 g (t1.tr0 t2) S2 (.ex ow z os') Fb
theorem ResAll.items {K : PySem.W.Frag} {H : Hp} {fp : List Addr} {W' : Wd} {H' : Hp} : ∀ {rs : List Rs} {vs : List V} {g : List Addr} {ts : List OT}, ResAll K H fp W' H' vs rs g → items rs = some ts → OwnAll K W' H' vs ts g := by
  intro rs vs g ts h
  induction h generalizing ts with
  | nil => intro e; cases e; exact .nil
  | fz r _ ih =>
    rename_i d _ rs _ _
    intro e
    have e : (R.items rs).map (OT.leaf d :: ·) = some ts := e
    cases q : R.items rs with
    | none => rw [q] at e; cases e
    | some us => rw [q] at e; cases e; exact .cons (f := []) (.leaf r) (ih q)
  | nw r _ ih =>
    rename_i t _ _ rs _ _
    intro e
    have e : (R.items rs).map (t :: ·) = some ts := e
    cases q : R.items rs with
    | none => rw [q] at e; cases e
    | some us => rw [q] at e; cases e; exact .cons r (ih q)
  | br _ _ _ _ => intro e; cases e
  | ex _ _ _ _ => intro e; cases e
theorem new_node {K : PySem.W.Frag} {W W2 : Wd} {H H2 : Hp} {fp xf g : List Addr} {p : Addr} {o : HO} {vs : List V} {ts : List OT} (t : Stp W H [] W2 H2) (S : Sat K W2 H2 fp xf) (w : OwnAll K W2 H2 vs ts g) (F : Fresh H W2 g) (n : H2 p = none) :
    Stp W H [] W2 (upd H2 p o) ∧ Sat K W2 (upd H2 p o) fp xf ∧ OwnAll K W2 (upd H2 p o) vs ts g ∧ (p :: g).Nodup ∧ ∀ a ∈ p :: g, H a = none ∧ W2.G a = none ∧ W2.S a = none := by
  have hn : H p = none := by
    cases z : H p with
    | none => rfl
    | some u => exact absurd n (t.al p (some_ne z))
  refine ⟨t.tr0 (.new n), S.new n, w.mono (.refl _) fun a m u e => by rw [upd_ne (ne_of_none e n)]; exact e, List.nodup_cons.mpr ⟨fun m => w.alloc p m n, F.1⟩, fun a m => ?_⟩
  rcases List.mem_cons.mp m with e | m
  · rw [e]
    exact ⟨hn, (S.free n).1, (S.free n).2⟩
  · exact F.2 a m
theorem dp_lst (h : PA X es (LA X.K mr)) : PE X (.List es pos) (LP X.K (mLst mr)) := pe_imp (pe_lst h) fun σ H Q h => by
  obtain ⟨W, env, fp, xf, Q0, E, S, hm, k⟩ := h
  refine ⟨W, env, fp, xf, _, E, S, hm, fun rs ⟨ts, e, hl, q⟩ vs W2 H2 g t2 S2 os F => ?_⟩
  have w := os.items e
  refine ⟨by rw [← sizeL_eq, w.len]; exact hl, fun p n => ?_⟩
  obtain ⟨t3, S3, w3, nd, z⟩ := new_node (o := .lst vs) t2 S2 w F n
  exact k _ q _ W2 _ t3 S3 ⟨p :: g, .lst upd_same w3, nd, z⟩
theorem dp_tup {x1} (h : PA X es (LA X.K mr)) : PE X (.Tuple es x1 pos) (LP X.K (mTup mr)) := pe_imp (pe_tup h) fun σ H Q h => by
  obtain ⟨W, env, fp, xf, Q0, E, S, hm, k⟩ := h
  refine ⟨W, env, fp, xf, _, E, S, hm, fun rs ⟨ts, e, hl, q⟩ vs W2 H2 g t2 S2 os F => ?_⟩
  have w := os.items e
  refine ⟨by rw [← sizeL_eq, w.len]; exact hl, fun p n => ?_⟩
  obtain ⟨t3, S3, w3, nd, z⟩ := new_node (o := .tup vs) t2 S2 w F n
  exact k _ q _ W2 _ t3 S3 ⟨p :: g, .tup upd_same w3, nd, z⟩
end
end R
namespace R
open PySem PySem.Spec PyProof.Rows L2
section
variable {K : PySem.W.Frag} {W W1 W2 W' : Wd} {H H1 H2 H' : Hp} {f f1 fp xf : List Addr} {σ : L2.St} {Q : VK} {r : Rs} {v : V} {env : Env}
/-- all that is new is frozen -/
theorem ResAll.ffz {vs : List V} {rs : List Rs} {g : List Addr} (os : ResAll K H fp W2 H2 vs rs g) : ∀ {W3 : Wd}, W2.Le W3 → W3.S = W2.S → Sat K W H fp xf → Stp W H [] W3 H2 → Sat K W3 H2 fp xf → g.Nodup → (∀ a ∈ g, H a = none ∧ W3.G a = none ∧ W3.S a = none) →
    ∃ W4 g', Stp W H [] W4 H2 ∧ Sat K W4 H2 fp xf ∧ W3.Le W4 ∧ W4.S = W3.S ∧ ResAll K H fp W4 H2 vs (rs.map Rs.ffz) g' ∧ Fresh H W4 g' ∧ (∀ a ∈ g', a ∈ g) ∧ ∀ a, a ∉ g → W4.G a = W3.G a := by
  induction os with
  | nil => intro W3 l e S t S3 nd z; exact ⟨W3, [], t, S3, .refl _, rfl, .nil, ⟨List.nodup_nil, fun _ m => (by cases m)⟩, fun _ m => (by cases m), fun _ _ => rfl⟩
  | fz r _ ih =>
    intro W3 l e S t S3 nd z
    obtain ⟨W4, g', t4, S4, l4, e4, o4, F4, i4, k4⟩ := ih l e S t S3 nd z
    exact ⟨W4, g', t4, S4, l4, e4, .fz (r.mono (l.trans l4)) o4, F4, i4, k4⟩
  | br o y _ ih =>
    intro W3 l e S t S3 nd z
    obtain ⟨W4, g', t4, S4, l4, e4, o4, F4, i4, k4⟩ := ih l e S t S3 nd z
    exact ⟨W4, g', t4, S4, l4, e4, .br (o.mono (l.trans l4) fun _ _ _ q => q) (fun a m => by rw [e4, e]; exact y a m) o4, F4, i4, k4⟩
  | ex o y _ ih =>
    intro W3 l e S t S3 nd z
    obtain ⟨W4, g', t4, S4, l4, e4, o4, F4, i4, k4⟩ := ih l e S t S3 nd z
    exact ⟨W4, g', t4, S4, l4, e4, .ex (o.mono (l.trans l4) fun _ _ _ q => q) (fun a m => by rw [e4, e]; exact y a m) o4, F4, i4, k4⟩
  | nw o _ ih =>
    rename_i v x f vs rs g _
    intro W3 l e S t S3 nd z
    obtain ⟨n1, n2, n3⟩ := List.nodup_append.mp nd
    have zf : ∀ a ∈ f, H a = none ∧ W3.G a = none ∧ W3.S a = none := fun a m => z a (List.mem_append_left _ m)
    have zg : ∀ a ∈ g, H a = none ∧ W3.G a = none ∧ W3.S a = none := fun a m => z a (List.mem_append_right _ m)
    have dj : ∀ a ∈ f, a ∉ g := fun a m m2 => n3 a m a m2 rfl
    cases q : x.fzd with
    | none =>
      obtain ⟨W4, g', t4, S4, l4, e4, o4, F4, i4, k4⟩ := ih l e S t S3 n2 zg
      refine ⟨W4, f ++ g', t4, S4, l4, e4, ?_, ⟨List.nodup_append.mpr ⟨n1, F4.1, fun a m b m2 e => by subst e; exact dj a m (i4 a m2)⟩, fun a m => ?_⟩, fun a m => ?_, fun a m => k4 a fun m2 => m (List.mem_append_right _ m2)⟩
      · show ResAll K H fp W4 H2 _ ((match x.fzd with | some d => .fz d | none => .nw x) :: rs.map Rs.ffz) (f ++ g')
        rw [q]
        exact .nw (o.mono (l.trans l4) fun _ _ _ q => q) o4
      · rcases List.mem_append.mp m with m | m
        · exact ⟨(zf a m).1, (k4 a (dj a m)).trans (zf a m).2.1, by rw [e4]; exact (zf a m).2.2⟩
        · exact F4.2 a m
      · exact (List.mem_append.mp m).elim (List.mem_append_left _) fun m => List.mem_append_right _ (i4 a m)
    | some d =>
      have o3 := o.mono l fun _ _ _ q => q
      obtain ⟨W5, F, R, sk⟩ := freeze o3 (Fz.of q) n1 fun a m => (zf a m).2
      have e5 : W5.S = W3.S := sk (by rw [q]; exact fun z => nomatch z)
      have za : ∀ a ∈ f, a ∉ fp ∧ a ∉ xf := fun a m => ⟨fun m2 => (S.off a m2).2.2 (zf a m).1, fun m2 => (S.xof a m2).2.2 (zf a m).1⟩
      have l5 : W3.Le W5 := F.le fun a m => (zf a m).2
      have zg5 : ∀ a ∈ g, H a = none ∧ W5.G a = none ∧ W5.S a = none := fun a m => by
        have n : a ∉ f := fun m2 => dj a m2 m
        exact ⟨(zg a m).1, (F.out a n).1.trans (zg a m).2.1, by rw [e5]; exact (zg a m).2.2⟩
      obtain ⟨W4, g', t4, S4, l4, e4, o4, F4, i4, k4⟩ := ih (l.trans l5) (e5.trans e) S (t.trans F.stp fun a m => .inr (zf a m).1) (F.sat S3 (fun a m => ⟨(zf a m).2.1, (zf a m).2.2, o3.alloc a m⟩) za) n2 zg5
      refine ⟨W4, g', t4, S4, l5.trans l4, e4.trans e5, ?_, F4, fun a m => List.mem_append_right _ (i4 a m), fun a m => (k4 a fun m2 => m (List.mem_append_right _ m2)).trans (F.out a fun m2 => m (List.mem_append_left _ m2)).1⟩
      show ResAll K H fp W4 H2 _ ((match x.fzd with | some d => .fz d | none => .nw x) :: rs.map Rs.ffz) g'
      rw [q]
      exact .fz (R.mono l4) o4
/-- arguments, then what hangs on them -/
theorem LA.next {m : DA} {Q1 : List Rs → Prop} {q : List V → Hp → Prop} (E : EnvOk K W H σ env fp xf) (S : Sat K W H fp xf) (h : m env Q1)
    (k : ∀ rs, Q1 rs → ∀ vs W1 H1 g, Stp W H [] W1 H1 → Sat K W1 H1 fp xf → EnvOk K W1 H1 σ env fp xf → ResAll K H fp W1 H1 vs rs g → Fresh H W1 g → q vs H1) : LA K m σ H q :=
  ⟨W, env, fp, xf, Q1, E, S, h, fun r hr v W1 H1 g t1 S1 o F => k r hr v W1 H1 g t1 S1 (E.keep S t1) o F⟩
/-- arguments of an operation: what is new is frozen -/
theorem LA.ops {m : DA} {R : List Rs → (Rs → Prop) → Prop} {q : List V → Hp → Prop} (h : LP K (mB R m) σ H Q)
    (hop : ∀ (W : Wd) (fp xf : List Addr) (Q0 : Rs → Prop) rs vs W2 H2 g, R rs Q0 → Ops K H Q Q0 W2 H2 W fp xf → ResAll K H fp W2 H2 vs rs g → Fresh H W2 g → q vs H2) : LA K m σ H q := by
  obtain ⟨W, env, fp, xf, Q0, E, S, hm, k⟩ := h
  refine LA.next E S hm fun rs hr vs W1 H1 g t1 S1 E1 os F => ?_
  obtain ⟨W4, g', t4, S4, _, _, o4, F4, _, _⟩ := os.ffz (.refl _) rfl S t1 S1 F.1 F.2
  exact hop W fp xf Q0 _ vs W4 H1 g' hr ⟨S, t4, S4, k⟩ o4 F4
theorem ResAll.nil_inv {vs : List V} {g : List Addr} (h : ResAll K H fp W' H' vs [] g) : vs = [] ∧ g = [] := by
  cases h; exact ⟨rfl, rfl⟩
theorem ResAll.cons_inv {vs : List V} {rs : List Rs} {g : List Addr} (h : ResAll K H fp W' H' vs (r :: rs) g) (F : Fresh H W' g) : ∃ v us g', vs = v :: us ∧ ResOk K H fp W' H' v r ∧ ResAll K H fp W' H' us rs g' ∧ Fresh H W' g' := by
  cases h with
  | fz a b => exact ⟨_, _, _, rfl, a, b, F⟩
  | nw a b =>
    obtain ⟨n1, n2, n3⟩ := List.nodup_append.mp F.1
    exact ⟨_, _, _, rfl, ⟨_, a, n1, fun c m => F.2 c (List.mem_append_left _ m)⟩, b, n2, fun c m => F.2 c (List.mem_append_right _ m)⟩
  | br a z b => exact ⟨_, _, _, rfl, ⟨_, a, z⟩, b, F⟩
  | ex a z b => exact ⟨_, _, _, rfl, ⟨_, a, z⟩, b, F⟩
theorem ResAll.one {vs : List V} {g : List Addr} (h : ResAll K H fp W' H' vs [r] g) (F : Fresh H W' g) : ∃ v, vs = [v] ∧ ResOk K H fp W' H' v r := by
  obtain ⟨v, us, g', rfl, o, h, _⟩ := h.cons_inv F
  obtain ⟨rfl, _⟩ := h.nil_inv
  exact ⟨v, rfl, o⟩
theorem ResAll.two {vs : List V} {g : List Addr} {r2 : Rs} (h : ResAll K H fp W' H' vs [r, r2] g) (F : Fresh H W' g) : ∃ v u, vs = [v, u] ∧ ResOk K H fp W' H' v r ∧ ResOk K H fp W' H' u r2 := by
  obtain ⟨v, us, g', rfl, o, h, F2⟩ := h.cons_inv F
  obtain ⟨u, rfl, o2⟩ := h.one F2
  exact ⟨v, u, rfl, o, o2⟩
theorem allOf_ints {vs : List V} {ds : List D} {ns : List Int} (h : allOf D.int? ds = some ns) (r : RepAll K W vs ds) : vs = ns.map V.int := by
  rw [allOf_inv (g := D.int) int?_inv h] at r
  clear h
  induction ns generalizing vs with
  | nil => cases r; rfl
  | cons n ns ih =>
    cases r with
    | cons a b => cases a; rw [ih b, List.map_cons]
theorem allOf_bls {vs : List V} {ds : List D} {ns : List Bool} (h : allOf D.bl? ds = some ns) (r : RepAll K W vs ds) : vs = ns.map V.bl := by
  rw [allOf_inv (g := D.bl) bl?_inv h] at r
  clear h
  induction ns generalizing vs with
  | nil => cases r; rfl
  | cons n ns ih =>
    cases r with
    | cons a b => cases a; rw [ih b, List.map_cons]
theorem allOf_strs {vs : List V} {ds : List D} {ns : List Str} (h : allOf D.str? ds = some ns) (r : RepAll K W vs ds) : vs = ns.map V.str := by
  rw [allOf_inv (g := D.str) str?_inv h] at r
  clear h
  induction ns generalizing vs with
  | nil => cases r; rfl
  | cons n ns ih =>
    cases r with
    | cons a b => cases a; rw [ih b, List.map_cons]
theorem RepAll.take : ∀ (n : Nat) {vs : List V} {ds : List D}, RepAll K W vs ds → RepAll K W (vs.take n) (ds.take n)
  | 0, _, _, _ => .nil
  | _ + 1, _, _, .nil => .nil
  | n + 1, _, _, .cons a b => .cons a (RepAll.take n b)
theorem RepAll.drop : ∀ (n : Nat) {vs : List V} {ds : List D}, RepAll K W vs ds → RepAll K W (vs.drop n) (ds.drop n)
  | 0, _, _, h => h
  | _ + 1, _, _, .nil => .nil
  | n + 1, _, _, .cons _ b => RepAll.drop n b
theorem RepAll.cut {vs : List V} {ds : List D} (h : RepAll K W vs ds) (lo hi : Option Int) : RepAll K W (cutV vs lo hi) (cut' ds lo hi) := by
  show RepAll K W ((vs.drop (HT.sIx vs.length 0 lo)).take (HT.sIx vs.length vs.length hi - HT.sIx vs.length 0 lo)) ((ds.drop (HT.sIx ds.length 0 lo)).take (HT.sIx ds.length ds.length hi - HT.sIx ds.length 0 lo))
  rw [h.len]
  exact RepAll.take _ (RepAll.drop _ h)
theorem cutV_whole {vs : List V} {lo hi : Option Int} (h : (cutV vs lo hi).length < vs.length) : ¬ (HT.sIx vs.length 0 lo = 0 ∧ HT.sIx vs.length vs.length hi = vs.length) := by
  rintro ⟨a, b⟩
  unfold cutV at h
  rw [a, b, List.drop_zero, Nat.sub_zero, List.take_of_length_le (Nat.le_refl _)] at h
  exact Nat.lt_irrefl _ h
end
def LO (K : PySem.W.Frag) (m : DO) : TO := fun σ H Q => ∃ (W : Wd) (env : Env) (fp xf : List Addr) (Q0 : Option Int → Prop), EnvOk K W H σ env fp xf ∧ Sat K W H fp xf ∧ m env Q0 ∧
  ∀ r, Q0 r → ∀ W' H', Stp W H [] W' H' → Sat K W' H' fp xf → Q r H'
section
variable {X : Cx} {a b c : Expr} {ma mb mc : DE} {pos : Pos} {ta tb : DT} {rest : List Expr} {es : List Expr} {mr : DA} {ml mh : DO} {lo hi : Option Expr}
theorem do_none : PO X none (LO X.K mNoP) := by
  refine ⟨?_⟩
  have h := (po_none (X := X)).run
  intro pins s σ H Q I hw
  obtain ⟨W, env, fp, xf, Q0, E, S, hm, k⟩ := hw
  exact h pins s σ H Q I (k none hm W H .refl S)
theorem po_imp {e : Option Expr} {t t' : TO} (h : PO X e t) (k : ∀ σ H Q, t' σ H Q → t σ H Q) : PO X e t' := ⟨fun pins s σ H Q I w => h.run pins s σ H Q I (k σ H Q w)⟩
theorem do_some (h : PE X a (LP X.K ma)) : PO X (some a) (LO X.K (mPart ma)) := po_imp (po_some h) fun σ H Q h => by
  obtain ⟨W, env, fp, xf, Q0, E, S, hm, k⟩ := h
  refine LP.next E S hm fun r hr v W1 H1 t1 S1 E1 o => ?_
  split at hr
  · exact ⟨_, int_of o, k _ hr W1 H1 t1 S1⟩
  · exact hr.elim
def rSlAll (K : PySem.W.Frag) : V → Option Int → Option Int → Hp → VK → Prop := fun x lo hi H Q => rSlL K x lo hi H Q ∨ rSlT K x lo hi H Q
theorem dp_sl {p2 : Pos} (he : PE X a (LP X.K ma)) (hl : PO X lo (LO X.K ml)) (hu : PO X hi (LO X.K mh)) : PE X (.Subscript a (.Slice lo hi none p2) pos) (LP X.K (mSl ma ml mh)) := pe_imp (pe_slice (r := rSlAll X.K) (sl_list.or sl_tup) he hl hu) fun σ H Q h => by
  obtain ⟨W, env, fp, xf, Q0, E, S, hm, k⟩ := h
  refine ⟨W, env, fp, xf, _, E, S, hm, fun r1 h1 v1 W1' H1 t1' S1' o1' => ?_⟩
  obtain ⟨W1, t1, S1, _, o1⟩ := ffz_ok S t1' S1' o1'
  refine ⟨W1, env, fp, xf, _, E.keep S t1, S1, h1, fun l hl W2 H2 t2 S2 => ?_⟩
  refine ⟨W2, env, fp, xf, _, (E.keep S t1).keep S1 t2, S2, hl, fun u hu W3 H3 t3 S3 => ?_⟩
  have o3 := (o1.keep t2 (t2.le S1 fun _ m => by cases m)).keep t3 (t3.le S2 fun _ m => by cases m)
  have O : Ops X.K H Q Q0 W3 H3 W fp xf := ⟨S, (t1.tr0 t2).tr0 t3, S3, k⟩
  generalize r1.ffz = r at hu o3
  unfold oSl at hu
  split at hu
  · rename_i ds
    obtain ⟨hlen, q⟩ := hu
    cases (show Rep X.K W3 v1 (.tup ds) from o3) with
    | tup g rs =>
      have rc := rs.cut l u
      refine .inr ⟨_, _, rfl, .of (O.S2.sub _ _ g), cutV_whole (by rw [rc.len, rs.len]; exact hlen), fun p n => ?_⟩
      obtain ⟨t4, S4, w4, nd, z⟩ := new_node (o := .tup (cutV _ l u)) O.t O.S2 (OwnAll.leafs (vs := []) rc) ⟨List.nodup_nil, fun _ m => by cases m⟩ n
      have ow : Own X.K W3 (upd H3 p (.tup (cutV _ l u))) (.ref p) (.tup ((cut' ds l u).map .leaf)) [p] := .tup upd_same w4
      have zz : ∀ a ∈ [p], H a = none ∧ W3.G a = none ∧ W3.S a = none := fun a m => z a m
      obtain ⟨W', t', S', _, o'⟩ := ffz_ok (r := .nw (.tup ((cut' ds l u).map .leaf))) (v := .ref p) O.S t4 S4 ⟨_, ow, nd, zz⟩
      have o' : ResOk X.K H fp W' _ (.ref p) (match (OT.tup ((cut' ds l u).map .leaf)).fzd with | some d => .fz d | none => .nw (.tup ((cut' ds l u).map .leaf))) := o'
      rw [fzd_tup] at o'
      exact k _ q _ W' _ t' S' o'
  · obtain ⟨ds, e, q⟩ := hu
    obtain ⟨p, vs, rfl, g, rs⟩ := els_L e o3 O.S2
    exact .inl ⟨p, vs, rfl, .of g, fun l' n => O.newL q (rs.cut l u) l' n⟩
/-! ### built-ins -/
theorem dp_callB {id : String} {x : Str} {r : List V → Hp → VK → Prop} {p : Pos} {Rd : List Rs → (Rs → Prop) → Prop} (hc : CallR X (.builtin id) r)
    (I : ∀ (H : Hp) (Q : VK) (W : Wd) (fp xf : List Addr) (Q0 : Rs → Prop) rs vs W2 H2 g, Rd rs Q0 → Ops X.K H Q Q0 W2 H2 W fp xf → ResAll X.K H fp W2 H2 vs rs g → Fresh H W2 g → r vs H2 Q)
    (hm : X.mg x = none) (hv : bootBuiltins x = some (.builtin id)) (ha : PA X (a :: es) (LA X.K mr)) (hg : Gl X x := by rfl) (hn : x ≠ "__name__" := by decide) (hdb : (x == ("__debug__" : Str)) = false := by decide)
    (hs : starEach (a :: es) X.env = (false, eval a X.env) :: starEach es X.env := by rfl) (hpl : (backTo pos (starEach es X.env)).any (·.1) = false := by rfl) : PE X (.Call (.Name x p) (a :: es) [] pos) (LP X.K (mB Rd mr)) :=
  pe_imp (pe_callB hc hg hm hv ha hn hdb hs hpl) fun σ H Q h => LA.ops h fun W fp xf Q0 rs vs W2 H2 g hr O os F => I H Q W fp xf Q0 rs vs W2 H2 g hr O os F
theorem dp_callTy {T : String} {x : Str} {r : List V → Hp → VK → Prop} {p : Pos} {Rd : List Rs → (Rs → Prop) → Prop} (hc : CallR X (.type T) r)
    (I : ∀ (H : Hp) (Q : VK) (W : Wd) (fp xf : List Addr) (Q0 : Rs → Prop) rs vs W2 H2 g, Rd rs Q0 → Ops X.K H Q Q0 W2 H2 W fp xf → ResAll X.K H fp W2 H2 vs rs g → Fresh H W2 g → r vs H2 Q)
    (hm : X.mg x = none) (hv : bootBuiltins x = some (.type T)) (ha : PA X (a :: es) (LA X.K mr)) (hg : Gl X x := by rfl) (hn : x ≠ "__name__" := by decide) (hdb : (x == ("__debug__" : Str)) = false := by decide)
    (hs : starEach (a :: es) X.env = (false, eval a X.env) :: starEach es X.env := by rfl) (hpl : (backTo pos (starEach es X.env)).any (·.1) = false := by rfl) : PE X (.Call (.Name x p) (a :: es) [] pos) (LP X.K (mB Rd mr)) :=
  pe_imp (pe_callTy hc hg hm hv ha hn hdb hs hpl) fun σ H Q h => LA.ops h fun W fp xf Q0 rs vs W2 H2 g hr O os F => I H Q W fp xf Q0 rs vs W2 H2 g hr O os F
end
end R
namespace R
open PySem PySem.Spec PyProof.Rows L2
section
variable {X : Cx} {a b c : Expr} {ma mb mc : DE} {pos : Pos} {es : List Expr} {mr : DA}
theorem dp_len {p : Pos} (hm : X.mg "len" = none) (ha : PA X [a] (LA X.K mr)) (hg : Gl X "len" := by rfl) (hs : starEach [a] X.env = (false, eval a X.env) :: starEach [] X.env := by rfl) : PE X (.Call (.Name "len" p) [a] [] pos) (LP X.K (mB oLen mr)) :=
  dp_callB (call_len_seq.or call_len_str) (fun H Q W fp xf Q0 rs vs W2 H2 g hr O os F => by
    unfold oLen at hr
    split at hr
    · obtain ⟨v, rfl, o⟩ := os.one F
      exact .inr ⟨_, congrArg (fun z => [z]) (str_of o), by rw [← sizeL_eq]; exact hr.1, O.fin hr.2 (.int _)⟩
    · obtain ⟨ts, e, q⟩ := hr
      obtain ⟨v, rfl, o⟩ := os.one F
      obtain ⟨p, us, f, rfl, s, w, _⟩ := kids_ok e o O.S2
      exact .inl ⟨p, us, rfl, s, by rw [w.len]; exact O.fin q (.int _)⟩
    · exact hr.elim) hm PySem.boot_len ha hg (hs := hs)
theorem dp_int1 {p : Pos} (hm : X.mg "int" = none) (ha : PA X [a] (LA X.K mr)) (hg : Gl X "int" := by rfl) (hs : starEach [a] X.env = (false, eval a X.env) :: starEach [] X.env := by rfl) : PE X (.Call (.Name "int" p) [a] [] pos) (LP X.K (mB oInt1 mr)) :=
  dp_callTy call_int1 (fun H Q W fp xf Q0 rs vs W2 H2 g hr O os F => by
    unfold oInt1 at hr
    split at hr
    · obtain ⟨v, rfl, o⟩ := os.one F
      exact .inl ⟨_, congrArg (fun z => [z]) (int_of o), O.fin hr (.int _)⟩
    · obtain ⟨v, rfl, o⟩ := os.one F
      exact .inr ⟨_, congrArg (fun z => [z]) (bl_of o), O.fin hr (.int _)⟩
    · exact hr.elim) hm (by decide +kernel) ha hg (hs := hs)
theorem min_if (i j : Int) : (if j < i then j else i) = min i j := by
  rw [Int.min_def]
  split <;> split <;> omega
theorem max_if (i j : Int) : (if j > i then j else i) = max i j := by
  rw [Int.max_def]
  split <;> split <;> omega
theorem dp_min2 {p : Pos} (hc : X.calm = true) (hm : X.mg "min" = none) (ha : PA X [a, b] (LA X.K mr)) (hg : Gl X "min" := by rfl) (hs : starEach [a, b] X.env = (false, eval a X.env) :: starEach [b] X.env := by rfl) (hpl : (backTo pos (starEach [b] X.env)).any (·.1) = false := by rfl) : PE X (.Call (.Name "min" p) [a, b] [] pos) (LP X.K (mB oMin2 mr)) :=
  dp_callB (call_min2 hc) (fun H Q W fp xf Q0 rs vs W2 H2 g hr O os F => by
    unfold oMin2 at hr
    split at hr
    · obtain ⟨v, u, rfl, o1, o2⟩ := os.two F
      refine ⟨_, _, by rw [int_of o1, int_of o2], ?_⟩
      rw [min_if]
      exact O.fin hr (.int _)
    · exact hr.elim) hm (by decide +kernel) ha hg (hs := hs) (hpl := hpl)
theorem dp_max2 {p : Pos} (hc : X.calm = true) (hm : X.mg "max" = none) (ha : PA X [a, b] (LA X.K mr)) (hg : Gl X "max" := by rfl) (hs : starEach [a, b] X.env = (false, eval a X.env) :: starEach [b] X.env := by rfl) (hpl : (backTo pos (starEach [b] X.env)).any (·.1) = false := by rfl) : PE X (.Call (.Name "max" p) [a, b] [] pos) (LP X.K (mB oMax2 mr)) :=
  dp_callB (call_max2 hc) (fun H Q W fp xf Q0 rs vs W2 H2 g hr O os F => by
    unfold oMax2 at hr
    split at hr
    · obtain ⟨v, u, rfl, o1, o2⟩ := os.two F
      refine ⟨_, _, by rw [int_of o1, int_of o2], ?_⟩
      rw [max_if]
      exact O.fin hr (.int _)
    · exact hr.elim) hm (by decide +kernel) ha hg (hs := hs) (hpl := hpl)
theorem nuMin3_int (i j k : Int) : nuMin3 (.int i) (.int j) (.int k) = some (.int (min (min i j) k)) := by
  have h2 : ∀ i j : Int, nuMin2 (.int i) (.int j) = some (.int (min i j)) := fun i j => by
    show some (if decide (j < i) = true then V.int j else V.int i) = _
    rw [Int.min_def]
    by_cases h : j < i
    · rw [if_pos (decide_eq_true h), if_neg (by omega)]
    · rw [if_neg (by rw [decide_eq_false h]; exact Bool.false_ne_true), if_pos (by omega)]
  show (nuMin2 (.int i) (.int j)).bind _ = _
  rw [h2]
  exact h2 _ _
theorem dp_min3 {p : Pos} (hc : X.calm = true) (hm : X.mg "min" = none) (ha : PA X [a, b, c] (LA X.K mr)) (hg : Gl X "min" := by rfl) (hs : starEach [a, b, c] X.env = (false, eval a X.env) :: starEach [b, c] X.env := by rfl) (hpl : (backTo pos (starEach [b, c] X.env)).any (·.1) = false := by rfl) : PE X (.Call (.Name "min" p) [a, b, c] [] pos) (LP X.K (mB oMin3 mr)) :=
  dp_callB (call_min3Nu hc) (fun H Q W fp xf Q0 rs vs W2 H2 g hr O os F => by
    unfold oMin3 at hr
    split at hr
    · obtain ⟨v, us, g', rfl, o1, os, F⟩ := os.cons_inv F
      obtain ⟨v2, v3, rfl, o2, o3⟩ := os.two F
      refine ⟨v, v2, v3, _, rfl, by rw [int_of o1, int_of o2, int_of o3]; exact nuMin3_int _ _ _, O.fin hr (.int _)⟩
    · exact hr.elim) hm (by decide +kernel) ha hg (hs := hs) (hpl := hpl)
/-- sum of a tuple of ints -/
def rSumT (K : PySem.W.Frag) : List V → Hp → VK → Prop := fun vs H Q => ∃ (a : Addr) (ns : List Int), vs = [V.ref a] ∧ SqT K H a (ns.map V.int) ∧ Q (.int ns.sum) H
theorem cr_sumT (hc : X.calm = true) : CallR X (.builtin "sum") (rSumT X.K) := by
  intro pins s σ H vs us Q I r h
  obtain ⟨a, ns, rfl, hs, q⟩ := h
  obtain ⟨its, rv, hl, _⟩ := I.tuple hs
  rw [Vals.ref1 r]
  have hi : IntsAre its ns := rv.ints
  obtain ⟨xs, e⟩ := hi.allInts.items
  have hn : numsOf (intItems xs).toList = ns := by rw [← e]; exact hi.numsOf
  rw [nums_intItems] at hn
  have hl2 : s.heap.IsTuple a (intItems xs) := by
    rw [e] at hl
    exact hl
  refine PySem.W.ktm_sumG (I.ok.hd hc) hl2 fun h' tk t' hk => ?_
  rw [preSum_eq, List.take_of_length_le (by simp), hn]
  exact ⟨.int _, H, I.kept hk, ⟨_, rfl⟩, q⟩
theorem dp_sum {p : Pos} (hc : X.calm = true) (hm : X.mg "sum" = none) (ha : PA X [a] (LA X.K mr)) (hg : Gl X "sum" := by rfl) (hs : starEach [a] X.env = (false, eval a X.env) :: starEach [] X.env := by rfl) : PE X (.Call (.Name "sum" p) [a] [] pos) (LP X.K (mB oSum mr)) :=
  dp_callB ((cr_sum hc).or (cr_sumT hc)) (fun H Q W fp xf Q0 rs vs W2 H2 g hr O os F => by
    unfold oSum at hr
    split at hr
    · obtain ⟨ns, e, q⟩ := hr
      obtain ⟨v, rfl, o⟩ := os.one F
      cases (show Rep X.K W2 v (.tup _) from o) with
      | tup g r =>
        have e2 := allOf_ints e r
        subst e2
        exact .inr ⟨_, ns, rfl, .of (O.S2.sub _ _ g), O.fin q (.int _)⟩
    · obtain ⟨ds, ns, e1, e2, q⟩ := hr
      obtain ⟨v, rfl, o⟩ := os.one F
      obtain ⟨p, us, rfl, g, r⟩ := els_L e1 o O.S2
      have e3 := allOf_ints e2 r
      subst e3
      exact .inl ⟨p, ns, rfl, .of g, O.fin q (.int _)⟩
    · exact hr.elim) hm (by decide +kernel) ha hg (hs := hs)
theorem dp_all {p : Pos} (hc : X.calm = true) (hm : X.mg "all" = none) (ha : PA X [a] (LA X.K mr)) (hg : Gl X "all" := by rfl) (hs : starEach [a] X.env = (false, eval a X.env) :: starEach [] X.env := by rfl) : PE X (.Call (.Name "all" p) [a] [] pos) (LP X.K (mB oAll mr)) :=
  dp_callB (cr_all hc) (fun H Q W fp xf Q0 rs vs W2 H2 g hr O os F => by
    unfold oAll at hr
    split at hr
    · obtain ⟨ds, ns, e1, e2, q⟩ := hr
      obtain ⟨v, rfl, o⟩ := os.one F
      obtain ⟨p, us, rfl, g, r⟩ := els_L e1 o O.S2
      have e3 := allOf_bls e2 r
      subst e3
      exact ⟨p, ns, rfl, .of g, O.fin q (.bl _)⟩
    · exact hr.elim) hm (by decide +kernel) ha hg (hs := hs)
theorem len_pos {α : Type} {l : List α} (h : l ≠ []) : 0 < l.length := List.length_pos_iff.mpr h
theorem dp_maxL {p : Pos} (hc : X.calm = true) (hm : X.mg "max" = none) (ha : PA X [a] (LA X.K mr)) (hg : Gl X "max" := by rfl) (hs : starEach [a] X.env = (false, eval a X.env) :: starEach [] X.env := by rfl) : PE X (.Call (.Name "max" p) [a] [] pos) (LP X.K (mB oMaxL mr)) :=
  dp_callB (cr_max hc) (fun H Q W fp xf Q0 rs vs W2 H2 g hr O os F => by
    unfold oMaxL at hr
    split at hr
    · obtain ⟨ds, ns, e1, e2, hne, q⟩ := hr
      obtain ⟨v, rfl, o⟩ := os.one F
      obtain ⟨p, us, rfl, g, r⟩ := els_L e1 o O.S2
      have e3 := allOf_ints e2 r
      subst e3
      exact ⟨p, ns, rfl, .of g, len_pos hne, fun m h1 h2 => O.fin (q m h1 h2) (.int _)⟩
    · exact hr.elim) hm (by decide +kernel) ha hg (hs := hs)
theorem dp_minL {p : Pos} (hc : X.calm = true) (hm : X.mg "min" = none) (ha : PA X [a] (LA X.K mr)) (hg : Gl X "min" := by rfl) (hs : starEach [a] X.env = (false, eval a X.env) :: starEach [] X.env := by rfl) : PE X (.Call (.Name "min" p) [a] [] pos) (LP X.K (mB oMinL mr)) :=
  dp_callB (cr_min hc) (fun H Q W fp xf Q0 rs vs W2 H2 g hr O os F => by
    unfold oMinL at hr
    split at hr
    · obtain ⟨ds, ns, e1, e2, hne, q⟩ := hr
      obtain ⟨v, rfl, o⟩ := os.one F
      obtain ⟨p, us, rfl, g, r⟩ := els_L e1 o O.S2
      have e3 := allOf_ints e2 r
      subst e3
      exact ⟨p, ns, rfl, .of g, len_pos hne, fun m h1 h2 => O.fin (q m h1 h2) (.int _)⟩
    · exact hr.elim) hm (by decide +kernel) ha hg (hs := hs)
theorem dp_list {p : Pos} (hm : X.mg "list" = none) (ha : PA X [a] (LA X.K mr)) (hg : Gl X "list" := by rfl) (hs : starEach [a] X.env = (false, eval a X.env) :: starEach [] X.env := by rfl) : PE X (.Call (.Name "list" p) [a] [] pos) (LP X.K (mB oList mr)) :=
  dp_callTy call_list_of (fun H Q W fp xf Q0 rs vs W2 H2 g hr O os F => by
    unfold oList at hr
    split at hr
    · obtain ⟨v, rfl, o⟩ := os.one F
      cases (show Rep X.K W2 v (.lst _) from o) with
      | lst g r => exact ⟨_, _, rfl, .inl (.of (O.S2.sub _ _ g)), fun l n => O.newL hr r l n⟩
    · obtain ⟨v, rfl, o⟩ := os.one F
      cases (show Rep X.K W2 v (.tup _) from o) with
      | tup g r => exact ⟨_, _, rfl, .inr (.of (O.S2.sub _ _ g)), fun l n => O.newL hr r l n⟩
    · obtain ⟨ds, e, q⟩ := hr
      obtain ⟨v, rfl, o⟩ := os.one F
      obtain ⟨p, us, rfl, g, r⟩ := els_L e o O.S2
      exact ⟨p, us, rfl, .inl (.of g), fun l n => O.newL q r l n⟩
    · exact hr.elim) hm (by decide +kernel) ha hg (hs := hs)
theorem dp_tuple {p : Pos} (hm : X.mg "tuple" = none) (ha : PA X [a] (LA X.K mr)) (hg : Gl X "tuple" := by rfl) (hs : starEach [a] X.env = (false, eval a X.env) :: starEach [] X.env := by rfl) : PE X (.Call (.Name "tuple" p) [a] [] pos) (LP X.K (mB oTuple mr)) :=
  dp_callTy call_tuple_of (fun H Q W fp xf Q0 rs vs W2 H2 g hr O os F => by
    unfold oTuple at hr
    split at hr
    · obtain ⟨v, rfl, o⟩ := os.one F
      cases (show Rep X.K W2 v (.tup _) from o) with
      | tup g r => exact ⟨_, _, rfl, .inr ⟨.of (O.S2.sub _ _ g), O.fin hr (.tup g r)⟩⟩
    · obtain ⟨ds, e, q⟩ := hr
      obtain ⟨v, rfl, o⟩ := os.one F
      obtain ⟨p, us, rfl, g, r⟩ := els_L e o O.S2
      refine ⟨p, us, rfl, .inl ⟨.of g, fun l n => ?_⟩⟩
      obtain ⟨t4, S4, w4, nd, z⟩ := new_node (o := .tup us) O.t O.S2 (OwnAll.leafs (vs := []) r) ⟨List.nodup_nil, fun _ m => by cases m⟩ n
      have ow : Own X.K W2 (upd H2 l (.tup us)) (.ref l) (.tup (ds.map .leaf)) [l] := .tup upd_same w4
      have zz : ∀ a ∈ [l], H a = none ∧ W2.G a = none ∧ W2.S a = none := fun a m => z a m
      obtain ⟨W', t', S', _, o'⟩ := ffz_ok (r := .nw (.tup (ds.map .leaf))) (v := .ref l) O.S t4 S4 ⟨_, ow, nd, zz⟩
      have o' : ResOk X.K H fp W' _ (.ref l) (match (OT.tup (ds.map .leaf)).fzd with | some d => .fz d | none => .nw (.tup (ds.map .leaf))) := o'
      rw [fzd_tup] at o'
      exact O.k _ q _ W' _ t' S' o'
    · exact hr.elim) hm (by decide +kernel) ha hg (hs := hs)
end
end R
/-! ## the rules, statements -/
namespace R
open PySem PySem.Spec PyProof.Rows L2
section
variable {K : PySem.W.Frag} {W W1 W2 W' : Wd} {H H1 H2 H' : Hp} {f f1 fp xf : List Addr} {σ : L2.St} {Q : VK} {r : Rs} {v : V} {env : Env}
theorem List.set_getElem_self_some {α : Type} {l : List α} {i : Nat} {x : α} (h : l[i]? = some x) : l.set i x = l := by
  obtain ⟨hi, e⟩ := List.getElem?_eq_some_iff.mp h
  rw [← e, List.set_getElem_self]
theorem Sat.perm {fp' xf' : List Addr} (s : Sat K W H fp xf) (p : fp'.Perm fp) (x : ∀ a ∈ xf', a ∈ xf) : Sat K W H fp' xf' :=
  ⟨s.sub, s.vol, p.nodup_iff.mpr s.nd, fun a m => s.off a (p.mem_iff.mp m), fun a m => ⟨fun q => (s.xof a (x a m)).1 (p.mem_iff.mp q), (s.xof a (x a m)).2⟩⟩
/-- fewer cells -/
theorem Sat.less {g : List Addr} (s : Sat K W H (g ++ fp) xf) : Sat K W H fp xf :=
  ⟨s.sub, s.vol, (List.nodup_append.mp s.nd).2.1, fun a m => s.off a (List.mem_append_right _ m), fun a m => ⟨fun q => (s.xof a m).1 (List.mem_append_right _ q), (s.xof a m).2⟩⟩
theorem EnvOk.len (E : EnvOk K W H σ env fp xf) : σ.length = env.length := by
  induction E with
  | nil => rfl
  | no _ ih => simp [ih]
  | fz _ _ ih => simp [ih]
  | nw _ _ ih => simp [ih]
  | ex _ _ ih => simp [ih]
/-- a slot is emptied (whatever is stored there) -/
theorem EnvOk.clear {σ : L2.St} {env : Env} {fp xf : List Addr} (E : EnvOk K W H σ env fp xf) : ∀ (i : Nat) (x : Option V), ∃ f fp' xf', EnvOk K W H (σ.set i x) (env.set i none) fp' xf' ∧ fp.Perm (f ++ fp') ∧ (∀ a ∈ xf', a ∈ xf) ∧
    ∀ t v, env[i]? = some (some (.nw t)) → σ[i]? = some (some v) → Own K W H v t f := by
  induction E with
  | nil => intro i x; exact ⟨[], [], [], .nil, .refl _, fun _ m => m, fun t v e => by simp at e⟩
  | no E ih =>
    intro i x
    cases i with
    | zero => exact ⟨[], _, _, .no E, .refl _, fun _ m => m, fun t v e => by simp at e⟩
    | succ i =>
      obtain ⟨f, fp', xf', a, b, c, d⟩ := ih i x
      exact ⟨f, fp', xf', .no a, b, c, fun t v e1 e2 => d t v (by simpa using e1) (by simpa using e2)⟩
  | fz r E ih =>
    intro i x
    cases i with
    | zero => exact ⟨[], _, _, .no E, .refl _, fun _ m => m, fun t v e => by simp at e⟩
    | succ i =>
      obtain ⟨f, fp', xf', a, b, c, d⟩ := ih i x
      exact ⟨f, fp', xf', .fz r a, b, c, fun t v e1 e2 => d t v (by simpa using e1) (by simpa using e2)⟩
  | nw r E ih =>
    rename_i v t f0 σ e fp xf
    intro i x
    cases i with
    | zero => exact ⟨f0, _, _, .no E, .refl _, fun _ m => m, fun t v e1 e2 => by simp at e1 e2; subst e1 e2; exact r⟩
    | succ i =>
      obtain ⟨f, fp', xf', a, b, c, d⟩ := ih i x
      refine ⟨f, f0 ++ fp', xf', .nw r a, ?_, c, fun t v e1 e2 => d t v (by simpa using e1) (by simpa using e2)⟩
      have q : (f0 ++ (f ++ fp')).Perm (f ++ (f0 ++ fp')) := by
        rw [← List.append_assoc, ← List.append_assoc]
        exact List.perm_append_comm.append_right _
      exact (b.append_left f0).trans q
  | ex r E ih =>
    intro i x
    cases i with
    | zero => exact ⟨[], _, _, .no E, .refl _, fun _ m => List.mem_append_right _ m, fun t v e => by simp at e⟩
    | succ i =>
      obtain ⟨f, fp', xf', a, b, c, d⟩ := ih i x
      exact ⟨f, fp', _, .ex r a, b, fun z m => (List.mem_append.mp m).elim (List.mem_append_left _) fun m => List.mem_append_right _ (c z m), fun t v e1 e2 => d t v (by simpa using e1) (by simpa using e2)⟩
/-- an empty slot is filled -/
theorem EnvOk.fill {σ : L2.St} {env : Env} {fp xf : List Addr} (E : EnvOk K W H σ env fp xf) : ∀ {i : Nat}, i < σ.length → env[i]? = some none →
    (∀ d, r = .fz d → Rep K W v d → EnvOk K W H (σ.set i (some v)) (env.set i (some r)) fp xf) ∧
    (∀ t f, r = .nw t → Own K W H v t f → ∃ fp', EnvOk K W H (σ.set i (some v)) (env.set i (some r)) fp' xf ∧ fp'.Perm (f ++ fp)) ∧
    (∀ t f, r = .ex t → Own K W H v t f → ∃ xf', EnvOk K W H (σ.set i (some v)) (env.set i (some r)) fp xf' ∧ ∀ a ∈ xf', a ∈ f ∨ a ∈ xf) := by
  induction E with
  | nil => intro i hi; simp at hi
  | no E ih =>
    intro i hi he
    cases i with
    | zero => exact ⟨fun d e q => by subst e; exact .fz q E, fun t f e q => by subst e; exact ⟨_, .nw q E, .refl _⟩, fun t f e q => by subst e; exact ⟨_, .ex q E, fun a m => List.mem_append.mp m⟩⟩
    | succ i =>
      obtain ⟨a, b, c⟩ := ih (i := i) (by simpa using hi) (by simpa using he)
      refine ⟨fun d e q => .no (a d e q), fun t f e q => ?_, fun t f e q => ?_⟩
      · obtain ⟨fp', x, y⟩ := b t f e q
        exact ⟨fp', .no x, y⟩
      · obtain ⟨fp', x, y⟩ := c t f e q
        exact ⟨fp', .no x, y⟩
  | fz r0 E ih =>
    intro i hi he
    cases i with
    | zero => simp at he
    | succ i =>
      obtain ⟨a, b, c⟩ := ih (i := i) (by simpa using hi) (by simpa using he)
      refine ⟨fun d e q => .fz r0 (a d e q), fun t f e q => ?_, fun t f e q => ?_⟩
      · obtain ⟨fp', x, y⟩ := b t f e q
        exact ⟨fp', .fz r0 x, y⟩
      · obtain ⟨fp', x, y⟩ := c t f e q
        exact ⟨fp', .fz r0 x, y⟩
  | nw r0 E ih =>
    rename_i f0 _ _ fp xf
    intro i hi he
    cases i with
    | zero => simp at he
    | succ i =>
      obtain ⟨a, b, c⟩ := ih (i := i) (by simpa using hi) (by simpa using he)
      refine ⟨fun d e q => .nw r0 (a d e q), fun t f e q => ?_, fun t f e q => ?_⟩
      · obtain ⟨fp', x, y⟩ := b t f e q
        refine ⟨f0 ++ fp', .nw r0 x, (y.append_left f0).trans ?_⟩
        rw [← List.append_assoc, ← List.append_assoc]
        exact List.perm_append_comm.append_right _
      · obtain ⟨fp', x, y⟩ := c t f e q
        exact ⟨fp', .nw r0 x, y⟩
  | ex r0 E ih =>
    intro i hi he
    cases i with
    | zero => simp at he
    | succ i =>
      obtain ⟨a, b, c⟩ := ih (i := i) (by simpa using hi) (by simpa using he)
      refine ⟨fun d e q => .ex r0 (a d e q), fun t f e q => ?_, fun t f e q => ?_⟩
      · obtain ⟨fp', x, y⟩ := b t f e q
        exact ⟨fp', .ex r0 x, y⟩
      · obtain ⟨fp', x, y⟩ := c t f e q
        refine ⟨_, .ex r0 x, fun a m => ?_⟩
        rcases List.mem_append.mp m with m | m
        · exact .inr (List.mem_append_left _ m)
        · exact (y a m).imp id (List.mem_append_right _)
/-- a slot's new value: f its cells, where they are held alone -/
def SlotOk (K : PySem.W.Frag) (W : Wd) (H : Hp) (fp : List Addr) (v : V) (r : Rs) (f : List Addr) : Prop := match r with
  | .fz d => f = [] ∧ Rep K W v d
  | .nw t => Own K W H v t f
  | .ex t => f = [] ∧ ∃ g, Own K W H v t g ∧ ∀ a ∈ g, a ∉ fp ∧ W.S a = none
  | .br _ => False
theorem perm4 (g fr f fp1 : List Addr) : (g ++ (fr ++ (f ++ fp1))).Perm (fr ++ (f ++ (g ++ fp1))) := by
  have a : (g ++ (fr ++ (f ++ fp1))).Perm (fr ++ (g ++ (f ++ fp1))) := by
    rw [← List.append_assoc g fr, ← List.append_assoc fr g]
    exact List.perm_append_comm.append_right _
  have b : (g ++ (f ++ fp1)).Perm (f ++ (g ++ fp1)) := by
    rw [← List.append_assoc, ← List.append_assoc]
    exact List.perm_append_comm.append_right _
  exact a.trans (b.append_left fr)
theorem EnvOk.put {i : Nat} {f fr : List Addr} (E : EnvOk K W H σ env fp xf) (S : Sat K W H (fr ++ (f ++ fp)) xf) (o : SlotOk K W H (fr ++ (f ++ fp)) v r f) : ∃ fp' xf', EnvOk K W H (σ.set i (some v)) (env.set i (some r)) fp' xf' ∧ Sat K W H (fr ++ fp') xf' ∧ ∀ a ∈ fp', a ∈ f ∨ a ∈ fp := by
  by_cases hi : i < σ.length
  case neg =>
    rw [List.set_eq_of_length_le (by omega), List.set_eq_of_length_le (by rw [← E.len]; omega)]
    refine ⟨fp, xf, E, Sat.less (g := f) (S.perm ?_ fun _ m => m), fun _ m => .inr m⟩
    rw [← List.append_assoc f fr, ← List.append_assoc fr f]
    exact List.perm_append_comm.append_right _
  obtain ⟨g, fp1, xf1, E1, p1, x1, _⟩ := E.clear i none
  have hi2 : i < (σ.set i none).length := by simpa using hi
  have he : (env.set i none)[i]? = some none := by
    rw [List.getElem?_set_self]
    rw [← E.len]; exact hi
  have sub1 : ∀ a ∈ fp1, a ∈ fp := fun a m => p1.mem_iff.mpr (List.mem_append_right _ m)
  have S1 : Sat K W H (fr ++ (f ++ fp1)) xf1 := by
    have q : (g ++ (fr ++ (f ++ fp1))).Perm (fr ++ (f ++ fp)) := (perm4 g fr f fp1).trans ((p1.symm.append_left f).append_left fr)
    exact (S.perm q x1).less
  obtain ⟨a, b, c⟩ := E1.fill (r := r) (v := v) hi2 he
  have es : (σ.set i none).set i (some v) = σ.set i (some v) := List.set_set _
  have ee : (env.set i none).set i (some r) = env.set i (some r) := List.set_set _
  rw [es, ee] at a b c
  cases r with
  | fz d =>
    obtain ⟨rfl, o⟩ := o
    exact ⟨fp1, xf1, a d rfl o, S1, fun z m => .inr (sub1 z m)⟩
  | nw t =>
    obtain ⟨fp', e, p⟩ := b t f rfl o
    exact ⟨fp', xf1, e, S1.perm (p.append_left fr) fun _ m => m, fun z m => (List.mem_append.mp (p.mem_iff.mp m)).imp id (sub1 z)⟩
  | ex t =>
    obtain ⟨rfl, g2, o, z2⟩ := o
    obtain ⟨xf', e, p⟩ := c t g2 rfl o
    refine ⟨fp1, xf', e, ⟨S1.sub, S1.vol, S1.nd, S1.off, fun z m => ?_⟩, fun z m => .inr (sub1 z m)⟩
    rcases p z m with m | m
    · refine ⟨fun q => (z2 z m).1 ?_, (z2 z m).2, o.alloc z m⟩
      rcases List.mem_append.mp q with q | q
      · exact List.mem_append_left _ q
      · exact List.mem_append_right _ (sub1 z q)
    · exact S1.xof z m
  | br t => exact o.elim
end
/-- what holds behind a statement; pr: slots that are not stored -/
structure Post (K : PySem.W.Frag) (W : Wd) (H : Hp) (fp : List Addr) (pr : List Nat) (σ σ' : L2.St) (W' : Wd) (H' : Hp) (env' : Env) (fp' xf' : List Addr) : Prop where
  t : Stp W H fp W' H'
  E : EnvOk K W' H' σ' env' fp' xf'
  S : Sat K W' H' fp' xf'
  nf : ∀ a ∈ fp', a ∈ fp ∨ H a = none
  pr : ∀ i ∈ pr, σ'[i]? = σ[i]?
/-- a value that is given back: its cells are new, or were the def's -/
def RetOk (K : PySem.W.Frag) (H : Hp) (fp fp' : List Addr) (W' : Wd) (H' : Hp) (v : V) (r : Rs) : Prop := match r with
  | .fz d => Rep K W' v d
  | .nw t => ∃ f, Own K W' H' v t f ∧ f.Nodup ∧ ∀ a ∈ f, (H a = none ∨ a ∈ fp) ∧ a ∉ fp' ∧ W'.G a = none ∧ W'.S a = none
  | _ => False
def LS (K : PySem.W.Frag) (pr : List Nat) (m : DS) : TS := fun D σ H => ∃ (W : Wd) (env : Env) (fp xf : List Addr) (K0 : DK), EnvOk K W H σ env fp xf ∧ Sat K W H fp xf ∧ m env K0 ∧
  (∀ e, K0.nx e → ∀ σ' W' H' fp' xf', Post K W H fp pr σ σ' W' H' e fp' xf' → D.nx σ' H') ∧
  (∀ e, K0.bk e → ∀ σ' W' H' fp' xf', Post K W H fp pr σ σ' W' H' e fp' xf' → D.bk σ' H') ∧
  (∀ e, K0.ct e → ∀ σ' W' H' fp' xf', Post K W H fp pr σ σ' W' H' e fp' xf' → D.ct σ' H') ∧
  (∀ r e, K0.rt r e → ∀ v σ' W' H' fp' xf', Post K W H fp pr σ σ' W' H' e fp' xf' → RetOk K H fp fp' W' H' v r → D.rt v H')
section
variable {K : PySem.W.Frag} {W W1 W2 W' : Wd} {H H1 H2 H' : Hp} {f f1 fp fp1 fp2 xf xf1 xf2 : List Addr} {σ σ1 σ2 : L2.St} {Q : VK} {r : Rs} {v : V} {env env1 env2 : Env} {pr : List Nat}
theorem Post.pure (t : Stp W H [] W1 H1) (E : EnvOk K W1 H1 σ env fp xf) (S : Sat K W1 H1 fp xf) : Post K W H fp pr σ σ W1 H1 env fp xf := ⟨t.up, E, S, fun _ m => .inl m, fun _ _ => rfl⟩
theorem Post.trans (a : Post K W H fp pr σ σ1 W1 H1 env1 fp1 xf1) (b : Post K W1 H1 fp1 pr σ1 σ2 W2 H2 env2 fp2 xf2) : Post K W H fp pr σ σ2 W2 H2 env2 fp2 xf2 :=
  ⟨a.t.trans b.t a.nf, b.E, b.S, fun c m => (b.nf c m).elim (a.nf c) fun z => .inr (by
    cases q : H c with
    | none => rfl
    | some o => exact absurd z (a.t.al c (some_ne q))), fun i m => (b.pr i m).trans (a.pr i m)⟩
theorem RetOk.back {fp'' : List Addr} (h : RetOk K H1 fp1 fp'' W2 H2 v r) (a : Post K W H fp pr σ σ1 W1 H1 env1 fp1 xf1) : RetOk K H fp fp'' W2 H2 v r := by
  cases r with
  | fz d => exact h
  | nw t =>
    obtain ⟨f, o, nd, z⟩ := h
    refine ⟨f, o, nd, fun c m => ⟨?_, (z c m).2⟩⟩
    rcases (z c m).1 with q | q
    · cases q2 : H c with
      | none => exact .inl rfl
      | some o => exact absurd q (a.t.al c (some_ne q2))
    · exact (a.nf c q).symm
  | br t => exact h
  | ex t => exact h
theorem RetOk.of (h : ResOk K H fp W2 H2 v r) (ho : r.own) (S : Sat K W H fp xf) : RetOk K H fp fp W2 H2 v r := by
  cases r with
  | fz d => exact h
  | nw t =>
    obtain ⟨f, o, nd, z⟩ := h
    exact ⟨f, o, nd, fun a m => ⟨.inl (z a m).1, fun q => (S.off a q).2.2 (z a m).1, (z a m).2⟩⟩
  | br t => exact ho.elim
  | ex t => exact ho.elim
/-- a statement reached behind another one -/
theorem LS.from {m : DS} {D : Ends} {K0 : DK} (P : Post K W H fp pr σ σ1 W1 H1 env1 fp1 xf1) (h : m env1 K0)
    (nx : ∀ e, K0.nx e → ∀ σ' W' H' fp' xf', Post K W H fp pr σ σ' W' H' e fp' xf' → D.nx σ' H')
    (bk : ∀ e, K0.bk e → ∀ σ' W' H' fp' xf', Post K W H fp pr σ σ' W' H' e fp' xf' → D.bk σ' H')
    (ct : ∀ e, K0.ct e → ∀ σ' W' H' fp' xf', Post K W H fp pr σ σ' W' H' e fp' xf' → D.ct σ' H')
    (rt : ∀ r e, K0.rt r e → ∀ v σ' W' H' fp' xf', Post K W H fp pr σ σ' W' H' e fp' xf' → RetOk K H fp fp' W' H' v r → D.rt v H') : LS K pr m D σ1 H1 :=
  ⟨W1, env1, fp1, xf1, K0, P.E, P.S, h, fun e q σ' W' H' fp' xf' p => nx e q σ' W' H' fp' xf' (P.trans p), fun e q σ' W' H' fp' xf' p => bk e q σ' W' H' fp' xf' (P.trans p),
    fun e q σ' W' H' fp' xf' p => ct e q σ' W' H' fp' xf' (P.trans p), fun r e q v σ' W' H' fp' xf' p o => rt r e q v σ' W' H' fp' xf' (P.trans p) (o.back P)⟩
/-- an expression's value as a slot's -/
theorem ResOk.toSlot (h : ResOk K H fp W2 H2 v r) (hs : r.slot) (S : Sat K W H fp xf) (S2 : Sat K W2 H2 fp xf) : ∃ f, SlotOk K W2 H2 (f ++ fp) v r f ∧ Sat K W2 H2 (f ++ fp) xf ∧ ∀ a ∈ f, H a = none := by
  cases r with
  | fz d => exact ⟨[], ⟨rfl, h⟩, S2, fun _ m => by cases m⟩
  | nw t =>
    obtain ⟨f, o, nd, z⟩ := h
    refine ⟨f, o, ⟨S2.sub, S2.vol, List.nodup_append.mpr ⟨nd, S2.nd, fun a m b m2 e => ?_⟩, fun a m => ?_, fun a m => ⟨fun q => ?_, (S2.xof a m).2⟩⟩, fun a m => (z a m).1⟩
    · subst e
      exact (S.off a m2).2.2 (z a m).1
    · rcases List.mem_append.mp m with m | m
      · exact ⟨(z a m).2.1, (z a m).2.2, o.alloc a m⟩
      · exact S2.off a m
    · rcases List.mem_append.mp q with q | q
      · exact (S.xof a m).2.2 (z a q).1
      · exact (S2.xof a m).1 q
  | ex t =>
    obtain ⟨f, o, z⟩ := h
    exact ⟨[], ⟨rfl, f, o, fun a m => ⟨(z a m).2, (z a m).1⟩⟩, S2, fun _ m => by cases m⟩
  | br t => exact hs.elim
/-- a store behind a pure step -/
theorem Post.store {i : Nat} (S : Sat K W H fp xf) (t : Stp W H [] W1 H1) (E : EnvOk K W1 H1 σ env fp xf) (S1 : Sat K W1 H1 fp xf) (o : ResOk K H fp W1 H1 v r) (hs : r.slot) (hp : i ∉ pr) :
    ∃ fp' xf', Post K W H fp pr σ (σ.set i (some v)) W1 H1 (env.set i (some r)) fp' xf' := by
  obtain ⟨f, so, sf, z⟩ := o.toSlot hs S S1
  obtain ⟨fp', xf', E', S', y⟩ := E.put (fr := []) sf so
  refine ⟨fp', xf', t.up, E', S', fun a m => (y a m).elim (fun q => .inr (z a q)) .inl, fun j m => ?_⟩
  rw [List.getElem?_set_ne]
  intro e
  exact hp (by rw [e]; exact m)
end
section
variable {X : Cx} {a b c : Expr} {ma mb mc : DE} {pos : Pos} {ta tb : DT} {st : Stmt} {rest s1 s2 : List Stmt} {m m1 m2 : DS} {pr : List Nat}
theorem inv_len {X : Cx} {K : PySem.W.Frag} {W : Wd} {H : Hp} {σ : L2.St} {env : Env} {fp xf : List Addr} (_ : EnvOk K W H σ env fp xf) : True := trivial
theorem dss_nil : PSs X [] (LS X.K pr mNext) := pss_imp pss_nil fun D σ H h => by
  obtain ⟨W, env, fp, xf, K0, E, S, hm, nx, _⟩ := h
  exact nx _ hm σ W H fp xf (.pure .refl E S)
theorem dss_cons (h1 : PS X st (LS X.K pr m1)) (h2 : PSs X rest (LS X.K pr m2)) : PSs X (st :: rest) (LS X.K pr (mSeq m1 m2)) := pss_imp (pss_cons h1 h2) fun D σ H h => by
  obtain ⟨W, env, fp, xf, K0, E, S, hm, nx, bk, ct, rt⟩ := h
  exact ⟨W, env, fp, xf, _, E, S, hm, fun e q σ' W' H' fp' xf' P => LS.from P q nx bk ct rt, bk, ct, rt⟩
theorem dss_one (h1 : PS X st (LS X.K pr m1)) : PSs X [st] (LS X.K pr m1) := pss_one h1
theorem ds_pass : PS X (.Pass pos) (LS X.K pr mNext) := ps_imp ps_pass fun D σ H h => by
  obtain ⟨W, env, fp, xf, K0, E, S, hm, nx, _⟩ := h
  exact nx _ hm σ W H fp xf (.pure .refl E S)
theorem ds_break : PS X (.Break pos) (LS X.K pr mBreak) := ps_imp ps_break fun D σ H h => by
  obtain ⟨W, env, fp, xf, K0, E, S, hm, nx, bk, _⟩ := h
  exact bk _ hm σ W H fp xf (.pure .refl E S)
theorem ds_cont : PS X (.Continue pos) (LS X.K pr mCont) := ps_imp ps_continue fun D σ H h => by
  obtain ⟨W, env, fp, xf, K0, E, S, hm, nx, bk, ct, _⟩ := h
  exact ct _ hm σ W H fp xf (.pure .refl E S)
theorem ds_never : PS X st (LS X.K pr mNever) := ps_imp ps_never fun D σ H h => by
  obtain ⟨W, env, fp, xf, K0, E, S, hm, _⟩ := h
  exact hm
theorem ds_if (hc : PT X c (LT X.K ta)) (ha : PSs X s1 (LS X.K pr m1)) (hb : PSs X s2 (LS X.K pr m2)) : PS X (.If c s1 s2 pos) (LS X.K pr (mIfS ta m1 m2)) := ps_imp (ps_if hc ha hb) fun D σ H h => by
  obtain ⟨W, env, fp, xf, K0, E, S, hm, nx, bk, ct, rt⟩ := h
  refine LT.next E S hm fun c hc W1 H1 t1 S1 E1 => ?_
  cases c with
  | true => exact iteT (LS.from (.pure t1 E1 S1) (show m1 env K0 from hc) nx bk ct rt)
  | false => exact iteF (LS.from (.pure t1 E1 S1) (show m2 env K0 from hc) nx bk ct rt)
theorem ds_ret (ha : PE X a (LP X.K ma)) : PS X (.Return (some a) pos) (LS X.K pr (mRet ma)) := ps_imp (ps_ret ha) fun D σ H h => by
  obtain ⟨W, env, fp, xf, K0, E, S, hm, nx, bk, ct, rt⟩ := h
  refine LP.next E S hm fun r hr v W1 H1 t1 S1 E1 o => ?_
  exact rt r env hr.2 v σ W1 H1 fp xf (.pure t1 E1 S1) (.of o hr.1 S)
theorem ds_retN : PS X (.Return none pos) (LS X.K pr mRetN) := ps_imp ps_retN fun D σ H h => by
  obtain ⟨W, env, fp, xf, K0, E, S, hm, nx, bk, ct, rt⟩ := h
  exact rt _ env hm .non σ W H fp xf (.pure .refl E S) Rep.non
theorem ds_drop (ha : PE X a (LP X.K ma)) (hs : swapsWith a none pos.line X.env = pure false := by rfl) : PS X (.Expr a pos) (LS X.K pr (mDrop ma)) := ps_imp (ps_expr ha hs) fun D σ H h => by
  obtain ⟨W, env, fp, xf, K0, E, S, hm, nx, bk, ct, rt⟩ := h
  refine LP.next E S hm fun r hr v W1 H1 t1 S1 E1 o => ?_
  exact nx env hr σ W1 H1 fp xf (.pure t1 E1 S1)
theorem ds_fz {i : Nat} (hp : i ∉ pr := by decide) (h : PS X st (LS X.K pr m)) : PS X st (LS X.K pr (mFzS i m)) := ps_imp h fun D σ H h => by
  obtain ⟨W, env, fp, xf, K0, E, S, ⟨t, d, he, z, hm⟩, nx, bk, ct, rt⟩ := h
  obtain ⟨v, ev, _⟩ := E.get he S
  obtain ⟨f, fp1, xf1, E1, p1, x1, ow⟩ := E.clear i none
  have o := ow t v he ev
  have sp : Sat X.K W H (f ++ fp1) xf1 := S.perm p1.symm x1
  obtain ⟨nd, _, dj⟩ := List.nodup_append.mp sp.nd
  have zf : ∀ a ∈ f, W.G a = none ∧ W.S a = none ∧ H a ≠ none := fun a m => sp.off a (List.mem_append_left _ m)
  obtain ⟨W', F, R, _⟩ := freeze o z nd fun a m => ⟨(zf a m).1, (zf a m).2.1⟩
  have S1 := F.sat sp.less zf fun a m => ⟨fun q => dj a m a q rfl, fun q => (sp.xof a q).1 (List.mem_append_left _ m)⟩
  have l := F.le fun a m => ⟨(zf a m).1, (zf a m).2.1⟩
  have E2 := E1.mono (W' := W') (H' := H) l fun _ _ _ e => e
  have hi : i < σ.length := (List.getElem?_eq_some_iff.mp ev).1
  have he2 : (env.set i none)[i]? = some none := by
    rw [List.getElem?_set_self]
    rw [← E.len]; exact hi
  have E3 := (E2.fill (r := .fz d) (v := v) (by simpa using hi) he2).1 d rfl R
  rw [List.set_set, List.set_set] at E3
  have es : σ.set i (some v) = σ := List.set_getElem_self_some ev
  rw [es] at E3
  have P : Post X.K W H fp pr σ σ W' H (env.set i (some (.fz d))) fp1 xf1 := ⟨⟨fun a h n => F.out a fun q => n (p1.mem_iff.mpr (List.mem_append_left _ q)), fun _ _ e _ _ => e, fun _ h => h⟩, E3, S1, fun a m => .inl (p1.mem_iff.mpr (List.mem_append_right _ m)), fun _ _ => rfl⟩
  exact LS.from P hm nx bk ct rt
end
end R
/-! ## the rules, stores and loops -/
namespace R
open PySem PySem.Spec PyProof.Rows L2
/-- a target's meaning: fr other cells that stay, f the value's own -/
def LG (K : PySem.W.Frag) (pr : Nat → Prop) (g : DG) : TG := fun v σ H Q => ∃ (W : Wd) (env : Env) (fp xf f fr : List Addr) (r : Rs) (Q0 : Env → Prop), EnvOk K W H σ env fp xf ∧ Sat K W H (fr ++ (f ++ fp)) xf ∧ ResAll K H (fr ++ (f ++ fp)) W H [v] [r] f ∧ g env r Q0 ∧
  ∀ e, Q0 e → ∀ σ' fp' xf', EnvOk K W H σ' e fp' xf' → Sat K W H (fr ++ fp') xf' → (∀ a ∈ fp', a ∈ f ∨ a ∈ fp) → (∀ i, pr i → σ'[i]? = σ[i]?) → Q σ' H
def LGs (K : PySem.W.Frag) (pr : Nat → Prop) (gs : List DG) : TGs := fun vs σ H Q => ∃ (W : Wd) (env : Env) (fp xf f fr : List Addr) (rs : List Rs) (Q0 : Env → Prop), EnvOk K W H σ env fp xf ∧ Sat K W H (fr ++ (f ++ fp)) xf ∧ ResAll K H (fr ++ (f ++ fp)) W H vs rs f ∧ gsN gs rs env Q0 ∧
  ∀ e, Q0 e → ∀ σ' fp' xf', EnvOk K W H σ' e fp' xf' → Sat K W H (fr ++ fp') xf' → (∀ a ∈ fp', a ∈ f ∨ a ∈ fp) → (∀ i, pr i → σ'[i]? = σ[i]?) → Q σ' H
section
variable {K : PySem.W.Frag} {W W1 W2 W' : Wd} {H H1 H2 H' : Hp} {f f1 fp fp1 fp2 xf xf1 xf2 : List Addr} {σ σ1 σ2 : L2.St} {Q : VK} {r : Rs} {v : V} {env env1 env2 : Env} {pr : List Nat}
theorem slot_of {fq : List Addr} {H0 : Hp} (h : ResAll K H0 fq W H [v] [r] f) (hs : r.slot) : SlotOk K W H fq v r f := by
  cases h with
  | fz a b => cases b; exact ⟨rfl, a⟩
  | nw a b => cases b; rw [List.append_nil]; exact a
  | br a z b => exact hs.elim
  | ex a z b => cases b; exact ⟨rfl, _, a, fun c m => ⟨(z c m).2, (z c m).1⟩⟩
end
section
variable {X : Cx} {a b c : Expr} {ma mb mc : DE} {pos : Pos} {ta tb : DT} {st : Stmt} {rest s1 s2 : List Stmt} {m m1 m2 : DS} {pr : List Nat} {g : DG} {gs : List DG} {es : List Expr}
theorem dg_name {i : Nat} {x : Str} {pr : Nat → Prop} (hN : X.N.Nodup) (hi : X.N[i]? = some x) (hx : Loc X.env.scope x := by first | exact Or.inl rfl | exact Or.inr rfl) (hp : ¬ pr i := by decide) (hf : X.fn x = true ∨ X.env.scope.names.lookup x = some .local := by first | exact .inl rfl | exact .inr rfl | assumption) :
    PG X (.Name x pos) (LG X.K pr (gN i)) := by
  refine ⟨fun pins s σ H v u Q I r h => (pg_name hN hi hx hf).run pins s σ H v u Q I r ?_⟩
  obtain ⟨W, env, fp, xf, f, fr, rs, Q0, E, S, o, ⟨hs, hq⟩, k⟩ := h
  obtain ⟨fp', xf', E', S', y⟩ := E.put (i := i) S (slot_of o hs)
  exact k _ hq _ fp' xf' E' S' y fun j m => by
    rw [List.getElem?_set_ne]
    intro e
    exact hp (by rw [e]; exact m)
theorem dgs_nil {pr : Nat → Prop} : PGs X [] (LGs X.K pr []) := by
  refine ⟨fun pins s σ H vs us Q I r h => pgs_nil.run pins s σ H vs us Q I r ?_⟩
  obtain ⟨W, env, fp, xf, f, fr, rs, Q0, E, S, o, hq, k⟩ := h
  cases rs with
  | nil =>
    obtain ⟨rfl, rfl⟩ := o.nil_inv
    exact ⟨rfl, k _ hq _ fp xf E S (fun a m => .inr m) fun _ _ => rfl⟩
  | cons r rs => exact hq.elim
theorem ResAll.head {K : PySem.W.Frag} {H0 : Hp} {fq : List Addr} {W : Wd} {H : Hp} {vs : List V} {r : Rs} {rs : List Rs} {f : List Addr} (o : ResAll K H0 fq W H vs (r :: rs) f) : ∃ v us f1 f2, vs = v :: us ∧ f = f1 ++ f2 ∧ ResAll K H0 fq W H [v] [r] f1 ∧ ResAll K H0 fq W H us rs f2 := by
  cases o with
  | fz a b => exact ⟨_, _, [], _, rfl, rfl, .fz a .nil, b⟩
  | nw a b => exact ⟨_, _, _, _, rfl, rfl, by have z := ResAll.nw (H := H0) (fp := fq) a .nil; rw [List.append_nil] at z; exact z, b⟩
  | br a z b => exact ⟨_, _, [], _, rfl, rfl, .br a z .nil, b⟩
  | ex a z b => exact ⟨_, _, [], _, rfl, rfl, .ex a z .nil, b⟩
theorem ResAll.refp {K : PySem.W.Frag} {H0 H1 : Hp} {fq fq' : List Addr} {W : Wd} {H : Hp} {vs : List V} {rs : List Rs} {f : List Addr} (o : ResAll K H0 fq W H vs rs f) (h : ∀ a ∈ fq', a ∈ fq) : ResAll K H1 fq' W H vs rs f := by
  induction o with
  | nil => exact .nil
  | fz a _ ih => exact .fz a ih
  | nw a _ ih => exact .nw a ih
  | br a z _ ih => exact .br a z ih
  | ex a z _ ih => exact .ex a (fun c m => ⟨(z c m).1, fun q => (z c m).2 (h c q)⟩) ih
theorem dgs_cons {pr : Nat → Prop} (h1 : PG X a (LG X.K pr g)) (h2 : PGs X es (LGs X.K pr gs))
    (he : (assignEach (a :: es) X.env).map (·.2) = assign a X.env :: (assignEach es X.env).map (·.2) := by rfl) : PGs X (a :: es) (LGs X.K pr (g :: gs)) := by
  refine ⟨fun pins s σ H vs us Q I rv h => (pgs_cons h1 h2 he).run pins s σ H vs us Q I rv ?_⟩
  obtain ⟨W, env, fp, xf, f, fr, rs, Q0, E, S, o, hq, k⟩ := h
  cases rs with
  | nil => exact hq.elim
  | cons r rs =>
    obtain ⟨v, us, f1, f2, rfl, rfl, o1, o2⟩ := o.head
    refine ⟨v, us, rfl, W, env, fp, xf, f1, fr ++ f2, r, _, E, ?_, ?_, hq, fun e hq σ' fp' xf' E' S' y z => ?_⟩
    · refine S.perm ?_ fun _ m => m
      rw [List.append_assoc, List.append_assoc]
      refine List.Perm.append_left fr ?_
      rw [← List.append_assoc, ← List.append_assoc]
      exact List.perm_append_comm.append_right _
    · refine o1.refp fun a m => ?_
      simp only [List.mem_append] at m ⊢
      rcases m with (m | m) | m | m
      · exact .inl m
      · exact .inr (.inl (.inr m))
      · exact .inr (.inl (.inl m))
      · exact .inr (.inr m)
    · rw [List.append_assoc] at S'
      refine ⟨W, e, fp', xf', f2, fr, rs, _, E', S', ?_, hq, fun e2 hq2 σ2 fp2 xf2 E2 S2 y2 z2 => ?_⟩
      · refine o2.refp fun a m => ?_
        simp only [List.mem_append] at m ⊢
        rcases m with m | m | m
        · exact .inl m
        · exact .inr (.inl (.inr m))
        · exact (y a m).elim (fun q => .inr (.inl (.inl q))) fun q => .inr (.inr q)
      · refine k e2 hq2 σ2 fp2 xf2 E2 S2 (fun a m => ?_) fun i m => (z2 i m).trans (z i m)
        rcases y2 a m with q | q
        · exact .inl (List.mem_append_right _ q)
        · exact (y a q).imp (List.mem_append_left _) id
/-- a tuple taken apart -/
theorem parts_ok {K : PySem.W.Frag} {H0 : Hp} {fq : List Addr} {W : Wd} {H : Hp} {v : V} {r : Rs} {rs : List Rs} {f fp xf fr : List Addr} (h : r.parts = some rs) (o : ResAll K H0 fq W H [v] [r] f) (S : Sat K W H (fr ++ (f ++ fp)) xf) :
    ∃ a vs g, v = .ref a ∧ SqT K H a vs ∧ ResAll K H0 fq W H vs rs g ∧ Sat K W H (fr ++ (g ++ fp)) xf ∧ ∀ x ∈ g, x ∈ f := by
  cases r with
  | fz d =>
    cases d with
    | tup ds =>
      cases h
      cases o with
      | fz a b =>
        cases b
        cases a with
        | tup g rr =>
          refine ⟨_, _, [], rfl, .of (S.sub _ _ g), ?_, S, fun _ m => by cases m⟩
          have key : ∀ {vs : List V} {ds : List D}, RepAll K W vs ds → ResAll K H0 fq W H vs (ds.map .fz) [] := by
            intro vs ds
            induction ds generalizing vs with
            | nil => intro h; cases h; exact .nil
            | cons d ds ih => intro h; cases h with | cons a b => exact .fz a (ih b)
          exact key rr
    | _ => cases h
  | nw t =>
    cases t with
    | tup ts =>
      cases h
      cases o with
      | nw a b =>
        cases b
        rw [List.append_nil] at S ⊢
        cases a with
        | tup g rr =>
          rename_i p us f'
          have key : ∀ {vs : List V} {ts : List OT} {f : List Addr}, OwnAll K W H vs ts f → ResAll K H0 fq W H vs (ts.map nwOf) f := by
            intro vs ts
            induction ts generalizing vs with
            | nil => intro f h; cases h; exact .nil
            | cons t ts ih =>
              intro f h
              cases h with
              | cons a b =>
                cases t with
                | leaf d => cases a with | leaf a => exact .fz a (ih b)
                | lst _ => exact .nw a (ih b)
                | tup _ => exact .nw a (ih b)
                | ins _ _ _ => exact .nw a (ih b)
                | d0 => exact .nw a (ih b)
          refine ⟨p, us, f', rfl, .of g, key rr, ?_, fun _ m => List.mem_cons_of_mem _ m⟩
          refine Sat.less (g := [p]) (S.perm ?_ fun _ m => m)
          exact (List.perm_append_comm (l₁ := [p]) (l₂ := fr)).append_right (f' ++ fp) |>.trans (by rw [List.append_assoc]; exact .refl _) |> fun z => by rw [List.append_assoc] at z; exact z
    | _ => cases h
  | br t => cases h
  | ex t =>
    cases t with
    | tup ts =>
      cases h
      cases o with
      | ex a z b =>
        cases b
        cases a with
        | tup g rr =>
          rename_i p us f'
          have key : ∀ {vs : List V} {ts : List OT} {f : List Addr}, OwnAll K W H vs ts f → (∀ a ∈ f, W.S a = none ∧ a ∉ fq) → ResAll K H0 fq W H vs (ts.map exOf) [] := by
            intro vs ts
            induction ts generalizing vs with
            | nil => intro f h _; cases h; exact .nil
            | cons t ts ih =>
              intro f h z
              cases h with
              | cons a b =>
                have zb := fun c m => z c (List.mem_append_right _ m)
                have za := fun c m => z c (List.mem_append_left _ m)
                cases t with
                | leaf d => cases a with | leaf a => exact .fz a (ih b zb)
                | lst _ => exact .ex a za (ih b zb)
                | tup _ => exact .ex a za (ih b zb)
                | ins _ _ _ => exact .ex a za (ih b zb)
                | d0 => exact .ex a za (ih b zb)
          exact ⟨p, us, [], rfl, .of g, key rr fun c m => z c (List.mem_cons_of_mem _ m), S, fun _ m => by cases m⟩
    | _ => cases h
theorem ResAll.len {K : PySem.W.Frag} {H0 : Hp} {fq : List Addr} {W : Wd} {H : Hp} {vs : List V} {rs : List Rs} {f : List Addr} (o : ResAll K H0 fq W H vs rs f) : vs.length = rs.length := by
  induction o with
  | nil => rfl
  | fz _ _ ih => simp [ih]
  | nw _ _ ih => simp [ih]
  | br _ _ _ ih => simp [ih]
  | ex _ _ _ ih => simp [ih]
theorem dg_tup {k n : Nat} {pr : Nat → Prop} (hc : X.calm = true) (h : PGs X es (LGs X.K pr gs)) (hg : gs.length = n := by rfl) (hn : (assignEach es X.env).length = n := by rfl) (hst : (assignEach es X.env).findIdx? (·.1) = none := by rfl) : PG X (.Tuple es k pos) (LG X.K pr (gT gs)) := by
  refine ⟨fun pins s σ H v u Q I rv h' => (pg_tup hc h hn hst).run pins s σ H v u Q I rv ?_⟩
  obtain ⟨W, env, fp, xf, f, fr, r, Q0, E, S, o, ⟨ps, ep, el, hq⟩, kk⟩ := h'
  obtain ⟨a, vs, g, rfl, ht, os, S', y⟩ := parts_ok ep o S
  refine ⟨a, vs, rfl, ht, by rw [os.len, el, hg], W, env, fp, xf, g, fr, ps, Q0, E, S', os.refp fun a m => ?_, hq, fun e q σ' fp' xf' E' S' y2 z2 => kk e q σ' fp' xf' E' S' (fun c m => (y2 c m).imp (y c) id) z2⟩
  simp only [List.mem_append] at m ⊢
  rcases m with m | m | m
  · exact .inl m
  · exact .inr (.inl (y a m))
  · exact .inr (.inr m)
/-- an expression's value, to be stored -/
theorem LG.of {K : PySem.W.Frag} {W W1 : Wd} {H H1 : Hp} {fp xf : List Addr} {σ : L2.St} {env : Env} {r : Rs} {v : V} {g : DG} {Q0 : Env → Prop} {Q : L2.St → Hp → Prop} (S : Sat K W H fp xf) (t : Stp W H [] W1 H1) (E : EnvOk K W1 H1 σ env fp xf) (S1 : Sat K W1 H1 fp xf) (o : ResOk K H fp W1 H1 v r) (h : g env r Q0)
    (k : ∀ e, Q0 e → ∀ σ' fp' xf', Post K W H fp pr σ σ' W1 H1 e fp' xf' → Q σ' H1) : LG K (· ∈ pr) g v σ H1 Q := by
  have fin : ∀ f, Sat K W1 H1 ([] ++ (f ++ fp)) xf → (∀ a ∈ f, H a = none) → ResAll K H1 ([] ++ (f ++ fp)) W1 H1 [v] [r] f → LG K (· ∈ pr) g v σ H1 Q := fun f s z o => ⟨W1, env, fp, xf, f, [], r, Q0, E, s, o, h, fun e q σ' fp' xf' E' S' y2 z2 =>
    k e q σ' fp' xf' ⟨t.up, E', S', fun a m => (y2 a m).elim (fun q => .inr (z a q)) .inl, z2⟩⟩
  cases r with
  | fz d => exact fin [] S1 (fun _ m => by cases m) (.fz o .nil)
  | nw x =>
    obtain ⟨f, so, sf, z⟩ := o.toSlot trivial S S1
    have w := ResAll.nw (H := H1) (fp := [] ++ (f ++ fp)) (v := v) so .nil
    rw [List.append_nil] at w
    exact fin f sf z w
  | br x =>
    obtain ⟨f, o, z⟩ := o
    exact fin [] S1 (fun _ m => by cases m) (.br o z .nil)
  | ex x =>
    obtain ⟨f, o, z⟩ := o
    exact fin [] S1 (fun _ m => by cases m) (.ex o z .nil)
theorem ds_asgG {tg : Expr} (ha : PE X a (LP X.K ma)) (hg : PG X tg (LG X.K (· ∈ pr) g)) (hs : swapsWithSole [tg] a pos.line X.env = pure false := by rfl) (hw : swappedStores [tg] a X.env = pure none := by rfl)
    (h1 : (assignEach [tg] X.env).map (·.2) = [assign tg X.env] := by rfl) : PS X (.Assign [tg] a pos) (LS X.K pr (mAsgG g ma)) := ps_imp (ps_asg ha hg hs hw h1) fun D σ H h => by
  obtain ⟨W, env, fp, xf, K0, E, S, hm, nx, bk, ct, rt⟩ := h
  refine LP.next E S hm fun r hr v W1 H1 t1 S1 E1 o => ?_
  exact LG.of S t1 E1 S1 o hr fun e q σ' fp' xf' P => nx e q σ' W1 H1 fp' xf' P
theorem ds_asg {i : Nat} {x : Str} {p : Pos} (hN : X.N.Nodup) (hi : X.N[i]? = some x) (ha : PE X a (LP X.K ma)) (hx : Loc X.env.scope x := by first | exact Or.inl rfl | exact Or.inr rfl) (hp : i ∉ pr := by decide) (hs : swapsWith a (some (.Name x p)) pos.line X.env = pure false := by rfl)
    (hf : X.fn x = true ∨ X.env.scope.names.lookup x = some .local := by first | exact .inl rfl | exact .inr rfl | assumption) : PS X (.Assign [.Name x p] a pos) (LS X.K pr (mAsgG (gN i) ma)) :=
  ps_imp (ps_set hN hi hx ha hs hf) fun D σ H h => by
  obtain ⟨W, env, fp, xf, K0, E, S, hm, nx, bk, ct, rt⟩ := h
  refine LP.next E S hm fun r hr v W1 H1 t1 S1 E1 o => ?_
  obtain ⟨fp', xf', P⟩ := Post.store (i := i) (pr := pr) S t1 E1 S1 o hr.1 hp
  exact nx _ hr.2 _ W1 H1 fp' xf' P
/-- x op= e -/
theorem ip_of {op : Operator} {r : R2} (ho : OpR X (inplaceOp op) r) : PIp X op r := fun pins s σ H x y v u Q I rx ry q => ho pins s σ H x y v u Q I rx ry q
theorem ds_aug {i : Nat} {x : Str} {p : Pos} {op : Operator} {r2 : R2} {Rd : Rs → Rs → (Rs → Prop) → Prop} (ho : OpR X (inplaceOp op) r2)
    (I : ∀ (H : Hp) (Q : VK) (W : Wd) (fp xf : List Addr) (Q0 : Rs → Prop) r1 rr v1 v2 W2 H2, Rd r1 rr Q0 → Ops X.K H Q Q0 W2 H2 W fp xf → ResOk X.K H fp W2 H2 v1 r1 → ResOk X.K H fp W2 H2 v2 rr → r2 v1 v2 H2 Q)
    (hN : X.N.Nodup) (hi : X.N[i]? = some x) (ha : PE X a (LP X.K ma)) (hx : Loc X.env.scope x := by first | exact Or.inl rfl | exact Or.inr rfl) (hp : i ∉ pr := by decide)
    (hf : X.fn x = true ∨ X.env.scope.names.lookup x = some .local := by first | exact .inl rfl | exact .inr rfl | assumption) : PS X (.AugAssign (.Name x p) op a pos) (LS X.K pr (mAug i Rd ma)) :=
  ps_imp (ps_aug hN hi hx ha (ip_of ho) hf) fun D σ H h => by
  obtain ⟨W, env, fp, xf, K0, E, S, ⟨d, he, hm⟩, nx, bk, ct, rt⟩ := h
  obtain ⟨v, ev, _, od⟩ := E.get he S
  refine ⟨v, ev, LP.next E S hm fun r hr v2 W1' H1 t1' S1' E1' o' => ?_⟩
  obtain ⟨W1, t1, S1, _, o⟩ := ffz_ok S t1' S1' o'
  have E1 := E.keep S t1
  have l := t1.le S fun _ m => by cases m
  exact I H _ W fp xf _ _ _ v v2 W1 H1 hr ⟨S, t1, S1, fun r hr v' W' H' t' S' o' => by
    obtain ⟨fp', xf', P⟩ := Post.store (i := i) (pr := pr) S t' (E.keep S t') S' o' hr.1 hp
    exact nx _ hr.2 _ W' H' fp' xf' P⟩ ((od d rfl).mono l) o
theorem ds_augI {i : Nat} {x : Str} {p : Pos} {op : Operator} {C C' : Int → Int → Prop} {g : Int → Int → Int} {g' : Int → Int → Int} (ho : OpR X (inplaceOp op) (rI C' fun i j => .int (g' i j))) (hC : ∀ i j, C i j → C' i j) (hg : ∀ i j, C i j → g' i j = g i j)
    (hN : X.N.Nodup) (hi : X.N[i]? = some x) (ha : PE X a (LP X.K ma)) (hx : Loc X.env.scope x := by first | exact Or.inl rfl | exact Or.inr rfl) (hp : i ∉ pr := by decide)
    (hf : X.fn x = true ∨ X.env.scope.names.lookup x = some .local := by first | exact .inl rfl | exact .inr rfl | assumption) : PS X (.AugAssign (.Name x p) op a pos) (LS X.K pr (mAug i (i2 C fun i j => .int (g i j)) ma)) :=
  ds_aug ho (fun H Q W fp xf Q0 r1 rr v1 v2 W2 H2 hr O o1 o2 => by
    obtain ⟨i, j, rfl, rfl, hc, q⟩ := i2_inv hr
    refine ⟨i, j, int_of o1, int_of o2, hC i j hc, O.fin q ?_⟩
    show Rep X.K W2 (V.int (g' i j)) _
    rw [hg i j hc]
    exact .int _) hN hi ha hx hp hf
theorem rI0_of {g : Int → Int → V} {f : Value → Value → Sem Value} (h : OpR X f (rI0 g)) : OpR X f (rI (fun _ _ => True) g) := fun pins s σ H x y v u Q I rx ry q => by
  obtain ⟨i, j, a, b, _, q⟩ := q
  exact h pins s σ H x y v u Q I rx ry ⟨i, j, a, b, q⟩
/-! ### loops -/
theorem ds_while (hp : PassesOwn (model X.prog X.w) X.A X.env X.xe) (hc : PT X c (LT X.K ta)) (hb : PSs X s1 (LS X.K pr m)) : PS X (.While c s1 [] pos) (LS X.K pr (mWhile ta m)) := ps_imp (ps_while hp hc hb) fun D σ H h => by
  obtain ⟨W, env, fp, xf, K0, E, S, ⟨Wm, ⟨m0, w0⟩, turn⟩, nx, bk, ct, rt⟩ := h
  refine ⟨fun m σ' H' => ∃ e W' fp' xf', Wm m e ∧ Post X.K W H fp pr σ σ' W' H' e fp' xf', ⟨m0, env, W, fp, xf, w0, .pure .refl E S⟩, fun m1 σ' H' ⟨e, W', fp', xf', w, P⟩ => ?_⟩
  refine LT.next P.E P.S (turn m1 e w) fun c hc W1 H1 t1 S1 E1 => ?_
  have P1 := P.trans (.pure t1 E1 S1)
  cases c with
  | true =>
    refine iteT ⟨fun σ2 H2 => ∃ m', m' < m1 ∧ ∃ e W' fp' xf', Wm m' e ∧ Post X.K W H fp pr σ σ2 W' H2 e fp' xf', fun _ _ h => h, ?_⟩
    exact LS.from P1 hc (fun e ⟨m', l, w'⟩ σ2 W2 H2 fp2 xf2 P2 => ⟨m', l, e, W2, fp2, xf2, w', P2⟩) nx (fun e ⟨m', l, w'⟩ σ2 W2 H2 fp2 xf2 P2 => ⟨m', l, e, W2, fp2, xf2, w', P2⟩) rt
  | false => exact iteF (nx e hc σ' W1 H1 fp' xf' P1)
end
end R
/-! ## the rules, what is walked -/
namespace R
open PySem PySem.Spec PyProof.Rows L2
/-- J gives the items xs, as long as no more than f changes -/
def ItOk (K : PySem.W.Frag) (J : It) (xs : List Rs) (W : Wd) (H : Hp) (f fp : List Addr) : Prop := ∀ W' H' fp' xf', Stp W H f W' H' → W.Le W' → Sat K W' H' fp' xf' → (∀ a ∈ fp', a ∈ fp ∨ H a = none) →
  (∀ i, xs.length ≤ i → J.stop i H') ∧ (∀ i, i < xs.length → J.go i H') ∧ ∀ i x H'' r, J.yld i H' x H'' → xs[i]? = some r → Stp W' H' [] W' H'' ∧ Sat K W' H'' fp' xf' ∧ ResOk K H' fp' W' H'' x r
def LI (K : PySem.W.Frag) (m : DI) : TI := fun σ H R => ∃ (W : Wd) (env : Env) (fp xf : List Addr) (Q0 : Bool → List Rs → Prop), EnvOk K W H σ env fp xf ∧ Sat K W H fp xf ∧ m env Q0 ∧
  ∀ st xs, Q0 st xs → ∀ J W' H', Stp W H [] W' H' → Sat K W' H' fp xf → (∀ f, (st = true ∨ f = []) → (∀ a ∈ f, a ∈ fp) → ItOk K J xs W' H' f fp) → R J H'
section
variable {K : PySem.W.Frag} {W W1 W2 W' : Wd} {H H1 H2 H' : Hp} {f f1 fp fp1 fp2 xf xf1 xf2 : List Addr} {σ σ1 σ2 : L2.St} {Q : VK} {r : Rs} {v : V} {env env1 env2 : Env} {pr : List Nat}
/-- a list that stays while it is walked: its items as they are -/
theorem items_stay {ts : List OT} (o : ResOk K H fp W1 H1 v r) (ek : r.t.kids = some ts) (S1 : Sat K W1 H1 fp xf) : ∃ (p : Addr) (vs : List V), v = .ref p ∧ vs.length = ts.length ∧
    (((∃ xs, SqL K H1 p xs) ∧ ∀ f, (r.stays = true ∨ f = []) → (∀ a ∈ f, a ∈ fp) → ∀ W' H' fp' xf', Stp W1 H1 f W' H' → W1.Le W' → Sat K W' H' fp' xf' → SqL K H' p vs) ∨
      ((∃ xs, SqT K H1 p xs) ∧ ∀ f, (r.stays = true ∨ f = []) → (∀ a ∈ f, a ∈ fp) → ∀ W' H' fp' xf', Stp W1 H1 f W' H' → W1.Le W' → Sat K W' H' fp' xf' → SqT K H' p vs)) ∧
    ∀ f, (r.stays = true ∨ f = []) → (∀ a ∈ f, a ∈ fp) → ∀ W' H' fp' xf', Stp W1 H1 f W' H' → W1.Le W' → Sat K W' H' fp' xf' → (∀ a ∈ fp', a ∈ fp ∨ H1 a = none) → ∀ (i : Nat) (u : V) (x : Rs), vs[i]? = some u → (ts.map (Rs.kid r))[i]? = some x → ResOk K H' fp' W' H' u x := by
  have lf : ∀ {d : D}, Rep K W1 v d → (OT.leaf d).kids = some ts → ∃ (p : Addr) (vs : List V) (ds : List D), v = .ref p ∧ ts = ds.map .leaf ∧ RepAll K W1 vs ds ∧
      (((∃ xs, SqL K H1 p xs) ∧ ∀ W' H' fp' xf', W1.Le W' → Sat K W' H' fp' xf' → SqL K H' p vs) ∨ ((∃ xs, SqT K H1 p xs) ∧ ∀ W' H' fp' xf', W1.Le W' → Sat K W' H' fp' xf' → SqT K H' p vs)) := by
    intro d q h
    cases q with
    | lst g r => cases h; exact ⟨_, _, _, rfl, rfl, r, .inl ⟨⟨_, .of (S1.sub _ _ g)⟩, fun W' H' fp' xf' l S => .of (S.sub _ _ (l.g _ _ g))⟩⟩
    | tup g r => cases h; exact ⟨_, _, _, rfl, rfl, r, .inr ⟨⟨_, .of (S1.sub _ _ g)⟩, fun W' H' fp' xf' l S => .of (S.sub _ _ (l.g _ _ g))⟩⟩
    | rol g r => cases h; exact ⟨_, _, _, rfl, rfl, r, .inl ⟨⟨_, SqL.mono S1.sub g⟩, fun W' H' fp' xf' l S => SqL.mono S.sub (SqL.mono l.g g)⟩⟩
    | non => cases h
    | bl _ => cases h
    | int _ => cases h
    | str _ => cases h
    | ins _ _ => cases h
    | vol _ => cases h
    | any _ => cases h
  have key : ∀ {vs : List V} {ds : List D} {i : Nat} {u : V} {d : D}, RepAll K W1 vs ds → vs[i]? = some u → ds[i]? = some d → Rep K W1 u d := by
    intro vs ds i
    induction i generalizing vs ds with
    | zero => intro u d h e1 e2; cases h with | nil => simp at e1 | cons a b => simp at e1 e2; subst e1 e2; exact a
    | succ i ih => intro u d h e1 e2; cases h with | nil => simp at e1 | cons a b => exact ih b (by simpa using e1) (by simpa using e2)
  have fzk : ∀ {r : Rs} {ds : List D} {vs : List V}, RepAll K W1 vs ds → ∀ W' H' fp', W1.Le W' → ∀ (i : Nat) (u : V) (x : Rs), vs[i]? = some u → ((ds.map OT.leaf).map (Rs.kid r))[i]? = some x → ResOk K H' fp' W' H' u x := by
    intro r ds vs rr W' H' fp' l i u x eu ex
    rw [List.getElem?_map, List.getElem?_map] at ex
    cases q : ds[i]? with
    | none => rw [q] at ex; cases ex
    | some d =>
      rw [q] at ex
      have ex : some (r.kid (.leaf d)) = some x := ex
      cases ex
      have w := (key rr eu q).mono l
      cases r <;> exact w
  -- cells that stay
  have own : ∀ {t : OT} {g : List Addr}, Own K W1 H1 v t g → t.kids = some ts → (∀ a ∈ g, W1.S a = none) → ∃ (p : Addr) (vs : List V), v = .ref p ∧ vs.length = ts.length ∧
      (((∃ xs, SqL K H1 p xs) ∧ ∀ f, (∀ a ∈ g, a ∉ f) → ∀ W' H' fp' xf', Stp W1 H1 f W' H' → W1.Le W' → Sat K W' H' fp' xf' → SqL K H' p vs) ∨ ((∃ xs, SqT K H1 p xs) ∧ ∀ f, (∀ a ∈ g, a ∉ f) → ∀ W' H' fp' xf', Stp W1 H1 f W' H' → W1.Le W' → Sat K W' H' fp' xf' → SqT K H' p vs)) ∧
      ∀ f, (∀ a ∈ g, a ∉ f) → ∀ W' H', Stp W1 H1 f W' H' → W1.Le W' → ∀ (i : Nat) (u : V), vs[i]? = some u → ∃ (t : OT) (h : List Addr), ts[i]? = some t ∧ Own K W' H' u t h ∧ ∀ a ∈ h, a ∈ g := by
    intro t g o h z
    have go : ∀ {p : Addr} {vs : List V} {g' : List Addr}, OwnAll K W1 H1 vs ts g' → (∀ a ∈ g', a ∈ g) → ∀ f, (∀ a ∈ g, a ∉ f) → ∀ W' H', Stp W1 H1 f W' H' → W1.Le W' → ∀ (i : Nat) (u : V), vs[i]? = some u → ∃ (t : OT) (h : List Addr), ts[i]? = some t ∧ Own K W' H' u t h ∧ ∀ a ∈ h, a ∈ g := by
      intro p vs g' w sub f n W' H' st l i u eu
      have hi : i < ts.length := by
        rw [← w.len]
        exact (List.getElem?_eq_some_iff.mp eu).1
      obtain ⟨u', h, e1, o1, s1⟩ := w.get (List.getElem?_eq_getElem hi)
      rw [eu] at e1
      cases e1
      exact ⟨_, h, List.getElem?_eq_getElem hi, o1.mono l fun a m o e => st.kp a o e (n a (sub a (s1 a m))) (z a (sub a (s1 a m))), fun a m => sub a (s1 a m)⟩
    cases o with
    | leaf q =>
      obtain ⟨p, vs, ds, e1, e2, rr, zz⟩ := lf q h
      refine ⟨p, vs, e1, by rw [rr.len, e2, List.length_map], ?_, ?_⟩
      · rcases zz with ⟨y, w⟩ | ⟨y, w⟩
        · exact .inl ⟨y, fun _ _ W' H' fp' xf' _ l S => w W' H' fp' xf' l S⟩
        · exact .inr ⟨y, fun _ _ W' H' fp' xf' _ l S => w W' H' fp' xf' l S⟩
      · subst e2
        exact go (p := p) (OwnAll.leafs (vs := []) rr) fun _ m => by cases m
    | lst g1 w =>
      cases h
      exact ⟨_, _, rfl, w.len, .inl ⟨⟨_, .of g1⟩, fun f n W' H' fp' xf' st l S => .of (st.kp _ _ g1 (n _ List.mem_cons_self) (z _ List.mem_cons_self))⟩, go (p := 0) w fun _ m => List.mem_cons_of_mem _ m⟩
    | tup g1 w =>
      cases h
      exact ⟨_, _, rfl, w.len, .inr ⟨⟨_, .of g1⟩, fun f n W' H' fp' xf' st l S => .of (st.kp _ _ g1 (n _ List.mem_cons_self) (z _ List.mem_cons_self))⟩, go (p := 0) w fun _ m => List.mem_cons_of_mem _ m⟩
    | ins _ _ => cases h
    | d0 _ => cases h
  cases r with
  | fz d =>
    obtain ⟨p, vs, ds, rfl, rfl, rr, z⟩ := lf o ek
    refine ⟨p, vs, rfl, by rw [rr.len, List.length_map], ?_, fun f _ _ W' H' fp' xf' t l S y i u x eu ex => fzk (r := .fz d) rr W' H' fp' l i u x eu ex⟩
    rcases z with ⟨y, w⟩ | ⟨y, w⟩
    · exact .inl ⟨y, fun _ _ _ W' H' fp' xf' _ l S => w W' H' fp' xf' l S⟩
    · exact .inr ⟨y, fun _ _ _ W' H' fp' xf' _ l S => w W' H' fp' xf' l S⟩
  | nw t =>
    obtain ⟨g, ow, nd, z⟩ := o
    obtain ⟨p, vs, rfl, hl, zz, w⟩ := own ow ek fun a m => (z a m).2.2
    refine ⟨p, vs, rfl, hl, ?_, fun f hf _ W' H' fp' xf' t l S y i u x eu ex => ?_⟩
    · rcases zz with ⟨y, w⟩ | ⟨y, w⟩
      · exact .inl ⟨y, fun f hf _ W' H' fp' xf' t l S => w f (fun a _ m => by rw [hf.resolve_left Bool.false_ne_true] at m; cases m) W' H' fp' xf' t l S⟩
      · exact .inr ⟨y, fun f hf _ W' H' fp' xf' t l S => w f (fun a _ m => by rw [hf.resolve_left Bool.false_ne_true] at m; cases m) W' H' fp' xf' t l S⟩
    · have hf := hf.resolve_left Bool.false_ne_true
      subst hf
      obtain ⟨c, h, e1, o1, s1⟩ := w [] (fun a _ m => by cases m) W' H' t l i u eu
      rw [List.getElem?_map, e1] at ex
      cases ex
      have zz : ∀ a ∈ h, W'.S a = none := fun a m => (t.kpS (ow.alloc a (s1 a m))).2.trans (z a (s1 a m)).2.2
      cases c with
      | leaf d => cases o1 with | leaf q => exact q
      | lst _ => exact ⟨h, o1, zz⟩
      | tup _ => exact ⟨h, o1, zz⟩
      | ins _ _ _ => exact ⟨h, o1, zz⟩
      | d0 => exact ⟨h, o1, zz⟩
  | br t =>
    obtain ⟨g, ow, z⟩ := o
    obtain ⟨p, vs, rfl, hl, zz, w⟩ := own ow ek z
    refine ⟨p, vs, rfl, hl, ?_, fun f hf _ W' H' fp' xf' t l S y i u x eu ex => ?_⟩
    · rcases zz with ⟨y, w⟩ | ⟨y, w⟩
      · exact .inl ⟨y, fun f hf _ W' H' fp' xf' t l S => w f (fun a _ m => by rw [hf.resolve_left Bool.false_ne_true] at m; cases m) W' H' fp' xf' t l S⟩
      · exact .inr ⟨y, fun f hf _ W' H' fp' xf' t l S => w f (fun a _ m => by rw [hf.resolve_left Bool.false_ne_true] at m; cases m) W' H' fp' xf' t l S⟩
    · have hf := hf.resolve_left Bool.false_ne_true
      subst hf
      obtain ⟨c, h, e1, o1, s1⟩ := w [] (fun a _ m => by cases m) W' H' t l i u eu
      rw [List.getElem?_map, e1] at ex
      cases ex
      have zz : ∀ a ∈ h, W'.S a = none := fun a m => (t.kpS (ow.alloc a (s1 a m))).2.trans (z a (s1 a m))
      cases c with
      | leaf d => cases o1 with | leaf q => exact q
      | lst _ => exact ⟨h, o1, zz⟩
      | tup _ => exact ⟨h, o1, zz⟩
      | ins _ _ _ => exact ⟨h, o1, zz⟩
      | d0 => exact ⟨h, o1, zz⟩
  | ex t =>
    obtain ⟨g, ow, z⟩ := o
    obtain ⟨p, vs, rfl, hl, zz, w⟩ := own ow ek fun a m => (z a m).1
    refine ⟨p, vs, rfl, hl, ?_, fun f _ hf W' H' fp' xf' t l S y i u x eu ex => ?_⟩
    · rcases zz with ⟨y, w⟩ | ⟨y, w⟩
      · exact .inl ⟨y, fun f _ hf W' H' fp' xf' t l S => w f (fun a m m2 => (z a m).2 (hf a m2)) W' H' fp' xf' t l S⟩
      · exact .inr ⟨y, fun f _ hf W' H' fp' xf' t l S => w f (fun a m m2 => (z a m).2 (hf a m2)) W' H' fp' xf' t l S⟩
    · obtain ⟨c, h, e1, o1, s1⟩ := w f (fun a m m2 => (z a m).2 (hf a m2)) W' H' t l i u eu
      rw [List.getElem?_map, e1] at ex
      cases ex
      have zz : ∀ a ∈ h, W'.S a = none ∧ a ∉ fp' := fun a m => by
        have ma := s1 a m
        refine ⟨(t.wx a (ow.alloc a ma) fun m2 => (z a ma).2 (hf a m2)).2.trans (z a ma).1, fun q => ?_⟩
        rcases y a q with q | q
        · exact (z a ma).2 q
        · exact ow.alloc a ma q
      cases c with
      | leaf d => cases o1 with | leaf q => exact q
      | lst _ => exact ⟨h, o1, zz⟩
      | tup _ => exact ⟨h, o1, zz⟩
      | ins _ _ _ => exact ⟨h, o1, zz⟩
      | d0 => exact ⟨h, o1, zz⟩
end
/-- a list or a tuple, walked -/
def iSeq (K : PySem.W.Frag) (tl : TE) : TI := fun σ H R => tl σ H fun x H1 => ∃ a, x = .ref a ∧ (((∃ xs, SqL K H1 a xs) ∧ R (Itl K a) H1) ∨ ((∃ xs, SqT K H1 a xs) ∧ R (Itt K a) H1))
section
variable {X : Cx} {tg a b c : Expr} {ma mb mc : DE} {pos : Pos} {ta tb : DT} {st : Stmt} {rest s1 s2 : List Stmt} {m m1 m2 : DS} {pr : List Nat} {g : DG} {gs : List DG} {es : List Expr} {mi : DI} {mr : DA}
theorem pi_seq {l : Expr} {tl : TE} (hl : PE X l tl) : PI X tg l (iSeq X.K tl) := by
  refine ⟨fun pins s σ H R I h => ?_⟩
  refine thn (hl.run pins s σ H _ I h) fun v s1 ⟨x, H1, I1, r1, q1⟩ => ?_
  obtain ⟨a, e, q⟩ := q1
  subst e
  cases r1
  rcases q with ⟨⟨xs, hq⟩, q⟩ | ⟨⟨xs, hq⟩, q⟩
  · obtain ⟨its, rv, p, hz⟩ := I1.list hq
    refine wpAny_pyIter_list p.isList ?_
    refine ⟨s1.heap.objs.size, [s1.heap.objs.size], _, _, H1, rfl, I1.kept (t' := s1.toks) fun b o e => Heap.get?_push_of_some _ e, turn_list a _, ⟨_, Heap.get?_push_size _ rfl, rfl, rfl⟩, fun b hb => ?_, q⟩
    have e : b = s1.heap.objs.size := by simpa using hb
    subst e
    exact I1.fpOk (Nat.le_refl _) (I1.hok.fresh (Nat.le_refl _))
  · obtain ⟨its, rv, p, hz⟩ := I1.tuple hq
    refine wpAny_pyIter_tuple (show s1.heap.IsTuple a its.toArray from p) ?_
    refine ⟨s1.heap.objs.size, [s1.heap.objs.size], _, _, H1, rfl, I1.kept (t' := s1.toks) fun b o e => Heap.get?_push_of_some _ e, turn_tuple a _, ⟨_, Heap.get?_push_size _ rfl, rfl, rfl⟩, fun b hb => ?_, q⟩
    have e : b = s1.heap.objs.size := by simpa using hb
    subst e
    exact I1.fpOk (Nat.le_refl _) (I1.hok.fresh (Nat.le_refl _))
theorem pi_imp {t t' : TI} (h : PI X tg a t) (k : ∀ σ H Q, t' σ H Q → t σ H Q) : PI X tg a t' := ⟨fun pins s σ H Q I w => h.run pins s σ H Q I (k σ H Q w)⟩
theorem di_list (ha : PE X a (LP X.K ma)) : PI X tg a (LI X.K (mItL ma)) := pi_imp (pi_seq ha) fun σ H R h => by
  obtain ⟨W, env, fp, xf, Q0, E, S, hm, k⟩ := h
  refine LP.next E S hm fun r ⟨ts, ek, hq⟩ v W1' H1 t1' S1' E1' o' => ?_
  obtain ⟨W1, t1, S1, _, o⟩ := ffz_ok S t1' S1' o'
  obtain ⟨p, vs, rfl, hl, zz, w⟩ := items_stay o ek S1
  have lx : (ts.map (Rs.kid r.ffz)).length = ts.length := List.length_map _
  refine ⟨p, rfl, ?_⟩
  rcases zz with ⟨e, z⟩ | ⟨e, z⟩
  · refine .inl ⟨e, k _ _ hq _ W1 H1 t1 S1 fun f hf hs W' H' fp' xf' t l S' y => ⟨fun i hi => ⟨vs, z f hf hs W' H' fp' xf' t l S', by omega⟩, fun i hi => ?_, fun i x H'' c hy hx => ?_⟩⟩
    · have hi2 : i < vs.length := by omega
      exact ⟨vs, vs[i], z f hf hs W' H' fp' xf' t l S', List.getElem?_eq_getElem hi2⟩
    · obtain ⟨rfl, hv⟩ := hy
      exact ⟨.refl, S', w f hf hs W' H'' fp' xf' t l S' y i x c (hv vs (z f hf hs W' H'' fp' xf' t l S')) hx⟩
  · refine .inr ⟨e, k _ _ hq _ W1 H1 t1 S1 fun f hf hs W' H' fp' xf' t l S' y => ⟨fun i hi => ⟨vs, z f hf hs W' H' fp' xf' t l S', by omega⟩, fun i hi => ?_, fun i x H'' c hy hx => ?_⟩⟩
    · have hi2 : i < vs.length := by omega
      exact ⟨vs, vs[i], z f hf hs W' H' fp' xf' t l S', List.getElem?_eq_getElem hi2⟩
    · obtain ⟨rfl, hv⟩ := hy
      exact ⟨.refl, S', w f hf hs W' H'' fp' xf' t l S' y i x c (hv vs (z f hf hs W' H'' fp' xf' t l S')) hx⟩
theorem rng_len (lo : Int) (n : Nat) : (rng lo n).length = n := by unfold rng; rw [List.length_map, List.length_range]
theorem rng_get {lo : Int} {n i : Nat} {r : Rs} (h : (rng lo n)[i]? = some r) : r = .fz (.int (lo + (i : Int))) := by
  unfold rng at h
  rw [List.getElem?_map] at h
  cases q : (List.range n)[i]? with
  | none => rw [q] at h; cases h
  | some j =>
    rw [q] at h
    have hj : j = i := by
      obtain ⟨hi, e⟩ := List.getElem?_eq_some_iff.mp q
      rw [List.getElem_range] at e
      exact e.symm
    subst hj
    cases h
    rfl
theorem rng_ok {K : PySem.W.Frag} {W : Wd} {H : Hp} {f fp : List Addr} {lo : Int} {n : Nat} : ItOk K (Itr lo n) (rng lo n) W H f fp := fun W' H' fp' xf' t l S y => ⟨fun i hi => by rw [rng_len] at hi; exact hi, fun i hi => by rw [rng_len] at hi; exact hi, fun i x H'' r hy hx => by
  obtain ⟨rfl, rfl⟩ := hy
  rw [rng_get hx]
  exact ⟨.refl, S, Rep.int _⟩⟩
theorem di_rng1 {p : Pos} (hm : X.mg "range" = none) (ha : PE X a (LP X.K ma)) (hg : Gl X "range" := by rfl) (hs : starEach [a] X.env = [(false, eval a X.env)] := by rfl) : PI X tg (.Call (.Name "range" p) [a] [] pos) (LI X.K (mItR1 ma)) :=
  pi_imp (pi_range1 hg hm (pa_cons ha pa_nil hs) hs) fun σ H R h => by
  obtain ⟨W, env, fp, xf, Q0, E, S, hm, k⟩ := h
  refine LP.next E S hm fun r hr v W1 H1 t1 S1 E1 o => ?_
  split at hr
  · obtain ⟨h1, h2, q⟩ := hr
    refine ⟨_, congrArg (fun z => [z]) (int_of o), h1, h2, ?_⟩
    exact k _ _ q _ W1 H1 t1 S1 fun f _ _ => rng_ok
  · exact hr.elim
theorem di_rng2 {p : Pos} (hm : X.mg "range" = none) (ha : PE X a (LP X.K ma)) (hb : PE X b (LP X.K mb)) (hg : Gl X "range" := by rfl) (hs : starEach [a, b] X.env = [(false, eval a X.env), (false, eval b X.env)] := by rfl) (hs2 : starEach [b] X.env = [(false, eval b X.env)] := by rfl) : PI X tg (.Call (.Name "range" p) [a, b] [] pos) (LI X.K (mItR2 ma mb)) :=
  pi_imp (pi_range2 hg hm (pa_cons ha (pa_cons hb pa_nil hs2) (by rw [hs, hs2])) hs hs2) fun σ H R h => by
  obtain ⟨W, env, fp, xf, Q0, E, S, hm, k⟩ := h
  refine LP.next E S hm fun r hr v W1 H1 t1 S1 E1 o => ?_
  refine LP.next E1 S1 hr fun r2 hr2 v2 W2 H2 t2 S2 E2 o2 => ?_
  split at hr2
  · obtain ⟨h1, h2, h3, h4, q⟩ := hr2
    refine ⟨_, _, by rw [int_of o, int_of o2], ⟨h1, h2, h3, h4⟩, ?_⟩
    exact k _ _ q _ W2 H2 (t1.tr0 t2) S2 fun f _ _ => rng_ok
  · exact hr2.elim
theorem ds_for (hp : PassesOwn (model X.prog X.w) X.A X.env X.xe) (hc : X.calm = true) (hi : PI X tg a (LI X.K mi)) (hg : PG X tg (LG X.K (· ∈ pr) g)) (hb : PSs X s1 (LS X.K pr m)) (hs : ∀ x, foldedSetIterable a X.env x = pure x := by intro _; rfl) :
    PS X (.For tg a s1 [] pos) (LS X.K pr (mFor mi g m)) := ps_imp (ps_for hp hc hi hg hb hs) fun D σ H h => by
  obtain ⟨W, env, fp, xf, K0, E, S, hm, nx, bk, ct, rt⟩ := h
  refine ⟨W, env, fp, xf, _, E, S, hm, fun st xs ⟨hst, Pv, p0, turn, done⟩ J W1 H1 t1 S1 it => ?_⟩
  have IO := it fp (.inl hst) fun _ m => m
  refine ⟨fun i n σ' H' => i + n = xs.length ∧ ∃ e W' fp' xf', Pv i e ∧ Post X.K W H fp pr σ σ' W' H' e fp' xf' ∧ Stp W1 H1 fp W' H' ∧ ∀ a ∈ fp', a ∈ fp ∨ H1 a = none, ⟨xs.length, by omega, env, W1, fp, xf, p0, .pure t1 (E.keep S t1) S1, .refl, fun _ m => .inl m⟩, fun i n σ' H' ⟨hl, e, W', fp', xf', pi, P, t2, y⟩ => ?_⟩
  have l2 := t2.le S1 fun a m => .inl m
  obtain ⟨i1, i2, i3⟩ := IO W' H' fp' xf' t2 l2 P.S y
  cases n with
  | zero =>
    refine .inl ⟨i1 i (by omega), ?_⟩
    have ei : i = xs.length := by omega
    subst ei
    exact nx e (done e pi) σ' W' H' fp' xf' P
  | succ n =>
    have hi : i < xs.length := by omega
    refine .inr ⟨i2 i hi, fun σ2 H2 => ∃ e W' fp' xf', Pv (i + 1) e ∧ Post X.K W H fp pr σ σ2 W' H2 e fp' xf' ∧ Stp W1 H1 fp W' H2 ∧ ∀ a ∈ fp', a ∈ fp ∨ H1 a = none, fun σ2 H2 h => ⟨n, Nat.lt_succ_self n, by omega, h⟩, fun x H2 hy => ?_⟩
    obtain ⟨t3, S3, o3⟩ := i3 i x H2 _ hy (List.getElem?_eq_getElem hi)
    have E3 := P.E.keep P.S t3
    have comb : ∀ {σ3 W3 H3 e3 fp3 xf3}, Post X.K W' H' fp' pr σ' σ3 W3 H3 e3 fp3 xf3 → Stp W1 H1 fp W3 H3 ∧ ∀ a ∈ fp3, a ∈ fp ∨ H1 a = none := fun P3 => ⟨t2.trans P3.t y, fun a m => (P3.nf a m).elim (y a) fun z => .inr (by
      cases q : H1 a with
      | none => rfl
      | some o => exact absurd z (t2.al a (some_ne q)))⟩
    refine LG.of P.S t3 E3 S3 o3 (turn i _ e (List.getElem?_eq_getElem hi) pi) fun e4 q4 σ4 fp4 xf4 P4 => ?_
    have P5 := P.trans P4
    have again : ∀ e5, Pv (i + 1) e5 → ∀ σ5 W5 H5 fp5 xf5, Post X.K W H2 fp4 pr σ4 σ5 W5 H5 e5 fp5 xf5 → True := fun _ _ _ _ _ _ _ _ => trivial
    refine ⟨W', e4, fp4, xf4, _, P4.E, P4.S, q4, fun e5 q5 σ5 W5 H5 fp5 xf5 P6 => ?_, fun e5 q5 σ5 W5 H5 fp5 xf5 P6 => nx e5 q5 σ5 W5 H5 fp5 xf5 (P5.trans P6), fun e5 q5 σ5 W5 H5 fp5 xf5 P6 => ?_, fun r e5 q5 v5 σ5 W5 H5 fp5 xf5 P6 o => rt r e5 q5 v5 σ5 W5 H5 fp5 xf5 (P5.trans P6) (o.back P5)⟩
    · have c := comb (P4.trans P6)
      exact ⟨e5, W5, fp5, xf5, q5, P5.trans P6, c.1, c.2⟩
    · have c := comb (P4.trans P6)
      exact ⟨e5, W5, fp5, xf5, q5, P5.trans P6, c.1, c.2⟩
end
end R
/-! ## the rules, comprehensions -/
namespace R
open PySem PySem.Spec PyProof.Rows L2
section
variable {K : PySem.W.Frag} {W W1 W2 W' : Wd} {H H1 H2 H' : Hp} {f f1 fp fp1 fp2 xf xf1 xf2 : List Addr} {σ σ1 σ2 : L2.St} {Q : VK} {r : Rs} {v : V} {env env1 env2 : Env}
/-- nothing is held alone, all is lent -/
theorem Sat.lend (S : Sat K W H fp xf) : Sat K W H [] (fp ++ xf) := ⟨S.sub, S.vol, List.nodup_nil, fun _ m => (by cases m), fun a m => ⟨by simp, (List.mem_append.mp m).elim (fun q => ⟨(S.off a q).2.1, (S.off a q).2.2⟩) fun q => (S.xof a q).2⟩⟩
theorem Sat.less0 {xf' : List Addr} (S : Sat K W H fp xf) (h : ∀ a ∈ xf', a ∈ xf) : Sat K W H fp xf' := ⟨S.sub, S.vol, S.nd, S.off, fun a m => S.xof a (h a m)⟩
/-- .. and taken back -/
theorem Sat.back {xf' : List Addr} (S : Sat K W H fp xf) (t : Stp W H [] W' H') (S' : Sat K W' H' [] xf') : Sat K W' H' fp xf :=
  ⟨S'.sub, S'.vol, S.nd, fun a m => by
    obtain ⟨o1, o2, o3⟩ := S.off a m
    obtain ⟨e1, e2⟩ := t.kpS o3
    exact ⟨e1.trans o1, e2.trans o2, t.al a o3⟩, fun a m => by
    obtain ⟨o1, o2, o3⟩ := S.xof a m
    exact ⟨o1, (t.kpS o3).2.trans o2, t.al a o3⟩⟩
theorem EnvOk.lent (E : EnvOk K W H σ env fp xf) : ∃ xf', EnvOk K W H σ (Env.lent env) [] xf' ∧ ∀ a ∈ xf', a ∈ fp ∨ a ∈ xf := by
  induction E with
  | nil => exact ⟨[], .nil, fun _ m => by cases m⟩
  | no _ ih => obtain ⟨x, e, z⟩ := ih; exact ⟨x, .no e, z⟩
  | fz q _ ih => obtain ⟨x, e, z⟩ := ih; exact ⟨x, .fz q e, z⟩
  | nw q _ ih => obtain ⟨x, e, z⟩ := ih; exact ⟨_, .ex q e, fun a m => (List.mem_append.mp m).elim (fun m => .inl (List.mem_append_left _ m)) fun m => (z a m).imp (List.mem_append_right _) id⟩
  | ex q _ ih => obtain ⟨x, e, z⟩ := ih; exact ⟨_, .ex q e, fun a m => (List.mem_append.mp m).elim (fun m => .inr (List.mem_append_left _ m)) fun m => (z a m).imp id (List.mem_append_right _)⟩
theorem EnvOk.wipe (E : EnvOk K W H σ env [] xf) : ∀ ws : List Nat, ∃ xf', EnvOk K W H (L2.wipe σ ws) (Env.wipe env ws) [] xf' ∧ ∀ a ∈ xf', a ∈ xf
  | [] => ⟨xf, E, fun _ m => m⟩
  | w :: ws => by
    obtain ⟨x, e, z⟩ := EnvOk.wipe E ws
    obtain ⟨f, fp', xf', e2, p, z2, _⟩ := e.clear w none
    have h : f ++ fp' = [] := List.nil_perm.mp p |> fun q => q
    obtain ⟨_, rfl⟩ := List.append_eq_nil_iff.mp h
    exact ⟨xf', e2, fun a m => z a (z2 a m)⟩
theorem Env.lent_len (env : Env) : (Env.lent env).length = env.length := List.length_map _
theorem Env.wipe_len (env : Env) : ∀ ws : List Nat, (Env.wipe env ws).length = env.length
  | [] => rfl
  | w :: ws => by
    show ((Env.wipe env ws).set w none).length = _
    rw [List.length_set, Env.wipe_len env ws]
theorem wipe_at (σ : L2.St) : ∀ (ws : List Nat) (i : Nat), (L2.wipe σ ws)[i]? = if i ∈ ws ∧ i < σ.length then some none else σ[i]?
  | [], i => by rw [if_neg (by simp)] <;> rfl
  | w :: ws, i => by
    show ((L2.wipe σ ws).set w none)[i]? = _
    by_cases e : w = i
    · subst e
      by_cases hl : w < σ.length
      · rw [List.getElem?_set_self (by rw [L2.wipe_length]; exact hl), if_pos ⟨List.mem_cons_self, hl⟩]
      · rw [List.getElem?_eq_none (by rw [List.length_set, L2.wipe_length]; omega), if_neg (fun z => hl z.2), List.getElem?_eq_none (by omega)]
    · rw [List.getElem?_set_ne e, wipe_at σ ws i]
      have q : (i ∈ w :: ws ∧ i < σ.length) ↔ (i ∈ ws ∧ i < σ.length) := by
        constructor
        · rintro ⟨a, b⟩
          exact ⟨(List.mem_cons.mp a).resolve_left fun z => e z.symm, b⟩
        · rintro ⟨a, b⟩
          exact ⟨List.mem_cons_of_mem _ a, b⟩
      by_cases h : i ∈ ws ∧ i < σ.length
      · rw [if_pos h, if_pos (q.mpr h)]
      · rw [if_neg h, if_neg fun z => h (q.mp z)]
theorem wipe_same {σ2 : L2.St} {ws : List Nat} (hl : σ2.length = σ.length) (h : ∀ i, i ∉ ws → σ2[i]? = (L2.wipe σ ws)[i]?) : L2.wipe σ2 ws = L2.wipe σ ws := by
  apply List.ext_getElem?
  intro i
  rw [wipe_at, wipe_at, hl]
  by_cases hi : i ∈ ws ∧ i < σ.length
  · rw [if_pos hi, if_pos hi]
  · rw [if_neg hi, if_neg hi]
    by_cases m : i ∈ ws
    · have : ¬ i < σ.length := fun z => hi ⟨m, z⟩
      rw [List.getElem?_eq_none (by omega), List.getElem?_eq_none (by omega)]
    · rw [h i m, wipe_at, if_neg fun z => m z.1]
theorem ResOk.lent (h : ResOk K H fp W1 H1 v r) : ∃ f, ResAll K H [] W1 H1 [v] [r.arg] f ∧ f = [] := by
  cases r with
  | fz d => exact ⟨[], .fz h .nil, rfl⟩
  | nw t => obtain ⟨f, o, _, z⟩ := h; exact ⟨[], .ex o (fun a m => ⟨(z a m).2.2, by simp⟩) .nil, rfl⟩
  | br t => obtain ⟨f, o, z⟩ := h; exact ⟨[], .ex o (fun a m => ⟨z a m, by simp⟩) .nil, rfl⟩
  | ex t => obtain ⟨f, o, z⟩ := h; exact ⟨[], .ex o (fun a m => ⟨(z a m).1, by simp⟩) .nil, rfl⟩
theorem OwnAll.snoc {t : OT} : ∀ {vs : List V} {ts : List OT} {g : List Addr}, OwnAll K W H vs ts g → Own K W H v t f → OwnAll K W H (vs ++ [v]) (ts ++ [t]) (g ++ f)
  | _, _, _, .nil, o => by
    have z := OwnAll.cons o .nil
    rw [List.append_nil] at z
    exact z
  | _, _, _, .cons a b, o => by
    rw [List.append_assoc]
    exact .cons a (OwnAll.snoc b o)
/-- a comprehension's state: the list at D, its items' cells g -/
structure LcOk (K : PySem.W.Frag) (W : Wd) (H : Hp) (fp xf : List Addr) (D : Addr) (acc : List OT) (W' : Wd) (H' : Hp) : Prop where
  t : Stp W H [] W' H'
  S : Sat K W' H' fp xf
  own : ∃ vs g, H' D = some (.lst vs) ∧ OwnAll K W' H' vs acc g ∧ (D :: g).Nodup ∧ ∀ a ∈ D :: g, H a = none ∧ W'.G a = none ∧ W'.S a = none
/-- behind a further pure step -/
theorem LcOk.keep {D : Addr} {acc : List OT} (L : LcOk K W H fp xf D acc W1 H1) (t : Stp W1 H1 [] W2 H2) (S : Sat K W2 H2 fp xf) : LcOk K W H fp xf D acc W2 H2 := by
  obtain ⟨vs, g, hD, ow, nd, z⟩ := L.own
  have l := t.le L.S fun _ m => by cases m
  have al : ∀ a ∈ D :: g, H1 a ≠ none := fun a m => (List.mem_cons.mp m).elim (fun e => by rw [e, hD]; exact fun z => nomatch z) (ow.alloc a)
  refine ⟨L.t.tr0 t, S, vs, g, t.kp D _ hD (by simp) (z D List.mem_cons_self).2.2, ow.mono l fun a m o e => t.kp a o e (by simp) (z a (List.mem_cons_of_mem _ m)).2.2, nd, fun a m => ?_⟩
  obtain ⟨e1, e2⟩ := t.kpS (al a m)
  exact ⟨(z a m).1, e1.trans (z a m).2.1, e2.trans (z a m).2.2⟩
/-- a written cell that nobody knows of -/
theorem Sat.wr {p : Addr} {o : HO} (S : Sat K W H fp xf) (g : W.G p = none) (s : W.S p = none) : Sat K W (upd H p o) fp xf := by
  have n : ∀ a, H a ≠ none → upd H p o a ≠ none := fun a z => by
    by_cases e : a = p
    · rw [e, upd_same]; exact fun z => nomatch z
    · rw [upd_ne e]; exact z
  refine ⟨fun a u e => ?_, fun a k ps e => ?_, S.nd, fun a m => ⟨(S.off a m).1, (S.off a m).2.1, n a (S.off a m).2.2⟩, fun a m => ⟨(S.xof a m).1, (S.xof a m).2.1, n a (S.xof a m).2.2⟩⟩
  · have q : a ≠ p := fun z => by rw [z, g] at e; cases e
    rw [upd_ne q]; exact S.sub a u e
  · obtain ⟨x, u, y, w⟩ := S.vol a k ps e
    have q : a ≠ p := fun z => by rw [z, s] at e; cases e
    exact ⟨x, u, by rw [upd_ne q]; exact y, w⟩
theorem LcOk.snoc {D : Addr} {acc : List OT} {t : OT} (L : LcOk K W H fp xf D acc W1 H1) (h : r.item = some t) (t1 : Stp W1 H1 [] W2 H2) (S2 : Sat K W2 H2 fp xf) (o : ResOk K H1 fp1 W2 H2 v r) : ∃ vs, H2 D = some (.lst vs) ∧ vs.length = acc.length ∧ LcOk K W H fp xf D (acc ++ [t]) W2 (upd H2 D (.lst (vs ++ [v]))) := by
  obtain ⟨vs, g, hD, ow, nd, z⟩ := L.own
  have l := t1.le L.S fun _ m => by cases m
  have al : ∀ a ∈ D :: g, H1 a ≠ none := fun a m => (List.mem_cons.mp m).elim (fun e => by rw [e, hD]; exact fun z => nomatch z) (ow.alloc a)
  have hD2 := t1.kp D _ hD (by simp) (z D List.mem_cons_self).2.2
  have ow2 := ow.mono l fun a m o e => t1.kp a o e (by simp) (z a (List.mem_cons_of_mem _ m)).2.2
  have z2 : ∀ a ∈ D :: g, H a = none ∧ W2.G a = none ∧ W2.S a = none := fun a m => by
    obtain ⟨e1, e2⟩ := t1.kpS (al a m)
    exact ⟨(z a m).1, e1.trans (z a m).2.1, e2.trans (z a m).2.2⟩
  have L2o : ∃ f, Own K W2 H2 v t f ∧ f.Nodup ∧ ∀ a ∈ f, H1 a = none ∧ W2.G a = none ∧ W2.S a = none := by
    cases r with
    | fz d => cases h; exact ⟨[], .leaf o, List.nodup_nil, fun _ m => by cases m⟩
    | nw x => cases h; exact o
    | br x => cases h
    | ex x => cases h
  obtain ⟨f, of, ndf, zf⟩ := L2o
  obtain ⟨nD, ng⟩ := List.nodup_cons.mp nd
  have dj : ∀ a ∈ D :: g, a ∉ f := fun a m m2 => al a m (zf a m2).1
  have up : ∀ a o, a ≠ D → H2 a = some o → upd H2 D (.lst (vs ++ [v])) a = some o := fun a o n e => (upd_ne n).trans e
  have zD := z2 D List.mem_cons_self
  have fH : ∀ a ∈ f, H a = none := fun a m => by
    cases q : H a with
    | none => rfl
    | some o => exact absurd (zf a m).1 (L.t.al a (some_ne q))
  refine ⟨vs, hD2, ow.len, ⟨?_, ?_, ?_⟩, S2.wr zD.2.1 zD.2.2, vs ++ [v], g ++ f, upd_same, ?_, ?_, fun a m => ?_⟩
  · exact (L.t.tr0 t1).wx
  · intro a o e m s
    refine up a o (fun q => by rw [q, zD.1] at e; cases e) ((L.t.tr0 t1).kp a o e m s)
  · intro a n
    by_cases q : a = D
    · rw [q, upd_same]; exact fun z => nomatch z
    · rw [upd_ne q]; exact (L.t.tr0 t1).al a n
  · refine OwnAll.snoc (ow2.mono (.refl _) fun a m o e => up a o (fun q => nD (by rw [← q]; exact m)) e) (of.mono (.refl _) fun a m o e => up a o (fun q => dj D List.mem_cons_self (by rw [← q]; exact m)) e)
  · rw [← List.cons_append]
    exact List.nodup_append.mpr ⟨nd, ndf, fun a m b m2 e => by subst e; exact dj a m m2⟩
  · rw [← List.cons_append] at m
    rcases List.mem_append.mp m with m | m
    · exact z2 a m
    · exact ⟨fH a m, (zf a m).2⟩
/-- the tests of a clause -/
def LTs (K : PySem.W.Frag) (t : DT) : TT := LT K t
/-- the whole: what the reading of a comprehension asks -/
theorem lc_all {mi : DI} {g : DG} {t : DT} {e : DE} {ws : List Nat} (h : LP K (mLc mi g t e ws) σ H Q) : tLc (LI K mi) (LG K (fun i => i ∉ ws) g) (LT K t) (LP K e) ws σ H Q := by
  obtain ⟨W, env, fp, xf, Q0, E, S, hm, k⟩ := h
  refine ⟨W, env, fp, xf, _, E, S, hm, fun st xs ⟨Pv, p0, turn, done⟩ J W1 H1 t1 S1 it D nD => ?_⟩
  have IO := it [] (.inr rfl) fun _ m => by cases m
  have hD0 : H D = none := by
    cases q : H D with
    | none => rfl
    | some o => exact absurd nD (t1.al D (some_ne q))
  have L0 : LcOk K W H fp xf D [] W1 (upd H1 D (.lst [])) := ⟨t1.tr0 (.new nD), S1.new nD, [], [], upd_same, .nil, List.nodup_cons.mpr ⟨by simp, List.nodup_nil⟩, fun a m => by
    rw [List.mem_singleton.mp m]
    exact ⟨hD0, (S1.free nD).1, (S1.free nD).2⟩⟩
  refine ⟨fun i n H' => i + n = xs.length ∧ ∃ acc W', Pv i acc ∧ LcOk K W H fp xf D acc W' H' ∧ Stp W1 H1 [] W' H', ⟨xs.length, by omega, [], W1, p0, L0, .new nD⟩, fun i n H' ⟨hl, acc, W', pi, L, t2⟩ => ?_⟩
  have l2 := t2.le S1 fun _ m => by cases m
  obtain ⟨i1, i2, i3⟩ := IO W' H' fp xf t2 l2 L.S fun _ m => .inl m
  cases n with
  | zero =>
    have ei : i = xs.length := by omega
    subst ei
    refine .inl ⟨i1 _ (Nat.le_refl _), ?_⟩
    obtain ⟨vs, gg, hD, ow, nd, z⟩ := L.own
    exact k _ (done acc pi) _ W' H' L.t L.S ⟨D :: gg, .lst hD ow, nd, z⟩
  | succ n =>
    have hi : i < xs.length := by omega
    refine .inr ⟨i2 i hi, fun H2 => ∃ acc W', Pv (i + 1) acc ∧ LcOk K W H fp xf D acc W' H2 ∧ Stp W1 H1 [] W' H2, fun H2 ⟨acc, W', a, b, c⟩ => ⟨n, Nat.lt_succ_self n, by omega, acc, W', a, b, c⟩, fun x H2 hy => ?_⟩
    obtain ⟨t3, S3, o3⟩ := i3 i x H2 _ hy (List.getElem?_eq_getElem hi)
    have L3 := L.keep t3 S3
    have E3 : EnvOk K W' H2 σ env fp xf := (E.keep S L.t).keep L.S t3
    obtain ⟨hsz, hg⟩ := turn i _ acc (List.getElem?_eq_getElem hi) pi
    obtain ⟨xf1, E4, y4⟩ := E3.lent
    obtain ⟨xf2, E5, y5⟩ := E4.wipe ws
    obtain ⟨f0, oA, rfl⟩ := o3.lent
    have S5 : Sat K W' H2 [] xf2 := S3.lend.less0 fun a m => List.mem_append.mpr (y4 a (y5 a m))
    refine ⟨W', _, [], xf2, [], [], _, _, E5, S5, oA.refp fun _ m => m, hg, fun e1 ⟨hlen, ht⟩ σ6 fp6 xf6 E6 S6 y6 z6 => ?_⟩
    have hfp6 : fp6 = [] := by
      cases fp6 with
      | nil => rfl
      | cons a l => exact ((y6 a List.mem_cons_self).elim (fun m => by cases m) fun m => by cases m)
    subst hfp6
    refine ⟨wipe_same (by rw [E6.len, hlen, E3.len]) fun i hi => z6 i hi, W', e1, [], xf6, _, E6, S6, ht, fun b hb W7 H7 t7 S7 => ?_⟩
    have t37 := t2.tr0 (t3.tr0 t7)
    have Sb : Sat K W7 H7 fp xf := S3.back t7 S7
    have L7 := L3.keep t7 Sb
    cases b with
    | false => exact iteF ⟨acc, W7, hb, L7, t37⟩
    | true =>
      refine iteT ⟨W7, e1, [], xf6, _, E6.keep S6 t7, S7, hb, fun y ⟨ty, ey, py⟩ vy W8 H8 t8 S8 o8 => ?_⟩
      have Sb8 : Sat K W8 H8 fp xf := Sb.back t8 S8
      obtain ⟨vs, hD8, hl8, L9⟩ := L7.snoc ey t8 Sb8 o8
      refine ⟨vs, hD8, by rw [← sizeL_eq, hl8]; exact hsz, acc ++ [ty], W8, py, L9, ?_⟩
      have t18 := t37.tr0 t8
      refine ⟨t18.wx, fun a o e m s => ?_, fun a n => ?_⟩
      · rw [upd_ne fun q => by rw [q, nD] at e; cases e]
        exact t18.kp a o e m s
      · by_cases q : a = D
        · rw [q, upd_same]; exact fun z => nomatch z
        · rw [upd_ne q]; exact t18.al a n
end
section
variable {X : Cx} {tg a b c : Expr} {ma mb mc : DE} {pos : Pos} {ta tb : DT} {st : Stmt} {rest s1 s2 : List Stmt} {m m1 m2 : DS} {pr : List Nat} {g : DG} {gs : List DG} {es : List Expr} {mi : DI} {mr : DA} {elt iter : Expr} {ifs : List Expr} {scope : Scope} {own : List (Str × Nat)}
theorem dts_nil : PTs X [] (LT X.K mYes) := ⟨fun pins s σ H Q I h => by
  obtain ⟨W, env, fp, xf, Q0, E, S, hm, k⟩ := h
  exact pts_nil.run pins s σ H Q I (k true hm W H .refl S)⟩
theorem dts_one (h : PT X c (LT X.K ta)) : PTs X [c] (LT X.K ta) := pts_one h
theorem dp_lc (hc : X.calm = true) (hN : X.N.Nodup) (hi : PI X tg iter (LI X.K mi)) (ok : BlkOk X.N X.env.scope scope own)
    (hg : ∀ (s : Shared) (H : Hp) (C : Addr) (cl : List (Str × Addr)) (fp : List Addr), PG (X.blk s H scope (compEnvC scope cl C X.env) fp) tg (LG X.K (fun i => i ∉ own.map (·.2)) g)) (ht : ∀ (s : Shared) (H : Hp) (C : Addr) (cl : List (Str × Addr)) (fp : List Addr), PTs (X.blk s H scope (compEnvC scope cl C X.env) fp) ifs (LT X.K ta))
    (he : ∀ (s : Shared) (H : Hp) (C : Addr) (cl : List (Str × Addr)) (fp : List Addr), PE (X.blk s H scope (compEnvC scope cl C X.env) fp) elt (LP X.K ma)) (hs : ∀ x, foldedSetIterable iter X.env x = pure x := by intro _; rfl) :
    PE X (.ListComp elt [⟨tg, iter, ifs, 0⟩] scope pos) (LP X.K (mLc mi g ta ma (own.map (·.2)))) := pe_imp (pe_lc hc hN hi ok hg ht he hs) fun σ H Q h => lc_all h
/-- name = [..] on one line -/
theorem ds_setLc {i : Nat} {y : Str} {py : Pos} {spos : Pos} (hc : X.calm = true) (hN : X.N.Nodup) (hy : X.N[i]? = some y) (hyl : X.env.scope.names.lookup y = some .local) (hsw : swapsWith (.ListComp elt [⟨tg, iter, ifs, 0⟩] scope pos) (some (.Name y py)) spos.line X.env = pure true)
    (hi : PI X tg iter (LI X.K mi)) (ok : BlkOk X.N X.env.scope scope own)
    (hg : ∀ (s : Shared) (H : Hp) (C : Addr) (cl : List (Str × Addr)) (fp : List Addr), PG (X.blk s H scope (compEnvC scope cl C X.env) fp) tg (LG X.K (fun i => i ∉ own.map (·.2)) g)) (ht : ∀ (s : Shared) (H : Hp) (C : Addr) (cl : List (Str × Addr)) (fp : List Addr), PTs (X.blk s H scope (compEnvC scope cl C X.env) fp) ifs (LT X.K ta))
    (he : ∀ (s : Shared) (H : Hp) (C : Addr) (cl : List (Str × Addr)) (fp : List Addr), PE (X.blk s H scope (compEnvC scope cl C X.env) fp) elt (LP X.K ma)) (hp : i ∉ pr := by decide) (hs : ∀ x, foldedSetIterable iter X.env x = pure x := by intro _; rfl) :
    PS X (.Assign [.Name y py] (.ListComp elt [⟨tg, iter, ifs, 0⟩] scope pos) spos) (LS X.K pr (mAsgG (gN i) (mLc mi g ta ma (own.map (·.2))))) := ps_imp (ps_setLc hc hN hy hyl hsw hi ok hg ht he hs) fun D σ H h => by
  have w : LP X.K (mLc mi g ta ma (own.map (·.2))) σ H fun x H1 => gName i x σ H1 D.nx := by
    obtain ⟨W, env, fp, xf, K0, E, S, hm, nx, bk, ct, rt⟩ := h
    refine LP.next E S hm fun r hr v W1 H1 t1 S1 E1 o => ?_
    obtain ⟨fp', xf', P⟩ := Post.store (i := i) (pr := pr) S t1 E1 S1 o hr.1 hp
    exact nx _ hr.2 _ W1 H1 fp' xf' P
  exact lc_all w
/-- .. frozen at once -/
theorem ds_setLcF {i : Nat} {y : Str} {py : Pos} {spos : Pos} (hc : X.calm = true) (hN : X.N.Nodup) (hy : X.N[i]? = some y) (hyl : X.env.scope.names.lookup y = some .local) (hsw : swapsWith (.ListComp elt [⟨tg, iter, ifs, 0⟩] scope pos) (some (.Name y py)) spos.line X.env = pure true)
    (hi : PI X tg iter (LI X.K mi)) (ok : BlkOk X.N X.env.scope scope own)
    (hg : ∀ (s : Shared) (H : Hp) (C : Addr) (cl : List (Str × Addr)) (fp : List Addr), PG (X.blk s H scope (compEnvC scope cl C X.env) fp) tg (LG X.K (fun i => i ∉ own.map (·.2)) g)) (ht : ∀ (s : Shared) (H : Hp) (C : Addr) (cl : List (Str × Addr)) (fp : List Addr), PTs (X.blk s H scope (compEnvC scope cl C X.env) fp) ifs (LT X.K ta))
    (he : ∀ (s : Shared) (H : Hp) (C : Addr) (cl : List (Str × Addr)) (fp : List Addr), PE (X.blk s H scope (compEnvC scope cl C X.env) fp) elt (LP X.K ma)) (hp : i ∉ pr := by decide) (hs : ∀ x, foldedSetIterable iter X.env x = pure x := by intro _; rfl) :
    PS X (.Assign [.Name y py] (.ListComp elt [⟨tg, iter, ifs, 0⟩] scope pos) spos) (LS X.K pr (mAsgG (gN i) (mFz (mLc mi g ta ma (own.map (·.2)))))) := ps_imp (ps_setLc hc hN hy hyl hsw hi ok hg ht he hs) fun D σ H h => by
  obtain ⟨W, env, fp, xf, K0, E, S, hm, nx, bk, ct, rt⟩ := h
  have w : LP X.K (mLc mi g ta ma (own.map (·.2))) σ H fun x H1 => gName i x σ H1 D.nx := by
    unfold mAsgG mFz at hm
    refine LP.next E S hm fun r hr v W1 H1 t1 S1 E1 o => ?_
    have fin : ∀ d W' , Stp W H [] W' H1 → Sat X.K W' H1 fp xf → Rep X.K W' v d → gN i env (.fz d) K0.nx → gName i v σ H1 D.nx := fun d W' t S' o hr => by
      obtain ⟨fp', xf', P⟩ := Post.store (i := i) (pr := pr) (r := .fz d) S t (E.keep S t) S' o hr.1 hp
      exact nx _ hr.2 _ W' H1 fp' xf' P
    cases r with
    | fz d => exact fin d W1 t1 S1 o hr
    | nw x =>
      obtain ⟨d, z, q⟩ := hr
      obtain ⟨f, ow, nd, y⟩ := o
      obtain ⟨W', F, R, _⟩ := freeze ow z nd fun a m => (y a m).2
      have za : ∀ a ∈ f, a ∉ fp ∧ a ∉ xf := fun a m => ⟨fun m2 => (S.off a m2).2.2 (y a m).1, fun m2 => (S.xof a m2).2.2 (y a m).1⟩
      exact fin d W' (t1.trans F.stp fun a m => .inr (y a m).1) (F.sat S1 (fun a m => ⟨(y a m).2.1, (y a m).2.2, ow.alloc a m⟩) za) R q
    | br t => exact hr.elim
    | ex t => exact hr.elim
  exact lc_all w
end
end R
/-! ## the rules, calls and defs -/
namespace R
open PySem PySem.Spec PyProof.Rows L2
/-- a def's promise by its reading -/
def spR (K : PySem.W.Frag) (n : Nat) (F : Spec) : Sp := fun vs H Q _ => vs.length = n ∧ ∃ (W : Wd) (ss : Env) (fp xf : List Addr) (Q0 : Rs → Env → Prop), EnvOk K W H (vs.map some) ss fp xf ∧ Sat K W H fp xf ∧ F ss Q0 ∧
  ∀ r ss', Q0 r ss' → ∀ v W' H' fp' xf', Stp W H fp W' H' → EnvOk K W' H' (vs.map some) ss' fp' xf' → Sat K W' H' fp' xf' → (∀ a ∈ fp', a ∈ fp ∨ H a = none) → RetOk K H fp fp' W' H' v r → Q v H'
section
variable {K : PySem.W.Frag} {W W1 W2 W' : Wd} {H H1 H2 H' : Hp} {f f1 fp fp1 fp2 xf xf1 xf2 : List Addr} {σ σ1 σ2 : L2.St} {Q : VK} {r : Rs} {v : V} {env env1 env2 : Env}
/-- some of the slots -/
theorem EnvOk.pick {σ : L2.St} {env : Env} {fp xf : List Addr} (E : EnvOk K W H σ env fp xf) : ∀ (us : L2.St) (es : Env), us.length = es.length → (∀ (i : Nat) (s : Rs), es[i]? = some (some s) → env[i]? = some (some s) ∧ us[i]? = σ[i]?) → ∃ fp' xf', EnvOk K W H us es fp' xf' ∧ fp'.Sublist fp ∧ ∀ a ∈ xf', a ∈ xf := by
  induction E with
  | nil =>
    intro us es hl h
    have key : ∀ (us : L2.St) (es : Env), us.length = es.length → (∀ (i : Nat) (s : Rs), es[i]? = some (some s) → False) → EnvOk K W H us es [] [] := by
      intro us
      induction us with
      | nil => intro es hl _; cases es with | nil => exact .nil | cons _ _ => simp at hl
      | cons u us ih =>
        intro es hl h
        cases es with
        | nil => simp at hl
        | cons e es =>
          cases e with
          | none => exact .no (ih es (by simpa using hl) fun i s q => h (i + 1) s (by simpa using q))
          | some s => exact (h 0 s rfl).elim
    exact ⟨[], [], key us es hl fun i s q => by have := (h i s q).1; simp at this, .refl _, fun _ m => m⟩
  | no E ih =>
    intro us es hl h
    cases es with
    | nil => cases us with | nil => exact ⟨[], [], .nil, List.nil_sublist _, fun _ m => by cases m⟩ | cons _ _ => simp at hl
    | cons e es =>
      cases us with
      | nil => simp at hl
      | cons u us =>
        obtain ⟨fp', xf', a, b, c⟩ := ih us es (by simpa using hl) fun i s q => by have := h (i + 1) s (by simpa using q); simpa using this
        cases e with
        | none => exact ⟨fp', xf', .no a, b, c⟩
        | some s => have := (h 0 s rfl).1; simp at this
  | fz q E ih =>
    intro us es hl h
    cases es with
    | nil => cases us with | nil => exact ⟨[], [], .nil, List.nil_sublist _, fun _ m => by cases m⟩ | cons _ _ => simp at hl
    | cons e es =>
      cases us with
      | nil => simp at hl
      | cons u us =>
        obtain ⟨fp', xf', a, b, c⟩ := ih us es (by simpa using hl) fun i s q => by have := h (i + 1) s (by simpa using q); simpa using this
        cases e with
        | none => exact ⟨fp', xf', .no a, b, c⟩
        | some s =>
          obtain ⟨e1, e2⟩ := h 0 s rfl
          simp at e1 e2
          subst e1 e2
          exact ⟨fp', xf', .fz q a, b, c⟩
  | nw q E ih =>
    intro us es hl h
    cases es with
    | nil => cases us with | nil => exact ⟨[], [], .nil, List.nil_sublist _, fun _ m => by cases m⟩ | cons _ _ => simp at hl
    | cons e es =>
      cases us with
      | nil => simp at hl
      | cons u us =>
        obtain ⟨fp', xf', a, b, c⟩ := ih us es (by simpa using hl) fun i s q => by have := h (i + 1) s (by simpa using q); simpa using this
        cases e with
        | none => exact ⟨fp', xf', .no a, b.trans (List.sublist_append_right _ _), c⟩
        | some s =>
          obtain ⟨e1, e2⟩ := h 0 s rfl
          simp at e1 e2
          subst e1 e2
          exact ⟨_, xf', .nw q a, List.Sublist.append_left b _, c⟩
  | ex q E ih =>
    intro us es hl h
    cases es with
    | nil => cases us with | nil => exact ⟨[], [], .nil, List.nil_sublist _, fun _ m => by cases m⟩ | cons _ _ => simp at hl
    | cons e es =>
      cases us with
      | nil => simp at hl
      | cons u us =>
        obtain ⟨fp', xf', a, b, c⟩ := ih us es (by simpa using hl) fun i s q => by have := h (i + 1) s (by simpa using q); simpa using this
        cases e with
        | none => exact ⟨fp', xf', .no a, b, fun z m => List.mem_append_right _ (c z m)⟩
        | some s =>
          obtain ⟨e1, e2⟩ := h 0 s rfl
          simp at e1 e2
          subst e1 e2
          exact ⟨fp', _, .ex q a, b, fun z m => (List.mem_append.mp m).elim (List.mem_append_left _) fun m => List.mem_append_right _ (c z m)⟩
theorem Sat.sublist {fp' xf' : List Addr} (S : Sat K W H fp xf) (h : fp'.Sublist fp) (x : ∀ a ∈ xf', a ∈ xf) : Sat K W H fp' xf' :=
  ⟨S.sub, S.vol, S.nd.sublist h, fun a m => S.off a (h.subset m), fun a m => ⟨fun q => (S.xof a (x a m)).1 (h.subset q), (S.xof a (x a m)).2⟩⟩
theorem EnvOk.app {σ2 : L2.St} {env2 : Env} {fp2 xf2 : List Addr} (b : EnvOk K W H σ2 env2 fp2 xf2) {σ : L2.St} {env : Env} {fp xf : List Addr} (a : EnvOk K W H σ env fp xf) : ∃ xf', EnvOk K W H (σ ++ σ2) (env ++ env2) (fp ++ fp2) xf' ∧ ∀ a ∈ xf', a ∈ xf ∨ a ∈ xf2 := by
  induction a with
  | nil => exact ⟨_, b, fun _ m => .inr m⟩
  | no _ ih => obtain ⟨x, e, z⟩ := ih; exact ⟨x, .no e, z⟩
  | fz q _ ih => obtain ⟨x, e, z⟩ := ih; exact ⟨x, .fz q e, z⟩
  | nw q _ ih =>
    obtain ⟨x, e, z⟩ := ih
    refine ⟨x, ?_, z⟩
    have w := EnvOk.nw q e
    rw [← List.append_assoc] at w
    exact w
  | ex q _ ih => obtain ⟨x, e, z⟩ := ih; exact ⟨_, .ex q e, fun a m => (List.mem_append.mp m).elim (fun m => .inl (List.mem_append_left _ m)) fun m => (z a m).imp (List.mem_append_right _) id⟩
theorem EnvOk.nones : ∀ (n : Nat), EnvOk K W H (List.replicate n none) (List.replicate n none) [] []
  | 0 => .nil
  | n + 1 => .no (EnvOk.nones n)
/-- what was given as arguments -/
theorem ResAll.lend {vs : List V} {rs : List Rs} {g : List Addr} (os : ResAll K H fp W1 H1 vs rs g) (F : ∀ a ∈ g, W1.S a = none) : ∃ xf', EnvOk K W1 H1 (vs.map some) (rs.map fun r => some r.arg) [] xf' ∧ ∀ a ∈ xf', W1.S a = none ∧ H1 a ≠ none := by
  induction os with
  | nil => exact ⟨[], .nil, fun _ m => by cases m⟩
  | fz q _ ih => obtain ⟨x, e, z⟩ := ih F; exact ⟨x, .fz q e, z⟩
  | nw q _ ih =>
    obtain ⟨x, e, z⟩ := ih fun a m => F a (List.mem_append_right _ m)
    exact ⟨_, .ex q e, fun a m => (List.mem_append.mp m).elim (fun m => ⟨F a (List.mem_append_left _ m), q.alloc a m⟩) (z a)⟩
  | br q y _ ih => obtain ⟨x, e, z⟩ := ih F; exact ⟨_, .ex q e, fun a m => (List.mem_append.mp m).elim (fun m => ⟨y a m, q.alloc a m⟩) (z a)⟩
  | ex q y _ ih => obtain ⟨x, e, z⟩ := ih F; exact ⟨_, .ex q e, fun a m => (List.mem_append.mp m).elim (fun m => ⟨(y a m).1, q.alloc a m⟩) (z a)⟩
theorem Sat.only {xf' : List Addr} (S : Sat K W H fp xf) (h : ∀ a ∈ xf', W.S a = none ∧ H a ≠ none) : Sat K W H [] xf' := ⟨S.sub, S.vol, List.nodup_nil, fun _ m => (by cases m), fun a m => ⟨by simp, h a m⟩⟩
theorem EnvOk.consts : ∀ {vs : List V} {ds : List D}, RepAll K W vs ds → EnvOk K W H (vs.map some) (ds.map fun d => some (.fz d)) [] []
  | _, _, .nil => .nil
  | _, _, .cons a b => .fz a (EnvOk.consts b)
theorem no_nones {n : Nat} {us : L2.St} : EnvOk K W H us (List.replicate n none) fp xf → fp = [] := by
  intro h
  induction n generalizing us fp xf with
  | zero => cases h; rfl
  | succ n ih => cases h with | no h => exact ih h
theorem map_none {α : Type} (ss : Env) : (ss.map fun _ => (none : Option α)) = List.replicate ss.length none := by
  induction ss with
  | nil => rfl
  | cons s ss ih => rw [List.map_cons, ih, List.length_cons, List.replicate_succ]
/-- a call that changes no argument: the callee's promise, from the caller's slots -/
theorem call1 {F : Spec1} {vs dvs : List V} {rs : List Rs} {dv : List D} {n : Nat} {E : XK} {Q0 : Rs → Prop} {g : List Addr} (hn : (vs ++ dvs).length = n) (O : Ops K H Q Q0 W2 H2 W fp xf) (os : ResAll K H fp W2 H2 vs rs g) (G : Fresh H W2 g) (hd : ∀ W, RepAll K W dvs dv)
    (h : F (rs.map (fun r => some r.arg) ++ dv.map fun d => some (.fz d)) fun r => r.own ∧ Q0 r) : spR K n F.io (vs ++ dvs) H2 Q E := by
  obtain ⟨xf1, E1, z1⟩ := os.lend fun a m => (G.2 a m).2.2
  obtain ⟨xf2, E2, z2⟩ := (EnvOk.consts (hd W2)).app E1
  have S2 : Sat K W2 H2 [] xf2 := O.S2.only fun a m => (z2 a m).elim (z1 a) fun m => by cases m
  rw [← List.map_append] at E2
  refine ⟨hn, W2, _, [], xf2, fun r _ => r.own ∧ Q0 r, E2, S2, h, fun r ss' ⟨ho, q⟩ v W' H' fp' xf' t E' S' nf o => ?_⟩
  have Sb := O.S2.back t (S'.sublist (List.nil_sublist _) fun _ m => m)
  refine O.k r q v W' H' (O.t.tr0 t) Sb ?_
  cases r with
  | fz d => exact o
  | nw x =>
    obtain ⟨f, ow, nd, z⟩ := o
    refine ⟨f, ow, nd, fun a m => ⟨?_, (z a m).2.2⟩⟩
    rcases (z a m).1 with q | q
    · cases q2 : H a with
      | none => rfl
      | some o => exact absurd q (O.t.al a (some_ne q2))
    · cases q
  | br x => exact ho.elim
  | ex x => exact ho.elim
end
section
variable {X : Cx} {CX : CXT} {k n : Nat} {f C : Addr} {fd : FuncData} {ps : List Str} {F1 : Spec1} {F0 : Spec} {dvs : List V} {dv : List D} {ds : List Value} {E : XK} {x m : Str} {p pos apos : Pos} {e o : Expr} {es : List Expr} {mo : DE} {ma : DA}
theorem args_eq {rs : List Rs} {dv : List D} : args rs dv = (rs.map Rs.ffz).map (fun r => some r.arg) ++ dv.map fun d => some (.fz d) := by
  unfold args
  rw [List.map_map] <;> rfl
theorem args_len {rs : List Rs} {dv : List D} {vs : List V} {dvs : List V} (h : vs.length = rs.length) (hd : dvs.length = dv.length) : (args rs dv).length = (vs ++ dvs).length := by
  unfold args
  rw [List.length_append, List.length_append, List.length_map, List.length_map, h, hd]
/-- f(..) -/
theorem dp_call (F : FnOk X.prog X.w X.K X.mg X.base CX k f fd ps (spR X.K n F1.io)) (hr : Room k X.A) (hm : X.mg x = some (.ref f)) (hk : PySem.W.keepIn X.K (.ref f) = true) (hb : Binds X.K fd ps ds) (hv : Vals dvs ds) (hd : ∀ W, RepAll X.K W dvs dv) (hx : Passes CX X E) (ha : PA X (e :: es) (LA X.K ma))
    (hg : Gl X x := by rfl) (hst : starEach (e :: es) X.env = (false, eval e X.env) :: starEach es X.env := by rfl) (hpl : (backTo pos (starEach es X.env)).any (·.1) = false := by rfl) (hdb : (x == ("__debug__" : Str)) = false := by decide) :
    PE X (.Call (.Name x p) (e :: es) [] pos) (LP X.K (mCall n F1 ma dv)) := pe_imp (pe_call F hr hg hm hk hb hv hx ha hdb hst hpl) fun σ H Q h => by
  obtain ⟨W, env, fp, xf, Q0, En, S, hm, k⟩ := h
  refine LA.next En S hm fun rs ⟨hn, hr⟩ vs W1 H1 g t1 S1 E1 os G => ?_
  obtain ⟨W4, g', t4, S4, _, _, o4, G4, _, _⟩ := os.ffz (.refl _) rfl S t1 S1 G.1 G.2
  rw [args_eq] at hr
  exact call1 ((args_len os.len (hd W1).len).symm.trans hn) ⟨S, t4, S4, k⟩ o4 G4 hd hr
/-- f() -/
theorem dp_call0 (F : FnOk X.prog X.w X.K X.mg X.base CX k f fd ps (spR X.K n F1.io)) (hr : Room k X.A) (hm : X.mg x = some (.ref f)) (hk : PySem.W.keepIn X.K (.ref f) = true) (hb : Binds X.K fd ps ds) (hv : Vals dvs ds) (hd : ∀ W, RepAll X.K W dvs dv) (hx : Passes CX X E)
    (hg : Gl X x := by rfl) (hdb : (x == ("__debug__" : Str)) = false := by decide) :
    PE X (.Call (.Name x p) [] [] pos) (LP X.K (mCall n F1 mNil dv)) := pe_imp (pe_call0 F hr hg hm hk hb hv hx hdb) fun σ H Q h => by
  obtain ⟨W, env, fp, xf, Q0, En, S, ⟨hn, hr⟩, k⟩ := h
  exact call1 (E := E) (rs := []) (vs := []) (g := []) ((args_len (rs := []) (vs := []) rfl (hd W).len).symm.trans hn) ⟨S, .refl, S, k⟩ .nil ⟨List.nodup_nil, fun _ m => by cases m⟩ hd hr
def CellsOk (W : Wd) (fp : List Addr) (r : Rs) (f : List Addr) : Prop := match r with
  | .ex _ => ∀ a ∈ f, W.S a = none ∧ a ∉ fp
  | .fz _ => f = []
  | _ => ∀ a ∈ f, W.S a = none
theorem inst_ok {K : PySem.W.Frag} {W2 : Wd} {H H2 : Hp} {fp xf : List Addr} {v : V} {r : Rs} {C : Nat} {ks : List Str} {ts : List OT} (h : r.t.inst = some (C, ks, ts)) (o : ResOk K H fp W2 H2 v r) (S : Sat K W2 H2 fp xf) : ∃ a dx fs f, v = .ref a ∧ H2 a = some (.ins C dx fs) ∧ fs.map (·.1) = ks ∧ OwnAll K W2 H2 (fs.map (·.2)) ts f ∧ CellsOk W2 fp r f := by
  have lf : ∀ {d : D}, Rep K W2 v d → (OT.leaf d).inst = some (C, ks, ts) → ∃ a dx fs, v = .ref a ∧ H2 a = some (.ins C dx fs) ∧ fs.map (·.1) = ks ∧ OwnAll K W2 H2 (fs.map (·.2)) ts [] := by
    intro d q h
    cases q with
    | ins g r => cases h; exact ⟨_, _, _, rfl, S.sub _ _ g, rfl, OwnAll.leafs (vs := []) r⟩
    | lst _ _ => cases h
    | tup _ _ => cases h
    | rol _ _ => cases h
    | non => cases h
    | bl _ => cases h
    | int _ => cases h
    | str _ => cases h
    | vol _ => cases h
    | any _ => cases h
  have own : ∀ {t : OT} {f : List Addr}, Own K W2 H2 v t f → t.inst = some (C, ks, ts) → ∃ a dx fs f', v = .ref a ∧ H2 a = some (.ins C dx fs) ∧ fs.map (·.1) = ks ∧ OwnAll K W2 H2 (fs.map (·.2)) ts f' ∧ ∀ a ∈ f', a ∈ f := by
    intro t f o h
    cases o with
    | leaf q => obtain ⟨a, dx, fs, x1, x2, x3, x4⟩ := lf q h; exact ⟨a, dx, fs, [], x1, x2, x3, x4, fun _ m => by cases m⟩
    | ins g r => cases h; exact ⟨_, _, _, _, rfl, g, rfl, r, fun _ m => List.mem_cons_of_mem _ m⟩
    | lst _ _ => cases h
    | tup _ _ => cases h
    | d0 _ => cases h
  cases r with
  | fz d => obtain ⟨a, dx, fs, x1, x2, x3, x4⟩ := lf o h; exact ⟨a, dx, fs, [], x1, x2, x3, x4, rfl⟩
  | nw t =>
    obtain ⟨f, o, z⟩ := o
    obtain ⟨a, dx, fs, f', x1, x2, x3, x4, i⟩ := own o h
    exact ⟨a, dx, fs, f', x1, x2, x3, x4, fun a m => (z.2 a (i a m)).2.2⟩
  | br t =>
    obtain ⟨f, o, z⟩ := o
    obtain ⟨a, dx, fs, f', x1, x2, x3, x4, i⟩ := own o h
    exact ⟨a, dx, fs, f', x1, x2, x3, x4, fun a m => z a (i a m)⟩
  | ex t =>
    obtain ⟨f, o, z⟩ := o
    obtain ⟨a, dx, fs, f', x1, x2, x3, x4, i⟩ := own o h
    exact ⟨a, dx, fs, f', x1, x2, x3, x4, fun a m => z a (i a m)⟩
theorem lookup_no {m : Str} : ∀ {fs : List (Str × V)}, (fs.map (·.1)).contains m = false → fs.lookup m = none
  | [], _ => rfl
  | (a, b) :: fs, h => by
    have h2 : (m == a || (fs.map (·.1)).contains m) = false := by
      have h3 := h
      rw [List.map_cons, List.contains_cons] at h3
      exact h3
    obtain ⟨h3, h4⟩ := Bool.or_eq_false_iff.mp h2
    rw [List.lookup_cons, h3]
    exact lookup_no h4
/-- o.f -/
theorem dp_fld (c : Cls X.K C) (n : NoAttr X.K C x) (he : PE X o (LP X.K mo)) (hb : attributeBase o x X.env (eval o X.env) = eval o X.env := by rfl) : PE X (.Attribute o x pos) (LP X.K (mFld C x mo)) := pe_imp (pe_fld he hb) fun σ H Q h => by
  obtain ⟨W, env, fp, xf, Q0, E, S, hm, k⟩ := h
  refine LP.next E S hm fun r ⟨ks, ts, t, ei, ea, q⟩ v W1' H1 t1' S1' E1' o' => ?_
  obtain ⟨W1, t1, S1, _, o⟩ := ffz_ok S t1' S1' o'
  obtain ⟨a, dx, fs, f, rfl, g, rfl, w, z⟩ := inst_ok ei o S1
  have key : ∀ {fs : List (Str × V)} {ts : List OT} {f : List Addr}, OwnAll X.K W1 H1 (fs.map (·.2)) ts f → assoc x (fs.map (·.1)) ts = some t → ∃ u g, fs.lookup x = some u ∧ Own X.K W1 H1 u t g ∧ ∀ a ∈ g, a ∈ f := by
    intro fs
    induction fs with
    | nil => intro ts f w e; cases w; cases e
    | cons p fs ih =>
      obtain ⟨kx, u⟩ := p
      intro ts f w e
      cases w with
      | cons o1 r1 =>
        rename_i t1 ts1 f1 g1
        have e : (if kx = x then some t1 else assoc x (fs.map (·.1)) ts1) = some t := e
        rw [List.lookup_cons]
        by_cases hk : kx = x
        · rw [if_pos hk] at e
          cases e
          rw [hk, beq_self_eq_true]
          exact ⟨u, f1, rfl, o1, fun a m => List.mem_append_left _ m⟩
        · rw [if_neg hk] at e
          have hk2 : (x == kx) = false := by simpa using fun q => hk q.symm
          rw [hk2]
          obtain ⟨u', g', e1, o2, s2⟩ := ih r1 e
          exact ⟨u', g', e1, o2, fun a m => List.mem_append_right _ (s2 a m)⟩
  obtain ⟨u, g2, el, ou, s2⟩ := key w ea
  refine ⟨a, C, dx, fs, u, rfl, g, c, n, el, k _ q u W1 H1 t1 S1 ?_⟩
  generalize r.ffz = r at z
  have lf : ∀ d, t = .leaf d → Rep X.K W1 u d := by
    intro d e
    subst e
    cases ou with
    | leaf q => exact q
  cases r with
  | fz d =>
    have z : f = [] := z
    subst z
    cases t with
    | leaf d => exact lf d rfl
    | lst _ => exact ⟨g2, ou, fun a m => absurd (s2 a m) (by simp)⟩
    | tup _ => exact ⟨g2, ou, fun a m => absurd (s2 a m) (by simp)⟩
    | ins _ _ _ => exact ⟨g2, ou, fun a m => absurd (s2 a m) (by simp)⟩
    | d0 => exact ⟨g2, ou, fun a m => absurd (s2 a m) (by simp)⟩
  | nw x =>
    cases t with
    | leaf d => exact lf d rfl
    | lst _ => exact ⟨g2, ou, fun a m => z a (s2 a m)⟩
    | tup _ => exact ⟨g2, ou, fun a m => z a (s2 a m)⟩
    | ins _ _ _ => exact ⟨g2, ou, fun a m => z a (s2 a m)⟩
    | d0 => exact ⟨g2, ou, fun a m => z a (s2 a m)⟩
  | br x =>
    cases t with
    | leaf d => exact lf d rfl
    | lst _ => exact ⟨g2, ou, fun a m => z a (s2 a m)⟩
    | tup _ => exact ⟨g2, ou, fun a m => z a (s2 a m)⟩
    | ins _ _ _ => exact ⟨g2, ou, fun a m => z a (s2 a m)⟩
    | d0 => exact ⟨g2, ou, fun a m => z a (s2 a m)⟩
  | ex x =>
    cases t with
    | leaf d => exact lf d rfl
    | lst _ => exact ⟨g2, ou, fun a m => z a (s2 a m)⟩
    | tup _ => exact ⟨g2, ou, fun a m => z a (s2 a m)⟩
    | ins _ _ _ => exact ⟨g2, ou, fun a m => z a (s2 a m)⟩
    | d0 => exact ⟨g2, ou, fun a m => z a (s2 a m)⟩
/-- a method's call: the reading, from the caller's slots -/
theorem meth_all {σ : L2.St} {H : Hp} {Q : VK} (hd : ∀ W, RepAll X.K W dvs dv) (h : LP X.K (mMeth n C m F1 mo ma dv) σ H Q) : tMeth C m (spR X.K n F1.io) dvs E (LP X.K mo) (LA X.K ma) σ H Q := by
  obtain ⟨W, env, fp, xf, Q0, En, S, hm, k⟩ := h
  refine LP.next En S hm fun r ⟨ks, ts, ei, en, hq⟩ v W1' H1 t1' S1' E1' o' => ?_
  obtain ⟨W1, t1, S1, _, o⟩ := ffz_ok S t1' S1' o'
  obtain ⟨a, dx, fs, f, rfl, g, rfl, w, z⟩ := inst_ok ei o S1
  refine ⟨a, dx, fs, rfl, g, lookup_no en, ?_⟩
  refine LA.next (En.keep S t1) S1 hq fun rs ⟨hn, hr⟩ vs W2 H2 g2 t2 S2 E2 os G => ?_
  obtain ⟨W4, g', t4, S4, l4, e4, o4, G4, i4, k4⟩ := os.ffz (.refl _) rfl S1 t2 S2 G.1 G.2
  have l := t4.le S1 fun _ m => by cases m
  have oo := o.keep t4 l
  have O : Ops X.K H Q Q0 W4 H2 W fp xf := ⟨S, t1.tr0 t4, S4, k⟩
  have hlen : (V.ref a :: (vs ++ dvs)).length = n := by
    rw [List.length_cons, ← args_len os.len (hd W2).len]
    exact hn
  have e : some r.lend :: args rs dv = ((r.ffz :: rs.map Rs.ffz).map fun r => some r.arg) ++ dv.map fun d => some (.fz d) := by
    rw [args_eq] <;> rfl
  rw [e] at hr
  have Gb := fresh_back G4 t1.al
  have ob : ResAll X.K H fp W4 H2 vs (rs.map Rs.ffz) g' := o4.back
  generalize r.ffz = q at oo hr
  have fin : ∀ q2 g0, q2.arg = q.arg → ResAll X.K H fp W4 H2 (.ref a :: vs) (q2 :: rs.map Rs.ffz) g0 → Fresh H W4 g0 → spR X.K n F1.io (.ref a :: (vs ++ dvs)) H2 Q E := fun q2 g0 e0 o0 G0 => call1 (vs := .ref a :: vs) hlen O o0 G0 hd (by
    rw [List.map_cons, e0]
    exact hr)
  cases q with
  | fz d => exact fin (.fz d) g' rfl (.fz oo ob) Gb
  | nw x => obtain ⟨f2, ow, nd, zz⟩ := oo; exact fin (.br x) g' rfl (.br ow (fun a m => (zz a m).2.2) ob) Gb
  | br x => obtain ⟨f2, ow, zz⟩ := oo; exact fin (.br x) g' rfl (.br ow zz ob) Gb
  | ex x => obtain ⟨f2, ow, zz⟩ := oo; exact fin (.ex x) g' rfl (.ex ow zz ob) Gb
/-- o.m(..) -/
theorem dp_meth {pl : Sem Bool} (c : Cls X.K C) (hm : Meth X.K C m f) (F : FnOk X.prog X.w X.K X.mg X.base CX k f fd ps (spR X.K n F1.io)) (hr : Room k X.A) (hb : Binds X.K fd ps ds) (hv : Vals dvs ds) (hd : ∀ W, RepAll X.K W dvs dv) (hx : Passes CX X E) (he : PE X o (LP X.K mo)) (ha : PA X (e :: es) (LA X.K ma))
    (hst : starEach (e :: es) X.env = (false, eval e X.env) :: starEach es X.env := by rfl) (hpl : (backTo pos (starEach es X.env)).any (·.1) = false := by rfl)
    (ht : eval (.Call (.Attribute o m apos) (e :: es) [] pos) X.env = (do
      let ov ← eval o X.env
      standAt apos.atName
      let (f, first) ← holding [ov] (getMethod ov m pl)
      callWith pos f first (backTo pos (starEach (e :: es) X.env)) (backToKw pos (keywordEach [] X.env))) := by rfl) :
    PE X (.Call (.Attribute o m apos) (e :: es) [] pos) (LP X.K (mMeth n C m F1 mo ma dv)) := pe_imp (pe_meth (pl := pl) he c hm F hr hb hv hx ha hst hpl ht) fun σ H Q h => meth_all hd h
/-- o.m() -/
theorem dp_meth0 {pl : Sem Bool} (c : Cls X.K C) (hm : Meth X.K C m f) (F : FnOk X.prog X.w X.K X.mg X.base CX k f fd ps (spR X.K n F1.io)) (hr : Room k X.A) (hb : Binds X.K fd ps ds) (hv : Vals dvs ds) (hd : ∀ W, RepAll X.K W dvs dv) (hx : Passes CX X E) (he : PE X o (LP X.K mo))
    (ht : eval (.Call (.Attribute o m apos) [] [] pos) X.env = (do
      let ov ← eval o X.env
      standAt apos.atName
      let (f, first) ← holding [ov] (getMethod ov m pl)
      callWith pos f first (backTo pos (starEach [] X.env)) (backToKw pos (keywordEach [] X.env))) := by rfl) :
    PE X (.Call (.Attribute o m apos) [] [] pos) (LP X.K (mMeth n C m F1 mo mNil dv)) := pe_imp (pe_meth0 (pl := pl) he c hm F hr hb hv hx ht) fun σ H Q h => by
  have h2 := meth_all (E := E) hd h
  obtain ⟨W, env, fp, xf, Q0, En, S, hm, k⟩ := h2
  refine LP.next En S hm fun r hq v W1 H1 t1 S1 E1 o => ?_
  obtain ⟨a, dx, fs, ea, g, l, hla⟩ := k r hq v W1 H1 t1 S1 o
  refine ⟨a, dx, fs, ea, g, l, ?_⟩
  obtain ⟨W2, env2, fp2, xf2, Q2, E2, S2, hm2, k2⟩ := hla
  exact k2 _ hm2 [] W2 H1 [] .refl S2 .nil ⟨List.nodup_nil, fun _ m => by cases m⟩
/-- a class is made: __init__ alone knows the new instance -/
theorem make_all {σ : L2.St} {H : Hp} {Q : VK} (hd : ∀ W, RepAll X.K W dvs dv) (h : LP X.K (mMake n C F0 ma dv) σ H Q) : tMake C (spR X.K n F0) dvs E (LA X.K ma) σ H Q := by
  obtain ⟨W, env, fp, xf, Q0, En, S, hm, k⟩ := h
  refine LA.next En S hm fun rs ⟨hn, hr⟩ vs W1 H1 g t1 S1 E1 os G => ?_
  intro x dx nx ndx ne
  obtain ⟨W4, g', t4, S4, _, _, o4, G4, _, _⟩ := os.ffz (.refl _) rfl S t1 S1 G.1 G.2
  obtain ⟨xf1, Ea, z1⟩ := o4.lend fun a m => (G4.2 a m).2.2
  obtain ⟨xf2, Eb, z2⟩ := (EnvOk.consts (hd W4)).app Ea
  rw [← List.map_append] at Eb
  have nx1 : upd H1 dx (.own x) x = none := by rw [upd_ne (Ne.symm ne)]; exact nx
  have tn := (Stp.new (W := W4) (o := .own x) ndx).tr0 (.new (o := .ins C dx []) nx1)
  have Sn := (S4.new (o := .own x) ndx).new (o := .ins C dx []) nx1
  have En2 := Eb.mono (W' := W4) (H' := upd (upd H1 dx (.own x)) x (.ins C dx [])) (.refl _) fun a m o e => by
    rw [upd_ne (fun q => by rw [q, nx] at e; cases e), upd_ne (fun q => by rw [q, ndx] at e; cases e)]
    exact e
  have fx := S4.free nx
  have ow : Own X.K W4 (upd (upd H1 dx (.own x)) x (.ins C dx [])) (.ref x) (.ins C [] []) [x] := .ins (fs := []) upd_same .nil
  have E3 := EnvOk.nw ow En2
  have S3 : Sat X.K W4 (upd (upd H1 dx (.own x)) x (.ins C dx [])) ([x] ++ ([] ++ [])) xf2 := ⟨Sn.sub, Sn.vol, by simp, fun a m => by
    have e : a = x := by simpa using m
    rw [e]
    exact ⟨fx.1, fx.2, by rw [upd_same]; exact fun z => nomatch z⟩, fun a m => by
    have q : W4.S a = none ∧ H1 a ≠ none := (z2 a m).elim (z1 a) fun m => by cases m
    exact ⟨fun m2 => q.2 (by rw [show a = x by simpa using m2]; exact nx), q.1, tn.al a q.2⟩⟩
  have hlen : (V.ref x :: (vs ++ dvs)).length = n := by
    rw [List.length_cons, ← args_len os.len (hd W1).len]
    exact hn
  rw [args_eq] at hr
  refine ⟨hlen, W4, _, _, xf2, _, E3, S3, hr, fun r ss' ⟨er, t, es, q⟩ v W' H' fp' xf' t5 E5 S5 nf o => ?_⟩
  subst er
  have ev : v = .non := by cases (show Rep X.K W' v .non from o); rfl
  have tall : Stp W H [] W' H' := by
    refine (t4.tr0 tn).trans t5 fun a m => .inr ?_
    have e : a = x := by simpa using m
    rw [e]
    cases z : H x with
    | none => rfl
    | some u => exact absurd nx (t4.al x (some_ne z))
  have Sb := S.back tall (S5.sublist (List.nil_sublist _) fun _ m => m)
  refine ⟨ev, ?_⟩
  cases ss' with
  | nil => cases es
  | cons s0 ss0 =>
    have es : some s0 = some (some (Rs.nw t)) := es
    cases es
    cases E5 with
    | nw ow5 rest =>
      rename_i f5 fp5
      obtain ⟨n1, _, _⟩ := List.nodup_append.mp S5.nd
      refine k _ q _ W' H' tall Sb ⟨f5, ow5, n1, fun a m => ?_⟩
      obtain ⟨o1, o2, _⟩ := S5.off a (List.mem_append_left _ m)
      refine ⟨?_, o1, o2⟩
      rcases nf a (List.mem_append_left _ m) with z | z
      · have e : a = x := by simpa using z
        rw [e]
        cases z : H x with
        | none => rfl
        | some u => exact absurd nx (t4.al x (some_ne z))
      · cases z2 : H a with
        | none => rfl
        | some u => exact absurd z ((t4.tr0 tn).al a (some_ne z2))
/-- C(..) -/
theorem dp_make (M : Mk X.K C f) (F : FnOk X.prog X.w X.K X.mg X.base CX k f fd ps (spR X.K n F0)) (hr : Room (k + 1) X.A) (hm : X.mg x = some (.ref C)) (hb : Binds X.K fd ps ds) (hv : Vals dvs ds) (hd : ∀ W, RepAll X.K W dvs dv) (hx : Passes CX X E) (ha : PA X (e :: es) (LA X.K ma))
    (hg : Gl X x := by rfl) (hdb : (x == ("__debug__" : Str)) = false := by decide) (he : starEach (e :: es) X.env = (false, eval e X.env) :: starEach es X.env := by rfl) (hpl : (backTo pos (starEach es X.env)).any (·.1) = false := by rfl) :
    PE X (.Call (.Name x p) (e :: es) [] pos) (LP X.K (mMake n C F0 ma dv)) := pe_imp (pe_make M F hr hg hm hb hv hx ha hdb he hpl) fun σ H Q h => make_all hd h
end
/-! ### a def's body -/
section
variable {P : Program} {w : World} {K : PySem.W.Frag} {mg : Str → Option Value} {base : Heap}
theorem start_env {K : PySem.W.Frag} {W : Wd} {H : Hp} {vs : List V} {ss : Env} {fp xf : List Addr} {N : List Str} {n : Nat} (E : EnvOk K W H (vs.map some) ss fp xf) (h : vs.length = n) : ∃ xf', EnvOk K W H (L2.start N vs) (ss ++ List.replicate (N.length - n) none) fp xf' ∧ ∀ a ∈ xf', a ∈ xf := by
  obtain ⟨xf', e, z⟩ := (EnvOk.nones (K := K) (W := W) (H := H) (N.length - n)).app E
  rw [List.append_nil] at e
  refine ⟨xf', ?_, fun a m => (z a m).elim id fun m => by cases m⟩
  unfold L2.start
  rw [h]
  exact e
/-- THE RULE: a def that lets nothing out; pr: the arguments that it changes for its caller -/
theorem fn_R {x qual : Str} {params : Arguments} {bodyS : List Stmt} {scope : Scope} {dfl : List V} {kws : List (Str × V)} {f : Addr} {fd : FuncData} {N ps : List Str} {k n : Nat} {F0 : Spec} {pr : List Nat} {m : DS} (F : FunD K x qual params bodyS scope dfl kws f fd) (S : FnScope N ps scope) (hn : ps.length = n)
    (body : ∀ (cdv : Value) (A : Around) (outer : List PySem.Env) (s : Shared) (H : Hp) (E : XK), Room k (A.deeper (envOfC qual scope s.heap.objs.size f cdv)) → PSs (cxOf CX0 P w K mg base N qual scope f cdv A outer s H E).nox bodyS (LS K pr m))
    (wp : ∀ ss Q0, ss.length = n → F0 ss Q0 → m (ss ++ List.replicate (N.length - n) none) { nx := fun e => Q0 (.fz .non) (outs pr n e), rt := fun r e => Q0 r (outs pr n e) }) : FnOk P w K mg base CX0 (k + 1) f fd ps (spR K n F0) := by
  refine F.ok S (fun vs H Q E h => by rw [hn]; exact h.1) (fun cdv A outer s H vs Q E hr h => ⟨LS K pr m, (body cdv A outer s H E hr).nox, ?_⟩)
  obtain ⟨hl, W, ss, fp, xf, Q0, E0, S0, hF, kk⟩ := h
  have hss : ss.length = n := by
    have e := E0.len
    rw [List.length_map] at e
    omega
  obtain ⟨xf1, E1, z1⟩ := start_env (N := N) E0 hl
  have pick : ∀ {σ' : L2.St} {e : Env} {W' : Wd} {H' : Hp} {fp' xf' : List Addr}, Post K W H fp pr (L2.start N vs) σ' W' H' e fp' xf' → ∃ fp2 xf2, EnvOk K W' H' (vs.map some) (outs pr n e) fp2 xf2 ∧ fp2.Sublist fp' ∧ ∀ a ∈ xf2, a ∈ xf' := by
    intro σ' e W' H' fp' xf' Pt
    refine Pt.E.pick _ _ ?_ fun i s hs => ?_
    · unfold outs
      rw [List.length_map, List.length_map, List.length_range, hl]
    · unfold outs at hs
      rw [List.getElem?_map] at hs
      cases q : (List.range n)[i]? with
      | none => rw [q] at hs; cases hs
      | some j =>
        obtain ⟨hi, ej⟩ := List.getElem?_eq_some_iff.mp q
        rw [List.getElem_range] at ej
        subst ej
        rw [List.length_range] at hi
        rw [q] at hs
        have hs : some (if i ∈ pr then (e[i]?).join else none) = some (some s) := hs
        by_cases hp : i ∈ pr
        · rw [if_pos hp] at hs
          have e2 : (e[i]?).join = some s := Option.some.inj hs
          have e3 : e[i]? = some (some s) := by
            cases q2 : e[i]? with
            | none => rw [q2] at e2; cases e2
            | some y => rw [q2] at e2; exact congrArg some e2
          refine ⟨e3, ?_⟩
          have h4 := Pt.pr i hp
          have h5 : (L2.start N vs)[i]? = (vs.map some)[i]? := by
            unfold L2.start
            rw [List.getElem?_append_left (by rw [List.length_map]; omega)]
          rw [h4, h5]
        · rw [if_neg hp] at hs
          cases hs
  have fin : ∀ r e, Q0 r (outs pr n e) → ∀ v σ' W' H' fp' xf', Post K W H fp pr (L2.start N vs) σ' W' H' e fp' xf' → RetOk K H fp fp' W' H' v r → Q v H' := fun r e q v σ' W' H' fp' xf' Pt o => by
    obtain ⟨fp2, xf2, E2, sl, z2⟩ := pick Pt
    refine kk r _ q v W' H' fp2 xf2 Pt.t E2 (Pt.S.sublist sl z2) (fun a m => Pt.nf a (sl.subset m)) ?_
    cases r with
    | fz d => exact o
    | nw t =>
      obtain ⟨f, ow, nd, z⟩ := o
      exact ⟨f, ow, nd, fun a m => ⟨(z a m).1, fun q => (z a m).2.1 (sl.subset q), (z a m).2.2⟩⟩
    | br t => exact o
    | ex t => exact o
  refine ⟨W, _, fp, xf1, _, E1, S0.less0 z1, wp ss Q0 hss hF, fun e q σ' W' H' fp' xf' Pt => fin _ e q .non σ' W' H' fp' xf' Pt Rep.non, fun _ q => q.elim, fun _ q => q.elim, fin⟩
end
end R
/-! ## the rules, what is changed -/
namespace R
open PySem PySem.Spec PyProof.Rows L2
section
variable {K : PySem.W.Frag} {W W1 W2 W' : Wd} {H H1 H2 H' : Hp} {f f1 fp fp1 fp2 xf xf1 xf2 : List Addr} {σ σ1 σ2 : L2.St} {Q : VK} {r : Rs} {v : V} {env env1 env2 : Env}
/-- one child of a node: its value, its cells, and the node when the child is another tree at the same value -/
theorem OwnAll.split : ∀ {vs : List V} {ts : List OT} {f : List Addr} {j : Nat} {c : OT}, OwnAll K W H vs ts f → ts[j]? = some c → ∃ u fc rest, vs[j]? = some u ∧ Own K W H u c fc ∧ f.Perm (fc ++ rest) ∧
    ∀ (W' : Wd) (H' : Hp) (u' : V) (c' : OT) (fc' : List Addr), W.Le W' → (∀ a ∈ rest, ∀ o, H a = some o → H' a = some o) → Own K W' H' u' c' fc' → ∃ f', OwnAll K W' H' (vs.set j u') (ts.set j c') f' ∧ f'.Perm (fc' ++ rest)
  | _, _, _, _, _, .nil, h => by simp at h
  | _, _, _, 0, _, .cons (f := f) (g := g) o r, h => by
    simp at h
    subst h
    refine ⟨_, f, g, rfl, o, .refl _, fun W' H' u' c' fc' l k o' => ⟨fc' ++ g, .cons o' (r.mono l k), .refl _⟩⟩
  | _, _, _, j + 1, _, .cons (f := f) (g := g) o r, h => by
    obtain ⟨u, fc, rest, e, o2, p, k⟩ := OwnAll.split (j := j) r (by simpa using h)
    have pc : ∀ (x : List Addr), (f ++ (x ++ rest)).Perm (x ++ (f ++ rest)) := fun x => by
      rw [← List.append_assoc, ← List.append_assoc]
      exact List.perm_append_comm.append_right _
    refine ⟨u, fc, f ++ rest, by simpa using e, o2, (p.append_left f).trans (pc fc), fun W' H' u' c' fc' l q o' => ?_⟩
    obtain ⟨f', a, b⟩ := k W' H' u' c' fc' l (fun a m => q a (List.mem_append_right _ m)) o'
    exact ⟨f ++ f', .cons (o.mono l fun a m => q a (List.mem_append_left _ m)) a, (b.append_left f).trans (pc fc')⟩
/-- the way to a place: its value there -/
inductive AtP (K : PySem.W.Frag) (W : Wd) (H : Hp) : V → OT → List Nat → V → OT → Prop where
  | nil {v : V} {t : OT} : AtP K W H v t [] v t
  | lst {p : Addr} {vs : List V} {ts : List OT} {j : Nat} {js : List Nat} {u v' : V} {c s : OT} : H p = some (.lst vs) → vs[j]? = some u → ts[j]? = some c → AtP K W H u c js v' s → AtP K W H (.ref p) (.lst ts) (j :: js) v' s
  | tup {p : Addr} {vs : List V} {ts : List OT} {j : Nat} {js : List Nat} {u v' : V} {c s : OT} : H p = some (.tup vs) → vs[j]? = some u → ts[j]? = some c → AtP K W H u c js v' s → AtP K W H (.ref p) (.tup ts) (j :: js) v' s
  | ins {p C dx : Addr} {fs : List (Str × V)} {ks : List Str} {ts : List OT} {j : Nat} {js : List Nat} {u v' : V} {c s : OT} : H p = some (.ins C dx fs) → (fs.map (·.2))[j]? = some u → ts[j]? = some c → AtP K W H u c js v' s → AtP K W H (.ref p) (.ins C ks ts) (j :: js) v' s
theorem AtP.at {v v' : V} {t s : OT} {js : List Nat} (h : AtP K W H v t js v' s) : t.at? js = some s := by
  induction h with
  | nil => rfl
  | lst _ _ e _ ih => show (_ : Option OT).bind _ = _; rw [OT.kid?, e]; exact ih
  | tup _ _ e _ ih => show (_ : Option OT).bind _ = _; rw [OT.kid?, e]; exact ih
  | ins _ _ e _ ih => show (_ : Option OT).bind _ = _; rw [OT.kid?, e]; exact ih
theorem AtP.snoc {v v' u : V} {t s c : OT} {js : List Nat} {j : Nat} (h : AtP K W H v t js v' s) (k : AtP K W H v' s [j] u c) : AtP K W H v t (js ++ [j]) u c := by
  induction h with
  | nil => exact k
  | lst a b e _ ih => exact .lst a b e (ih k)
  | tup a b e _ ih => exact .tup a b e (ih k)
  | ins a b e _ ih => exact .ins a b e (ih k)
theorem put_kid {t c s : OT} {j : Nat} {js : List Nat} (h : t.kid? j = some c) : t.put (j :: js) s = t.set? j (c.put js s) := by
  show (match t.kid? j with | some c => t.set? j (c.put js s) | none => t) = _
  rw [h]
/-- the tree with another one at a place -/
theorem place {v v' : V} {t s : OT} {js : List Nat} (h : AtP K W H v t js v' s) : ∀ {f : List Addr}, Own K W H v t f → ∃ fs rest, Own K W H v' s fs ∧ f.Perm (fs ++ rest) ∧
    ∀ (W' : Wd) (H' : Hp) (s' : OT) (fs' : List Addr), W.Le W' → (∀ a ∈ rest, ∀ o, H a = some o → H' a = some o) → Own K W' H' v' s' fs' → ∃ f', Own K W' H' v (t.put js s') f' ∧ f'.Perm (fs' ++ rest) := by
  induction h with
  | nil =>
    intro f o
    exact ⟨f, [], o, by rw [List.append_nil], fun W' H' s' fs' l k o' => ⟨fs', o', by rw [List.append_nil]⟩⟩
  | lst hp hu hc _ ih =>
    rename_i p vs ts j js u v' c s hsub
    intro f o
    cases o with
    | lst g w =>
      rename_i vs2 f2
      rw [hp] at g
      cases g
      obtain ⟨u2, fc, rest, e2, o2, p2, k2⟩ := w.split hc
      rw [hu] at e2
      cases e2
      obtain ⟨fs, rest2, o3, p3, k3⟩ := ih o2
      refine ⟨fs, p :: (rest2 ++ rest), o3, ?_, fun W' H' s' fs' l k o' => ?_⟩
      · refine (List.Perm.cons p (p2.trans (p3.append_right rest))).trans ?_
        rw [List.append_assoc]
        exact List.perm_middle.symm
      · obtain ⟨f', o4, p4⟩ := k3 W' H' s' fs' l (fun a m => k a (List.mem_cons_of_mem _ (List.mem_append_left _ m))) o'
        obtain ⟨f5, o5, p5⟩ := k2 W' H' u _ f' l (fun a m => k a (List.mem_cons_of_mem _ (List.mem_append_right _ m))) o4
        have e5 : vs.set j u = vs := List.set_getElem_self_some hu
        rw [e5] at o5
        rw [put_kid (t := .lst ts) hc]
        refine ⟨p :: f5, .lst (k p List.mem_cons_self _ hp) o5, ?_⟩
        refine (List.Perm.cons p (p5.trans (p4.append_right rest))).trans ?_
        rw [List.append_assoc]
        exact List.perm_middle.symm
  | tup hp hu hc _ ih =>
    rename_i p vs ts j js u v' c s hsub
    intro f o
    cases o with
    | tup g w =>
      rename_i vs2 f2
      rw [hp] at g
      cases g
      obtain ⟨u2, fc, rest, e2, o2, p2, k2⟩ := w.split hc
      rw [hu] at e2
      cases e2
      obtain ⟨fs, rest2, o3, p3, k3⟩ := ih o2
      refine ⟨fs, p :: (rest2 ++ rest), o3, ?_, fun W' H' s' fs' l k o' => ?_⟩
      · refine (List.Perm.cons p (p2.trans (p3.append_right rest))).trans ?_
        rw [List.append_assoc]
        exact List.perm_middle.symm
      · obtain ⟨f', o4, p4⟩ := k3 W' H' s' fs' l (fun a m => k a (List.mem_cons_of_mem _ (List.mem_append_left _ m))) o'
        obtain ⟨f5, o5, p5⟩ := k2 W' H' u _ f' l (fun a m => k a (List.mem_cons_of_mem _ (List.mem_append_right _ m))) o4
        have e5 : vs.set j u = vs := List.set_getElem_self_some hu
        rw [e5] at o5
        rw [put_kid (t := .tup ts) hc]
        refine ⟨p :: f5, .tup (k p List.mem_cons_self _ hp) o5, ?_⟩
        refine (List.Perm.cons p (p5.trans (p4.append_right rest))).trans ?_
        rw [List.append_assoc]
        exact List.perm_middle.symm
  | ins hp hu hc _ ih =>
    rename_i p C dx fs ks ts j js u v' c s hsub
    intro f o
    cases o with
    | ins g w =>
      rename_i dx2 fs2 f2
      rw [hp] at g
      cases g
      obtain ⟨u2, fc, rest, e2, o2, p2, k2⟩ := w.split hc
      rw [hu] at e2
      cases e2
      obtain ⟨fs3, rest2, o3, p3, k3⟩ := ih o2
      refine ⟨fs3, p :: (rest2 ++ rest), o3, ?_, fun W' H' s' fs' l k o' => ?_⟩
      · refine (List.Perm.cons p (p2.trans (p3.append_right rest))).trans ?_
        rw [List.append_assoc]
        exact List.perm_middle.symm
      · obtain ⟨f', o4, p4⟩ := k3 W' H' s' fs' l (fun a m => k a (List.mem_cons_of_mem _ (List.mem_append_left _ m))) o'
        obtain ⟨f5, o5, p5⟩ := k2 W' H' u _ f' l (fun a m => k a (List.mem_cons_of_mem _ (List.mem_append_right _ m))) o4
        have e5 : (fs.map (·.2)).set j u = fs.map (·.2) := List.set_getElem_self_some hu
        rw [e5] at o5
        rw [put_kid (t := .ins C _ ts) hc]
        refine ⟨p :: f5, .ins (k p List.mem_cons_self _ hp) o5, ?_⟩
        refine (List.Perm.cons p (p5.trans (p4.append_right rest))).trans ?_
        rw [List.append_assoc]
        exact List.perm_middle.symm
/-- one slot's object, and the slots when it is another tree at the same value -/
theorem EnvOk.slot {σ : L2.St} {env : Env} {fp xf : List Addr} (E : EnvOk K W H σ env fp xf) : ∀ {i : Nat} {t : OT} {v : V}, env[i]? = some (some (.nw t)) → σ[i]? = some (some v) → ∃ f rest, Own K W H v t f ∧ fp.Perm (f ++ rest) ∧
    ∀ (W' : Wd) (H' : Hp) (t' : OT) (f' : List Addr), W.Le W' → (∀ a, a ∈ rest ∨ a ∈ xf → ∀ o, H a = some o → H' a = some o) → Own K W' H' v t' f' → ∃ fp', EnvOk K W' H' σ (env.set i (some (.nw t'))) fp' xf ∧ fp'.Perm (f' ++ rest) := by
  induction E with
  | nil => intro i t v e; simp at e
  | no E ih =>
    intro i t v e1 e2
    cases i with
    | zero => simp at e1
    | succ i =>
      obtain ⟨f, rest, a, b, c⟩ := ih (i := i) (t := t) (v := v) (by simpa using e1) (by simpa using e2)
      refine ⟨f, rest, a, b, fun W' H' t' f' l k o => ?_⟩
      obtain ⟨fp', x, y⟩ := c W' H' t' f' l k o
      exact ⟨fp', .no x, y⟩
  | fz q E ih =>
    intro i t v e1 e2
    cases i with
    | zero => simp at e1
    | succ i =>
      obtain ⟨f, rest, a, b, c⟩ := ih (i := i) (t := t) (v := v) (by simpa using e1) (by simpa using e2)
      refine ⟨f, rest, a, b, fun W' H' t' f' l k o => ?_⟩
      obtain ⟨fp', x, y⟩ := c W' H' t' f' l k o
      exact ⟨fp', .fz (q.mono l) x, y⟩
  | nw q E ih =>
    rename_i v0 t0 f0 σ e fp xf
    intro i t v e1 e2
    have pc : ∀ (x rest : List Addr), (f0 ++ (x ++ rest)).Perm (x ++ (f0 ++ rest)) := fun x rest => by
      rw [← List.append_assoc, ← List.append_assoc]
      exact List.perm_append_comm.append_right _
    cases i with
    | zero =>
      simp at e1 e2
      subst e1 e2
      exact ⟨f0, fp, q, .refl _, fun W' H' t' f' l k o => ⟨f' ++ fp, .nw o (E.mono l fun a m => k a m), .refl _⟩⟩
    | succ i =>
      obtain ⟨f, rest, a, b, c⟩ := ih (i := i) (t := t) (v := v) (by simpa using e1) (by simpa using e2)
      refine ⟨f, f0 ++ rest, a, (b.append_left f0).trans (pc f rest), fun W' H' t' f' l k o => ?_⟩
      obtain ⟨fp', x, y⟩ := c W' H' t' f' l (fun a m => k a (m.imp (List.mem_append_right _) id)) o
      exact ⟨f0 ++ fp', .nw (q.mono l fun a m => k a (.inl (List.mem_append_left _ m))) x, (y.append_left f0).trans (pc f' rest)⟩
  | ex q E ih =>
    intro i t v e1 e2
    cases i with
    | zero => simp at e1
    | succ i =>
      obtain ⟨f, rest, a, b, c⟩ := ih (i := i) (t := t) (v := v) (by simpa using e1) (by simpa using e2)
      refine ⟨f, rest, a, b, fun W' H' t' f' l k o => ?_⟩
      obtain ⟨fp', x, y⟩ := c W' H' t' f' l (fun a m => k a (m.imp id (List.mem_append_right _))) o
      exact ⟨fp', .ex (q.mono l fun a m => k a (.inr (List.mem_append_left _ m))) x, y⟩
/-- a place's value -/
def PlOk (K : PySem.W.Frag) (W : Wd) (H : Hp) (σ : L2.St) (env : Env) (u : V) (i : Nat) (js : List Nat) : Prop := ∃ t v s, env[i]? = some (some (.nw t)) ∧ σ[i]? = some (some v) ∧ AtP K W H v t js u s
theorem tree_at {i : Nat} {js : List Nat} {t s : OT} (he : env[i]? = some (some (.nw t))) (h : t.at? js = some s) : tree env i js = some s := by
  unfold tree
  rw [he]
  exact h
theorem put_at {i : Nat} {js : List Nat} {t s : OT} (he : env[i]? = some (some (.nw t))) : put env i js s = env.set i (some (.nw (t.put js s))) := by
  unfold put
  rw [he]
/-- an object at a place: o the node's object, o' the new one -/
theorem place_ok {i : Nat} {js : List Nat} {u : V} {s : OT} {σ : L2.St} (E : EnvOk K W H σ env fp xf) (P : PlOk K W H σ env u i js) (ht : tree env i js = some s) :
    ∃ fs rest, Own K W H u s fs ∧ fp.Perm (fs ++ rest) ∧ ∀ (W' : Wd) (H' : Hp) (s' : OT) (fs' : List Addr), W.Le W' → (∀ a, a ∈ rest ∨ a ∈ xf → ∀ o, H a = some o → H' a = some o) → Own K W' H' u s' fs' → ∃ fp', EnvOk K W' H' σ (put env i js s') fp' xf ∧ fp'.Perm (fs' ++ rest) := by
  obtain ⟨t, v, s2, he, ev, ap⟩ := P
  rw [tree_at he ap.at] at ht
  cases ht
  obtain ⟨f, rest, ow, p, k⟩ := E.slot he ev
  obtain ⟨fs, rest2, os, p2, k2⟩ := place ap ow
  refine ⟨fs, rest2 ++ rest, os, by rw [← List.append_assoc]; exact p.trans (p2.append_right rest), fun W' H' s' fs' l kk o => ?_⟩
  obtain ⟨f', o2, p3⟩ := k2 W' H' s' fs' l (fun a m => kk a (.inl (List.mem_append_left _ m))) o
  obtain ⟨fp', e2, p4⟩ := k W' H' _ f' l (fun a m => kk a (m.imp (List.mem_append_right _) id)) o2
  rw [put_at he]
  exact ⟨fp', e2, by rw [← List.append_assoc]; exact p4.trans (p3.append_right rest)⟩
theorem AtP.mono {v u : V} {t s : OT} {js : List Nat} (h : AtP K W H v t js u s) : ∀ {f : List Addr}, Own K W H v t f → (∀ a ∈ f, ∀ o, H a = some o → H' a = some o) → AtP K W' H' v t js u s := by
  induction h with
  | nil => intro _ _ _; exact .nil
  | lst a b c _ ih =>
    intro f o k
    cases o with
    | lst g w =>
      rw [a] at g
      cases g
      obtain ⟨u2, fc, rest, e2, o2, p2, _⟩ := w.split c
      rw [b] at e2
      cases e2
      exact .lst (k _ List.mem_cons_self _ a) b c (ih o2 fun x m => k x (List.mem_cons_of_mem _ (p2.mem_iff.mpr (List.mem_append_left _ m))))
  | tup a b c _ ih =>
    intro f o k
    cases o with
    | tup g w =>
      rw [a] at g
      cases g
      obtain ⟨u2, fc, rest, e2, o2, p2, _⟩ := w.split c
      rw [b] at e2
      cases e2
      exact .tup (k _ List.mem_cons_self _ a) b c (ih o2 fun x m => k x (List.mem_cons_of_mem _ (p2.mem_iff.mpr (List.mem_append_left _ m))))
  | ins a b c _ ih =>
    intro f o k
    cases o with
    | ins g w =>
      rw [a] at g
      cases g
      obtain ⟨u2, fc, rest, e2, o2, p2, _⟩ := w.split c
      rw [b] at e2
      cases e2
      exact .ins (k _ List.mem_cons_self _ a) b c (ih o2 fun x m => k x (List.mem_cons_of_mem _ (p2.mem_iff.mpr (List.mem_append_left _ m))))
/-- a place behind a pure step -/
theorem PlOk.keep {σ : L2.St} {u : V} {i : Nat} {js : List Nat} (P : PlOk K W H σ env u i js) (E : EnvOk K W H σ env fp xf) (S : Sat K W H fp xf) (t : Stp W H [] W' H') : PlOk K W' H' σ env u i js := by
  obtain ⟨t0, v, s2, he, ev, ap⟩ := P
  obtain ⟨f, rest, ow, p, _⟩ := E.slot he ev
  exact ⟨t0, v, s2, he, ev, ap.mono ow fun a m o e => t.kp a o e (by simp) (S.off a (p.mem_iff.mpr (List.mem_append_left _ m))).2.1⟩
/-- a place's meaning -/
def LPl (K : PySem.W.Frag) (m : DP) : TE := fun σ H Q => ∃ (W : Wd) (env : Env) (fp xf : List Addr) (Q0 : Nat → List Nat → Prop), EnvOk K W H σ env fp xf ∧ Sat K W H fp xf ∧ m env Q0 ∧
  ∀ i p, Q0 i p → ∀ u W' H', Stp W H [] W' H' → Sat K W' H' fp xf → PlOk K W' H' σ env u i p → Q u H'
theorem LPl.next {m : DP} {σ : L2.St} {Q1 : Nat → List Nat → Prop} {q : V → Hp → Prop} (E : EnvOk K W H σ env fp xf) (S : Sat K W H fp xf) (h : m env Q1)
    (k : ∀ i p, Q1 i p → ∀ u W1 H1, Stp W H [] W1 H1 → Sat K W1 H1 fp xf → EnvOk K W1 H1 σ env fp xf → PlOk K W1 H1 σ env u i p → q u H1) : LPl K m σ H q :=
  ⟨W, env, fp, xf, Q1, E, S, h, fun i p hq u W1 H1 t1 S1 o => k i p hq u W1 H1 t1 S1 (E.keep S t1) o⟩
/-- a list's cell is rewritten -/
theorem wr_list {i : Nat} {js : List Nat} {u : V} {ts : List OT} {σ : L2.St} {pr : List Nat} (E : EnvOk K W H σ env fp xf) (S : Sat K W H fp xf) (P : PlOk K W H σ env u i js) (ht : tree env i js = some (.lst ts)) :
    ∃ (p : Addr) (vs : List V) (g : List Addr), u = .ref p ∧ H p = some (.lst vs) ∧ OwnAll K W H vs ts g ∧ (p :: g).Nodup ∧ (∀ a ∈ p :: g, a ∈ fp) ∧
      ∀ (vs' : List V) (ts' : List OT) (g' : List Addr), OwnAll K W H vs' ts' g' → g'.Nodup → (∀ a ∈ g', (a ∈ g ∨ a ∉ fp ∧ a ∉ xf) ∧ W.G a = none ∧ W.S a = none) →
        ∃ fp', EnvOk K W (upd H p (.lst vs')) σ (put env i js (.lst ts')) fp' xf ∧ Sat K W (upd H p (.lst vs')) fp' xf ∧ Stp W H fp W (upd H p (.lst vs')) ∧ ∀ a ∈ fp', a ∈ fp ∨ a ∈ g' := by
  obtain ⟨fs, rest, os, pm, k⟩ := place_ok E P ht
  cases os with
  | @lst p vs _ g hp w =>
    have nd := pm.nodup_iff.mp S.nd
    obtain ⟨n1, n2, n3⟩ := List.nodup_append.mp nd
    have mp : p ∈ fp := pm.mem_iff.mpr (List.mem_append_left _ List.mem_cons_self)
    obtain ⟨op1, op2, op3⟩ := S.off p mp
    refine ⟨p, vs, g, rfl, hp, w, n1, fun a m => pm.mem_iff.mpr (List.mem_append_left _ m), fun vs' ts' g' w' nd' z' => ?_⟩
    have pg' : p ∉ g' := fun m => by
      rcases (z' p m).1 with q | q
      · exact (List.nodup_cons.mp n1).1 q
      · exact q.1 mp
    have ne : ∀ a, a ≠ p → ∀ o, H a = some o → upd H p (.lst vs') a = some o := fun a n o e => (upd_ne n).trans e
    have ow' : Own K W (upd H p (.lst vs')) (.ref p) (.lst ts') (p :: g') := .lst upd_same (w'.mono (.refl _) fun a m o e => ne a (fun q => pg' (by rw [← q]; exact m)) o e)
    obtain ⟨fp', E', p'⟩ := k W (upd H p (.lst vs')) (.lst ts') (p :: g') (.refl _) (fun a m o e => ne a (fun q => by
      subst q
      rcases m with m | m
      · exact n3 a List.mem_cons_self a m rfl
      · exact (S.xof a m).1 mp) o e) ow'
    have al : ∀ a, H a ≠ none → upd H p (.lst vs') a ≠ none := fun a n => by
      by_cases q : a = p
      · rw [q, upd_same]; exact fun z => nomatch z
      · rw [upd_ne q]; exact n
    have dj : ∀ a ∈ g', a ∉ rest := fun a m m2 => by
      rcases (z' a m).1 with q | q
      · exact n3 a (List.mem_cons_of_mem _ q) a m2 rfl
      · exact q.1 (pm.mem_iff.mpr (List.mem_append_right _ m2))
    have S0 := S.wr (o := .lst vs') op1 op2
    refine ⟨fp', E', ⟨S0.sub, S0.vol, ?_, fun a m => ?_, fun a m => ⟨fun q => ?_, (S0.xof a m).2⟩⟩, ⟨fun _ _ _ => ⟨rfl, rfl⟩, fun a o e m s => ne a (fun q => m (by rw [q]; exact mp)) o e, al⟩, fun a m => ?_⟩
    · refine p'.nodup_iff.mpr (List.nodup_append.mpr ⟨List.nodup_cons.mpr ⟨pg', nd'⟩, n2, fun a m b m2 e => ?_⟩)
      subst e
      rcases List.mem_cons.mp m with q | q
      · subst q; exact n3 a List.mem_cons_self a m2 rfl
      · exact dj a q m2
    · rcases List.mem_append.mp (p'.mem_iff.mp m) with q | q
      · rcases List.mem_cons.mp q with q | q
        · subst q; exact ⟨op1, op2, al a op3⟩
        · exact ⟨(z' a q).2.1, (z' a q).2.2, al a (w'.alloc a q)⟩
      · exact S0.off a (pm.mem_iff.mpr (List.mem_append_right _ q))
    · rcases List.mem_append.mp (p'.mem_iff.mp q) with q | q
      · rcases List.mem_cons.mp q with q | q
        · subst q; exact (S.xof a m).1 mp
        · rcases (z' a q).1 with q | q
          · exact (S.xof a m).1 (pm.mem_iff.mpr (List.mem_append_left _ (List.mem_cons_of_mem _ q)))
          · exact q.2 m
      · exact (S.xof a m).1 (pm.mem_iff.mpr (List.mem_append_right _ q))
    · rcases List.mem_append.mp (p'.mem_iff.mp m) with q | q
      · rcases List.mem_cons.mp q with q | q
        · subst q; exact .inl mp
        · exact .inr q
      · exact .inl (pm.mem_iff.mpr (List.mem_append_right _ q))
end
section
variable {X : Cx} {tg a b c : Expr} {ma mb mc : DE} {pos : Pos} {ta tb : DT} {st : Stmt} {rest s1 s2 : List Stmt} {m m1 m2 : DS} {pr : List Nat} {pl : DP} {x : Str} {C : Addr}
theorem dpl_name {i : Nat} (hN : X.N[i]? = some x := by rfl) (hv : Vis X.env.scope x := by first | exact Or.inl rfl | exact Or.inr (Or.inl rfl) | exact Or.inr (Or.inr rfl)) (hd : (x == ("__debug__" : Str)) = false := by decide)
    (hcd : (x == ("__classdict__" : Str)) = false := by decide) : PE X (.Name x pos) (LPl X.K (plN i)) := pe_imp (pe_var (i := i) hN hv hd hcd) fun σ H Q h => by
  obtain ⟨W, env, fp, xf, Q0, E, S, ⟨⟨t, he⟩, hq⟩, k⟩ := h
  obtain ⟨v, ev, _⟩ := E.get he S
  exact ⟨v, ev, k i [] hq v W H .refl S ⟨t, v, t, he, ev, .nil⟩⟩
theorem idx_get {f : Str} {j : Nat} : ∀ {ks : List Str} {vs : List V} {fs : List (Str × V)}, idx f ks = some j → fs.map (·.1) = ks → ∃ u, fs.lookup f = some u ∧ (fs.map (·.2))[j]? = some u
  | [], _, _, h, _ => by cases h
  | k :: ks, vs, fs, h, e => by
    cases fs with
    | nil => cases e
    | cons p fs =>
      obtain ⟨k1, u⟩ := p
      obtain ⟨rfl, e2⟩ := List.cons.inj e
      have h : (if k1 = f then some 0 else (idx f ks).map (· + 1)) = some j := h
      rw [List.lookup_cons]
      by_cases q : k1 = f
      · rw [if_pos q] at h
        cases h
        rw [q, beq_self_eq_true]
        exact ⟨u, rfl, rfl⟩
      · rw [if_neg q] at h
        have q2 : (f == k1) = false := by simpa using fun z => q z.symm
        rw [q2]
        cases r : idx f ks with
        | none => rw [r] at h; cases h
        | some j2 =>
          rw [r] at h
          cases h
          obtain ⟨u2, a, b⟩ := idx_get (vs := vs) r e2
          exact ⟨u2, a, by simpa using b⟩
theorem dpl_fld (c : Cls X.K C) (n : NoAttr X.K C x) (he : PE X a (LPl X.K pl)) (hb : attributeBase a x X.env (eval a X.env) = eval a X.env := by rfl) : PE X (.Attribute a x pos) (LPl X.K (plF C x pl)) := pe_imp (pe_fld he hb) fun σ H Q h => by
  obtain ⟨W, env, fp, xf, Q0, E, S, hm, k⟩ := h
  refine LPl.next E S hm fun i p ⟨ks, ts, j, et, ej, hq⟩ u W1 H1 t1 S1 E1 P => ?_
  obtain ⟨t, v, s2, he, ev, ap⟩ := P
  have e2 := tree_at he ap.at
  rw [e2] at et
  cases et
  obtain ⟨f, rest, ow, pm, _⟩ := E1.slot he ev
  obtain ⟨fs, rest2, os, p2, _⟩ := place ap ow
  cases os with
  | @ins p0 _ dx fs0 _ g hp w =>
    obtain ⟨u2, el, eu⟩ := idx_get (vs := []) ej rfl
    have hj : j < ts.length := by
      rw [← w.len]
      exact (List.getElem?_eq_some_iff.mp eu).1
    refine ⟨p0, C, dx, fs0, u2, rfl, hp, c, n, el, k i _ hq u2 W1 H1 t1 S1 ⟨t, v, _, he, ev, ap.snoc (.ins hp eu (List.getElem?_eq_getElem hj) .nil)⟩⟩
theorem ix_at {vs : List V} {ts : List OT} {k : Int} {j : Nat} (hl : vs.length = ts.length) (h : ixN' ts.length k = some j) (hj : j < vs.length) : atI vs k = vs[j]? := by
  show (ixN' vs.length k).bind (fun j => vs[j]?) = _
  rw [hl, h] <;> rfl
theorem ixN_lt {n : Nat} {k : Int} {j : Nat} (h : ixN' n k = some j) : j < n := by
  unfold ixN' at h
  split at h
  · split at h
    · cases h; omega
    · cases h
  · split at h
    · cases h; omega
    · cases h
theorem dpl_ix (ha : PE X a (LPl X.K pl)) (hb : PE X b (LP X.K mb)) (hs : PlainIx b := by exact fun _ _ => rfl) : PE X (.Subscript a b pos) (LPl X.K (plI pl mb)) := pe_imp (pe_ix ix_list ha hb hs) fun σ H Q h => by
  obtain ⟨W, env, fp, xf, Q0, E, S, hm, k⟩ := h
  refine LPl.next E S hm fun i p hq u W1 H1 t1 S1 E1 P => ?_
  refine LP.next E1 S1 hq fun r hr v2 W2 H2 t2 S2 E2 o => ?_
  split at hr
  · rename_i n
    obtain ⟨ts, j, et, ej, q⟩ := hr
    have P2 := P.keep E1 S1 t2
    obtain ⟨t, v, s2, he, ev, ap⟩ := P2
    have e2 := tree_at he ap.at
    rw [e2] at et
    cases et
    obtain ⟨f, rest, ow, pm, _⟩ := E2.slot he ev
    obtain ⟨fs, rest2, os, p2, _⟩ := place ap ow
    cases os with
    | @lst p0 vs _ g hp w =>
      have hj := ixN_lt ej
      have hj2 : j < vs.length := by rw [w.len]; exact hj
      refine ⟨p0, vs, n, vs[j], rfl, int_of o, .of hp, ?_, k i _ q _ W2 H2 (t1.tr0 t2) S2 ⟨t, v, _, he, ev, ap.snoc (.lst hp (List.getElem?_eq_getElem hj2) (List.getElem?_eq_getElem hj) .nil)⟩⟩
      rw [ix_at w.len ej hj2]
      exact List.getElem?_eq_getElem hj2
  · exact hr.elim
/-- a list of one -/
def one1 (P : Rs → Prop) : List Rs → Prop
  | [r] => P r
  | _ => False
theorem one1_inv {P : Rs → Prop} : ∀ {rs : List Rs}, one1 P rs → ∃ r, rs = [r] ∧ P r
  | [r], h => ⟨r, rfl, h⟩
  | [], h => h.elim
  | _ :: _ :: _, h => h.elim
/-- a value that becomes an item -/
theorem item_own {K : PySem.W.Frag} {H : Hp} {fp : List Addr} {W' : Wd} {H' : Hp} {v : V} {r : Rs} {t : OT} (o : ResOk K H fp W' H' v r) (h : r.item = some t) : ∃ f, Own K W' H' v t f ∧ f.Nodup ∧ ∀ a ∈ f, H a = none ∧ W'.G a = none ∧ W'.S a = none := by
  cases r with
  | fz d => cases h; exact ⟨[], .leaf o, List.nodup_nil, fun _ m => by cases m⟩
  | nw x => cases h; exact o
  | br x => cases h
  | ex x => cases h
theorem ds_append (ha : PE X a (LPl X.K pl)) (hb : PE X b (LP X.K mb)) {apos : Pos} {p2 : Pos} (hst : starEach [b] X.env = (false, eval b X.env) :: starEach [] X.env := by rfl)
    (hE : ∀ (t : TE), PE X (.Call (.Attribute a "append" apos) [b] [] p2) t → PS X (.Expr (.Call (.Attribute a "append" apos) [b] [] p2) pos) (tDrop t) := by exact fun _ h => ps_expr h)
    (hB : ∀ (t1 : TE) (t2 : TA), PE X a t1 → PA X [b] t2 → PE X (.Call (.Attribute a "append" apos) [b] [] p2) (tBM X.K "list" rAppend t1 t2) := by exact fun _ _ h1 h2 => pe_bm PySem.F.plainAttrs_list PySem.F.slot_list_append PySem.F.type_list_append mt_append h1 h2) :
    PS X (.Expr (.Call (.Attribute a "append" apos) [b] [] p2) pos) (LS X.K pr (mAppend pl mb)) := ps_imp (hE _ (hB _ _ ha (da_cons hb da_nil hst))) fun D σ H h => by
  obtain ⟨W, env, fp, xf, K0, E, S, hm, nx, bk, ct, rt⟩ := h
  refine LPl.next E S hm fun i p ⟨ts, et, hl, hq⟩ u W1 H1 t1 S1 E1 P => ?_
  obtain ⟨p0, vs0, g0, rfl, hp0, _⟩ := wr_list (pr := pr) E1 S1 P et
  refine ⟨.inl ⟨rfl, _, .of hp0⟩, ?_⟩
  refine LA.next (m := mCons mb mNil) E1 S1 (Q1 := one1 fun r => ∃ t, r.item = some t ∧ K0.nx (put env i p (.lst (ts ++ [t])))) hq fun rs hr vs W2 H2 g t2 S2 E2 os G => ?_
  obtain ⟨r, rfl, t, ei, hn⟩ := one1_inv hr
  obtain ⟨v, rfl, o⟩ := os.one G
  have P2 := P.keep E1 S1 t2
  obtain ⟨p1, vs1, g1, e1, hp1, w1, nd1, sub1, kk⟩ := wr_list (pr := pr) E2 S2 P2 et
  cases e1
  obtain ⟨f, of, ndf, zf⟩ := item_own o ei
  have dj : ∀ a ∈ f, a ∉ fp ∧ a ∉ xf := fun a m => ⟨fun q => (S1.off a q).2.2 (zf a m).1, fun q => (S1.xof a q).2.2 (zf a m).1⟩
  obtain ⟨fp', E3, S3, st, y⟩ := kk (vs1 ++ [v]) (ts ++ [t]) (g1 ++ f) (w1.snoc of) (List.nodup_append.mpr ⟨(List.nodup_cons.mp nd1).2, ndf, fun a m b m2 e => by subst e; exact (dj a m2).1 (sub1 a (List.mem_cons_of_mem _ m))⟩) fun a m => by
    rcases List.mem_append.mp m with m | m
    · have mf := sub1 a (List.mem_cons_of_mem _ m)
      exact ⟨.inl m, (S2.off a mf).1, (S2.off a mf).2.1⟩
    · exact ⟨.inr (dj a m), (zf a m).2⟩
  refine ⟨p0, vs1, v, rfl, rfl, hp1, by rw [← sizeL_eq, w1.len]; exact hl, nx _ hn σ W2 _ fp' xf ⟨((t1.tr0 t2).up).trans st fun a m => .inl m, E3, S3, fun a m => ?_, fun _ _ => rfl⟩⟩
  rcases y a m with q | q
  · exact .inl q
  · rcases List.mem_append.mp q with q | q
    · exact .inl (sub1 a (List.mem_cons_of_mem _ q))
    · refine .inr ?_
      cases q2 : H a with
      | none => rfl
      | some o => exact absurd (zf a q).1 (t1.al a (some_ne q2))
/-- a[k] = e -/
theorem ds_setI (ha : PE X a (LPl X.K pl)) (hk : PE X b (LP X.K mb)) (he : PE X c (LP X.K mc)) {p1 : Pos} (hs : swapsWithSole [.Subscript a b p1] c pos.line X.env = pure false := by rfl) (hw : swappedStores [.Subscript a b p1] c X.env = pure none := by rfl)
    (h1 : (assignEach [.Subscript a b p1] X.env).map (·.2) = [assign (.Subscript a b p1) X.env] := by rfl) (hg : ∀ (t1 t2 : TE), PE X a t1 → PE X b t2 → PG X (.Subscript a b p1) (gSub t1 t2 rSetL) := by exact fun _ _ x y => pg_sub x y set_list) :
    PS X (.Assign [.Subscript a b p1] c pos) (LS X.K pr (mSetI pl mb mc)) := ps_imp (ps_asg he (hg _ _ ha hk) hs hw h1) fun D σ H h => by
  obtain ⟨W, env, fp, xf, K0, E, S, hm, nx, bk, ct, rt⟩ := h
  refine LP.next E S hm fun r hr v W1 H1 t1 S1 E1 o => ?_
  refine LPl.next E1 S1 hr fun i p hq u W2 H2 t2 S2 E2 P => ?_
  refine LP.next E2 S2 hq fun rk hk v2 W3 H3 t3 S3 E3 o2 => ?_
  split at hk
  · rename_i n
    obtain ⟨ts, j, t, ei, et, ej, hn⟩ := hk
    have P3 := P.keep E2 S2 t3
    have o3 := (o.keep t2 (t2.le S1 fun _ m => by cases m)).keep t3 (t3.le S2 fun _ m => by cases m)
    obtain ⟨p1, vs1, g1, rfl, hp1, w1, nd1, sub1, kk⟩ := wr_list (pr := pr) E3 S3 P3 et
    obtain ⟨f, of, ndf, zf⟩ := item_own o3 ei
    have hj := ixN_lt ej
    obtain ⟨uj, fc, rest, ej2, oj, pj, kj⟩ := w1.split (List.getElem?_eq_getElem hj)
    have dj : ∀ a ∈ f, a ∉ fp ∧ a ∉ xf := fun a m => ⟨fun q => (S.off a q).2.2 (zf a m).1, fun q => (S.xof a q).2.2 (zf a m).1⟩
    obtain ⟨f', w2, p2⟩ := kj W3 H3 v t f (.refl _) (fun _ _ _ e => e) of
    have ng := (List.nodup_cons.mp nd1).2
    have nr : rest.Nodup := (List.nodup_append.mp (pj.nodup_iff.mp ng)).2.1
    have sr : ∀ a ∈ rest, a ∈ g1 := fun a m => pj.mem_iff.mpr (List.mem_append_right _ m)
    obtain ⟨fp', E4, S4, st, y⟩ := kk (vs1.set j v) (ts.set j t) f' w2 (p2.nodup_iff.mpr (List.nodup_append.mpr ⟨ndf, nr, fun a m b m2 e => by subst e; exact (dj a m).1 (sub1 a (List.mem_cons_of_mem _ (sr a m2)))⟩)) fun a m => by
      rcases List.mem_append.mp (p2.mem_iff.mp m) with m | m
      · exact ⟨.inr (dj a m), (zf a m).2⟩
      · have mf := sub1 a (List.mem_cons_of_mem _ (sr a m))
        exact ⟨.inl (sr a m), (S3.off a mf).1, (S3.off a mf).2.1⟩
    refine ⟨p1, vs1, n, j, rfl, int_of o2, hp1, by rw [show ixN vs1.length n = ixN' vs1.length n from rfl, w1.len]; exact ej, nx _ hn σ W3 _ fp' xf ⟨(((t1.tr0 t2).tr0 t3).up).trans st fun a m => .inl m, E4, S4, fun a m => ?_, fun _ _ => rfl⟩⟩
    rcases y a m with q | q
    · exact .inl q
    · rcases List.mem_append.mp (p2.mem_iff.mp q) with q | q
      · exact .inr (zf a q).1
      · exact .inl (sub1 a (List.mem_cons_of_mem _ (sr a q)))
  · exact hk.elim
/-- s[k] = e, s a draw's source -/
theorem ds_setVol (ha : PE X a (LP X.K ma)) (hk : PE X b (LP X.K mb)) (he : PE X c (LP X.K mc)) {p1 : Pos} (hs : swapsWithSole [.Subscript a b p1] c pos.line X.env = pure false := by rfl) (hw : swappedStores [.Subscript a b p1] c X.env = pure none := by rfl)
    (h1 : (assignEach [.Subscript a b p1] X.env).map (·.2) = [assign (.Subscript a b p1) X.env] := by rfl) (hg : ∀ (t1 t2 : TE), PE X a t1 → PE X b t2 → PG X (.Subscript a b p1) (gSub t1 t2 rSetL) := by exact fun _ _ x y => pg_sub x y set_list) :
    PS X (.Assign [.Subscript a b p1] c pos) (LS X.K pr (mSetVol ma mb mc)) := ps_imp (ps_asg he (hg _ _ ha hk) hs hw h1) fun D σ H h => by
  obtain ⟨W, env, fp, xf, K0, E, S, hm, nx, bk, ct, rt⟩ := h
  refine LP.next E S hm fun r hr v W1 H1 t1 S1 E1 o => ?_
  split at hr
  · rename_i n0
    refine LP.next E1 S1 hr fun r2 hr2 v2 W2 H2 t2 S2 E2 o2 => ?_
    split at hr2
    · rename_i ps
      refine LP.next E2 S2 hr2 fun r3 hr3 v3 W3 H3 t3 S3 E3 o3 => ?_
      split at hr3
      · rename_i n
        obtain ⟨h0, h3, hn⟩ := hr3
        have o2' : Rep X.K W3 v2 (.vol 0 ps) := Rep.mono (t3.le S2 fun _ m => by cases m) o2
        cases o2' with
        | vol s =>
          rename_i p0
          obtain ⟨gn, ob, hp0, x, y, z, e⟩ := S3.vol _ _ _ s
          subst e
          have ev : v = .int n0 := int_of o
          have ej : ∃ j : Nat, ixN 3 n = some j ∧ ∃ x' y' z' : Int, ([V.int x, .int y, .int z] : List V).set j v = [.int x', .int y', .int z'] := by
            have hi : n = 0 ∨ n = 1 ∨ n = 2 := by omega
            rw [ev]
            rcases hi with rfl | rfl | rfl
            · exact ⟨0, rfl, n0, y, z, rfl⟩
            · exact ⟨1, rfl, x, n0, z, rfl⟩
            · exact ⟨2, rfl, x, y, n0, rfl⟩
          obtain ⟨j, ej1, x', y', z', ej2⟩ := ej
          have ne : ∀ a, W3.S a = none → a ≠ p0 := fun a q e => by rw [e, s] at q; cases q
          have up : ∀ a, W3.S a = none → ∀ o, H3 a = some o → upd H3 p0 (.lst ([V.int x, .int y, .int z].set j v)) a = some o := fun a q o e => (upd_ne (ne a q)).trans e
          have al : ∀ a, H3 a ≠ none → upd H3 p0 (.lst ([V.int x, .int y, .int z].set j v)) a ≠ none := fun a n => by
            by_cases q : a = p0
            · rw [q, upd_same]; exact fun z => nomatch z
            · rw [upd_ne q]; exact n
          refine ⟨p0, _, n, j, rfl, int_of o3, hp0, ej1, nx _ hn σ W3 _ fp xf ⟨?_, E3.mono (.refl _) fun a m o e => up a (m.elim (fun q => (S3.off a q).2.1) fun q => (S3.xof a q).2.1) o e, ⟨fun a o e => ?_, fun a k ps e => ?_, S3.nd, fun a m => ⟨(S3.off a m).1, (S3.off a m).2.1, al a (S3.off a m).2.2⟩, fun a m => ⟨(S3.xof a m).1, (S3.xof a m).2.1, al a (S3.xof a m).2.2⟩⟩, fun a m => .inl m, fun _ _ => rfl⟩⟩
          · refine (((t1.tr0 t2).tr0 t3).trans (f1 := []) ⟨fun _ _ _ => ⟨rfl, rfl⟩, fun a o e _ s => up a s o e, al⟩ fun _ m => by cases m).up
          · exact (upd_ne (fun q => by rw [q, gn] at e; cases e)).trans (S3.sub a o e)
          · obtain ⟨g1, ob, g2, g3⟩ := S3.vol a k ps e
            by_cases q : a = p0
            · subst q
              rw [s] at e
              cases e
              exact ⟨g1, _, upd_same, x', y', z', congrArg HO.lst ej2⟩
            · exact ⟨g1, ob, (upd_ne q).trans g2, g3⟩
      · exact hr3.elim
    · exact hr2.elim
  · exact hr.elim
/-- a new list of three ints becomes a draw's source -/
theorem dp_src (ha : PE X a (LP X.K ma)) : PE X a (LP X.K (mSrc ma)) := pe_imp ha fun σ H Q h => by
  obtain ⟨W, env, fp, xf, Q0, E, S, hm, k⟩ := h
  refine LP.next E S hm fun r hr v W1 H1 t1 S1 E1 o => ?_
  split at hr
  · obtain ⟨f, ow, nd, z⟩ := o
    cases ow with
    | @lst p vs _ g hp w =>
      obtain ⟨hn, g1, s1⟩ := z p List.mem_cons_self
      have ev : ∃ x y z : Int, vs = [.int x, .int y, .int z] := by
        cases w with
        | cons a1 w1 =>
          cases w1 with
          | cons a2 w2 =>
            cases w2 with
            | cons a3 w3 =>
              cases w3
              cases a1 with | leaf a1 => cases a1; cases a2 with | leaf a2 => cases a2; cases a3 with | leaf a3 => cases a3; exact ⟨_, _, _, rfl⟩
      obtain ⟨x, y, zz, rfl⟩ := ev
      have np : ∀ a, W1.S a = none ∨ True := fun _ => .inr trivial
      refine k _ hr _ ⟨W1.G, fun a => if a = p then some (0, []) else W1.S a⟩ H1 ⟨fun a h m => ?_, t1.kp, t1.al⟩ ⟨S1.sub, fun a kk ps e => ?_, S1.nd, fun a m => ?_, fun a m => ?_⟩ (.vol (if_pos rfl))
      · have q : a ≠ p := fun q => h (by rw [q]; exact hn)
        exact ⟨(t1.wx a h m).1, (if_neg q).trans (t1.wx a h m).2⟩
      · have l : W1.Le ⟨W1.G, fun a => if a = p then some (0, []) else W1.S a⟩ := ⟨fun _ _ e => e, fun a k e => by
          have q : a ≠ p := fun q => by rw [q, s1] at e; cases e
          exact (if_neg q).trans e⟩
        have e : (if a = p then some (0, []) else W1.S a) = some (kk, ps) := e
        by_cases q : a = p
        · rw [if_pos q] at e
          cases e
          rw [q]
          exact ⟨g1, _, hp, x, y, zz, rfl⟩
        · rw [if_neg q] at e
          obtain ⟨x1, ob, x2, x3⟩ := S1.vol a kk ps e
          refine ⟨x1, ob, x2, ?_⟩
          cases kk with
          | zero => exact x3
          | succ kk =>
            obtain ⟨kvs, q1, q2, q3⟩ := x3
            exact ⟨kvs, q1, q2, fun p hp => let ⟨d, w1, w2⟩ := q3 p hp; ⟨d, w1, w2.mono l⟩⟩
      · have q : a ≠ p := fun q => (S.off a m).2.2 (by rw [q]; exact hn)
        exact ⟨(S1.off a m).1, (if_neg q).trans (S1.off a m).2.1, (S1.off a m).2.2⟩
      · have q : a ≠ p := fun q => (S.xof a m).2.2 (by rw [q]; exact hn)
        exact ⟨(S1.xof a m).1, (if_neg q).trans (S1.xof a m).2.1, (S1.xof a m).2.2⟩
  · exact hr.elim
end
end R
/-! ## the rules, == and isinstance -/
namespace R
open PySem PySem.Spec PyProof.Rows L2
theorem pd_shape : ∀ {n : Nat} {d : D} {p : PyData}, d.pd n = some p → p.canLay0 = true ∧ p.depth ≤ n := by
  have key : ∀ {α : Type} (f : D → Option PyData) {n : Nat}, (∀ {d : D} {p : PyData}, f d = some p → p.canLay0 = true ∧ p.depth ≤ n) → ∀ {ds : List D} {ps : List PyData}, allOf f ds = some ps → PyData.canLayAll0 ps = true ∧ PyData.depthAll ps ≤ n := by
    intro α f n h ds
    induction ds with
    | nil => intro ps e; cases e; exact ⟨by rw [PyData.canLayAll0], by rw [PyData.depthAll]; omega⟩
    | cons d ds ih =>
      intro ps e
      rw [allOf] at e
      cases q : f d with
      | none => rw [q] at e; cases e
      | some p =>
        rw [q] at e
        cases q2 : allOf f ds with
        | none => rw [q2] at e; cases e
        | some qs =>
          rw [q2] at e
          cases e
          obtain ⟨a, b⟩ := h q
          obtain ⟨a2, b2⟩ := ih q2
          exact ⟨by rw [PyData.canLayAll0, a, a2] <;> rfl, by rw [PyData.depthAll]; omega⟩
  intro n
  induction n with
  | zero =>
    intro d p e
    cases d with
    | non => cases e; exact ⟨by rw [PyData.canLay0], by rw [PyData.depth]; omega⟩
    | bl b => cases e; exact ⟨by rw [PyData.canLay0], by rw [PyData.depth]; omega⟩
    | int b => cases e; exact ⟨by rw [PyData.canLay0], by rw [PyData.depth]; omega⟩
    | str x =>
      have e : (if PyData.strOk x = true then some (PyData.str x) else none) = some p := e
      by_cases h : PyData.strOk x = true
      · rw [if_pos h] at e; cases e; exact ⟨by rw [PyData.canLay0]; exact h, by rw [PyData.depth]; omega⟩
      · rw [if_neg h] at e; cases e
    | lst _ => cases e
    | tup _ => cases e
    | rol _ => cases e
    | ins _ _ _ => cases e
    | vol _ _ => cases e
    | any => cases e
  | succ n ih =>
    intro d p e
    cases d with
    | non => cases e; exact ⟨by rw [PyData.canLay0], by rw [PyData.depth]; omega⟩
    | bl b => cases e; exact ⟨by rw [PyData.canLay0], by rw [PyData.depth]; omega⟩
    | int b => cases e; exact ⟨by rw [PyData.canLay0], by rw [PyData.depth]; omega⟩
    | str x =>
      have e : (if PyData.strOk x = true then some (PyData.str x) else none) = some p := e
      by_cases h : PyData.strOk x = true
      · rw [if_pos h] at e; cases e; exact ⟨by rw [PyData.canLay0]; exact h, by rw [PyData.depth]; omega⟩
      · rw [if_neg h] at e; cases e
    | lst ds =>
      have e : (allOf (D.pd n) ds).map .list = some p := e
      cases q : allOf (D.pd n) ds with
      | none => rw [q] at e; cases e
      | some ps =>
        rw [q] at e
        cases e
        obtain ⟨a, b⟩ := key (α := Nat) _ ih q
        exact ⟨by rw [PyData.canLay0]; exact a, by rw [PyData.depth]; omega⟩
    | tup ds =>
      have e : (allOf (D.pd n) ds).map .tuple = some p := e
      cases q : allOf (D.pd n) ds with
      | none => rw [q] at e; cases e
      | some ps =>
        rw [q] at e
        cases e
        obtain ⟨a, b⟩ := key (α := Nat) _ ih q
        exact ⟨by rw [PyData.canLay0]; exact a, by rw [PyData.depth]; omega⟩
    | rol ds =>
      have e : (allOf (D.pd n) ds).map .list = some p := e
      cases q : allOf (D.pd n) ds with
      | none => rw [q] at e; cases e
      | some ps =>
        rw [q] at e
        cases e
        obtain ⟨a, b⟩ := key (α := Nat) _ ih q
        exact ⟨by rw [PyData.canLay0]; exact a, by rw [PyData.depth]; omega⟩
    | ins _ _ _ => cases e
    | vol _ _ => cases e
    | any => cases e
section
variable {K : PySem.W.Frag} {W : Wd} {H : Hp}
theorem rep_dp (sub : ∀ a o, W.G a = some o → H a = some o) : ∀ {n : Nat} {v : V} {d : D} {p : PyData}, Rep K W v d → d.pd n = some p → Dp K H v p := by
  have key : ∀ (f : D → Option PyData), (∀ {v : V} {d : D} {p : PyData}, Rep K W v d → f d = some p → Dp K H v p) → ∀ {ds : List D} {vs : List V} {ps : List PyData}, RepAll K W vs ds → allOf f ds = some ps → DpAll K H vs ps := by
    intro f h ds
    induction ds with
    | nil => intro vs ps r e; cases r; cases e; exact .nil
    | cons d ds ih =>
      intro vs ps r e
      rw [allOf] at e
      cases q : f d with
      | none => rw [q] at e; cases e
      | some p =>
        rw [q] at e
        cases q2 : allOf f ds with
        | none => rw [q2] at e; cases e
        | some qs =>
          rw [q2] at e
          cases e
          cases r with
          | cons a b => exact .cons (h a q) (ih b q2)
  have sc : ∀ {n : Nat} {v : V} {x : Str} {p : PyData}, Rep K W v (.str x) → (D.str x).pd n = some p → Dp K H v p := by
    intro n v x p r e
    have e : (if PyData.strOk x = true then some (PyData.str x) else none) = some p := by cases n <;> exact e
    by_cases h : PyData.strOk x = true
    · rw [if_pos h] at e; cases e; cases r; exact .str x
    · rw [if_neg h] at e; cases e
  intro n
  induction n with
  | zero =>
    intro v d p r e
    cases r with
    | non => cases e; exact .non
    | bl b => cases e; exact .bl b
    | int b => cases e; exact .int b
    | str x => exact sc (n := 0) (.str x) e
    | lst _ _ => cases e
    | tup _ _ => cases e
    | rol _ _ => cases e
    | ins _ _ => cases e
    | vol _ => cases e
    | any _ => cases e
  | succ n ih =>
    intro v d p r e
    cases r with
    | non => cases e; exact .non
    | bl b => cases e; exact .bl b
    | int b => cases e; exact .int b
    | str x => exact sc (n := n + 1) (.str x) e
    | @lst a xs ds g r =>
      have e : (allOf (D.pd n) ds).map .list = some p := e
      cases q : allOf (D.pd n) ds with
      | none => rw [q] at e; cases e
      | some ps => rw [q] at e; cases e; exact .lst (.of (sub _ _ g)) (key _ ih r q)
    | @tup a xs ds g r =>
      have e : (allOf (D.pd n) ds).map .tuple = some p := e
      cases q : allOf (D.pd n) ds with
      | none => rw [q] at e; cases e
      | some ps => rw [q] at e; cases e; exact .tup (.of (sub _ _ g)) (key _ ih r q)
    | @rol a xs ds g r =>
      have e : (allOf (D.pd n) ds).map .list = some p := e
      cases q : allOf (D.pd n) ds with
      | none => rw [q] at e; cases e
      | some ps => rw [q] at e; cases e; exact .lst (SqL.mono sub g) (key _ ih r q)
    | ins _ _ => cases e
    | vol _ => cases e
    | any _ => cases e
theorem own_dp (sub : ∀ a o, W.G a = some o → H a = some o) : ∀ {n : Nat} {v : V} {t : OT} {f : List Addr} {p : PyData}, Own K W H v t f → t.pd n = some p → Dp K H v p ∧ p.canLay0 = true ∧ p.depth ≤ n := by
  have key : ∀ (g : OT → Option PyData) (n : Nat), (∀ {v : V} {t : OT} {f : List Addr} {p : PyData}, Own K W H v t f → g t = some p → Dp K H v p ∧ p.canLay0 = true ∧ p.depth ≤ n) → ∀ {ts : List OT} {vs : List V} {f : List Addr} {ps : List PyData}, OwnAll K W H vs ts f → allOfT g ts = some ps →
      DpAll K H vs ps ∧ PyData.canLayAll0 ps = true ∧ PyData.depthAll ps ≤ n := by
    intro g n h ts
    induction ts with
    | nil => intro vs f ps r e; cases r; cases e; exact ⟨.nil, by rw [PyData.canLayAll0], by rw [PyData.depthAll]; omega⟩
    | cons d ds ih =>
      intro vs f ps r e
      rw [allOfT] at e
      cases q : g d with
      | none => rw [q] at e; cases e
      | some p =>
        rw [q] at e
        cases q2 : allOfT g ds with
        | none => rw [q2] at e; cases e
        | some qs =>
          rw [q2] at e
          cases e
          cases r with
          | cons a b =>
            obtain ⟨x1, x2, x3⟩ := h a q
            obtain ⟨y1, y2, y3⟩ := ih b q2
            exact ⟨.cons x1 y1, by rw [PyData.canLayAll0, x2, y2] <;> rfl, by rw [PyData.depthAll]; omega⟩
  have lf : ∀ {n : Nat} {v : V} {d : D} {p : PyData}, Rep K W v d → (OT.leaf d).pd n = some p → Dp K H v p ∧ p.canLay0 = true ∧ p.depth ≤ n := fun {n} {v} {d} {p} r e => by
    have e : d.pd n = some p := by cases n <;> exact e
    exact ⟨rep_dp sub r e, pd_shape e⟩
  intro n
  induction n with
  | zero =>
    intro v t f p o e
    cases o with
    | leaf r => exact lf (n := 0) r e
    | lst _ _ => cases e
    | tup _ _ => cases e
    | ins _ _ => cases e
    | d0 _ => cases e
  | succ n ih =>
    intro v t f p o e
    cases o with
    | leaf r => exact lf (n := n + 1) r e
    | @lst a xs ts f g r =>
      have e : (allOfT (OT.pd n) ts).map .list = some p := e
      cases q : allOfT (OT.pd n) ts with
      | none => rw [q] at e; cases e
      | some ps =>
        rw [q] at e
        cases e
        obtain ⟨x1, x2, x3⟩ := key _ n ih r q
        exact ⟨.lst (.of g) x1, by rw [PyData.canLay0]; exact x2, by rw [PyData.depth]; omega⟩
    | @tup a xs ts f g r =>
      have e : (allOfT (OT.pd n) ts).map .tuple = some p := e
      cases q : allOfT (OT.pd n) ts with
      | none => rw [q] at e; cases e
      | some ps =>
        rw [q] at e
        cases e
        obtain ⟨x1, x2, x3⟩ := key _ n ih r q
        exact ⟨.tup (.of g) x1, by rw [PyData.canLay0]; exact x2, by rw [PyData.depth]; omega⟩
    | ins _ _ => cases e
    | d0 _ => cases e
theorem shaped8 {p : PyData} (h : p.canLay0 = true ∧ p.depth ≤ 8) : SeqAt.shaped p = true := by
  unfold SeqAt.shaped
  rw [h.1, decide_eq_true (show p.depth ≤ 64 by omega)] <;> rfl
end
section
variable {X : Cx} {a b c : Expr} {ma mb mc : DE} {pos : Pos}
theorem I_eq {σ : L2.St} {H : Hp} {Q : VK} (h : LP X.K (mOp (oEq false) ma mb) σ H Q) : tOp (rEqD X.K) (LP X.K ma) (LP X.K mb) σ H Q := h.two fun W fp xf Q0 r1 r2 v1 v2 W2 H2 hr O o1 o2 => by
  obtain ⟨p, q, e1, e2, hq⟩ := hr
  obtain ⟨f1, w1⟩ := o1.own
  obtain ⟨f2, w2⟩ := o2.own
  obtain ⟨x1, y1⟩ := own_dp O.S2.sub w1 e1
  obtain ⟨x2, y2⟩ := own_dp O.S2.sub w2 e2
  refine ⟨p, q, x1, x2, shaped8 y1, shaped8 y2, O.fin hq ?_⟩
  rw [Bool.bne_false]
  exact .bl _
theorem I_ne {σ : L2.St} {H : Hp} {Q : VK} (h : LP X.K (mOp (oEq true) ma mb) σ H Q) : tOp (rNeD X.K) (LP X.K ma) (LP X.K mb) σ H Q := h.two fun W fp xf Q0 r1 r2 v1 v2 W2 H2 hr O o1 o2 => by
  obtain ⟨p, q, e1, e2, hq⟩ := hr
  obtain ⟨f1, w1⟩ := o1.own
  obtain ⟨f2, w2⟩ := o2.own
  obtain ⟨x1, y1⟩ := own_dp O.S2.sub w1 e1
  obtain ⟨x2, y2⟩ := own_dp O.S2.sub w2 e2
  refine ⟨p, q, x1, x2, shaped8 y1, shaped8 y2, O.fin hq ?_⟩
  rw [Bool.bne_true]
  exact .bl _
theorem dp_eq (hu : X.A.units + 64 < cLine) (ha : PE X a (LP X.K ma)) (hb : PE X b (LP X.K mb)) : PE X (.Compare a [.Eq] [b] pos) (LP X.K (mOp (oEq false) ma mb)) := pe_imp (pe_cmpR (op_eqD hu) ha hb (nomark _)) fun _ _ _ h => I_eq h
theorem dp_ne (hu : X.A.units + 64 < cLine) (ha : PE X a (LP X.K ma)) (hb : PE X b (LP X.K mb)) : PE X (.Compare a [.NotEq] [b] pos) (LP X.K (mOp (oEq true) ma mb)) := pe_imp (pe_cmpR (op_neD hu) ha hb (nomark _)) fun _ _ _ h => I_ne h
theorem dt_eq (hu : X.A.units + 64 < cLine) (ha : PE X a (LP X.K ma)) (hb : PE X b (LP X.K mb)) : PT X (.Compare a [.Eq] [b] pos) (LT X.K (mT (mOp (oEq false) ma mb))) := dt_of (op_eqD hu) (fun _ _ _ h => I_eq h) ha hb (nomark _)
theorem dt_ne (hu : X.A.units + 64 < cLine) (ha : PE X a (LP X.K ma)) (hb : PE X b (LP X.K mb)) : PT X (.Compare a [.NotEq] [b] pos) (LT X.K (mT (mOp (oEq true) ma mb))) := dt_of (op_neD hu) (fun _ _ _ h => I_ne h) ha hb (nomark _)
end
end R
/-! ## the rules, more of them -/
namespace R
open PySem PySem.Spec PyProof.Rows L2
/-- a < b < c of ints -/
def mCh (f g : Int → Int → Bool) (a b c : DE) : DE := fun env Q => a env fun x => b env fun y => ∃ i j, x.ffz = .fz (.int i) ∧ y.ffz = .fz (.int j) ∧
  if f i j = true then c env fun z => ∃ k, z.ffz = .fz (.int k) ∧ Q (.fz (.bl (g j k))) else Q (.fz (.bl false))
def bLt : Int → Int → Bool := fun i j => decide (i < j)
def bLe : Int → Int → Bool := fun i j => decide (i ≤ j)
def bGt : Int → Int → Bool := fun i j => decide (j < i)
def bGe : Int → Int → Bool := fun i j => decide (j ≤ i)
/-- isinstance(x, T), T a built-in type -/
def OT.ty : OT → Option String
  | .leaf .non => some "NoneType"
  | .leaf (.bl _) => some "bool"
  | .leaf (.int _) => some "int"
  | .leaf (.str _) => some "str"
  | .leaf (.lst _) => some "list"
  | .leaf (.tup _) => some "tuple"
  | .lst _ => some "list"
  | .tup _ => some "tuple"
  | _ => none
def isTy (a b : String) : Bool := a == b || (a == "bool" && b == "int")
def oIs (T : String) (r : Rs) (Q : Rs → Prop) : Prop := ∃ n, r.t.ty = some n ∧ Q (.fz (.bl (isTy n T)))
/-- isinstance(x, C), x an instance of C -/
def oIsC (C : Nat) (r : Rs) (Q : Rs → Prop) : Prop := ∃ ks ts, r.t.inst = some (C, ks, ts) ∧ Q (.fz (.bl true))
def irng (lo : Int) (n : Nat) : List OT := (List.range n).map fun (i : Nat) => OT.leaf (.int (lo + (i : Int)))
def mRngL (tup : Bool) (a b : DE) : DE := fun env Q => a env fun x => b env fun y => ∃ i j, x = .fz (.int i) ∧ y = .fz (.int j) ∧ -1000000 ≤ i ∧ i ≤ 1000000 ∧ -1000000 ≤ j ∧ j ≤ 1000000 ∧ Q (.nw (if tup = true then .tup (irng i (j - i).toNat) else .lst (irng i (j - i).toNat)))
def mD0 : DE := fun _ Q => Q (.nw .d0)
def mSetP (C : Nat) (f : Str) (a : DP) (e : DE) : DS := fun env D => e env fun r => a env fun i p => ∃ t ks ts, r.item = some t ∧ tree env i p = some (.ins C ks ts) ∧ ks.length < 1000 ∧ ks.length = ts.length ∧ D.nx (put env i p (.ins C (putK f t ks ts).1 (putK f t ks ts).2))
/-- x = a.pop(k), what is taken out is frozen -/
def mPopI (j : Nat) (a : DP) (k : DE) : DS := fun env D => a env fun i p => ∃ ts, tree env i p = some (.lst ts) ∧ k env fun r => ∃ n m d, r = .fz (.int n) ∧ -1000000 ≤ n ∧ n ≤ 1000000 ∧ ixN' ts.length n = some m ∧ ts[m]? = some (.leaf d) ∧ D.nx ((put env i p (.lst (ts.eraseIdx m))).set j (some (.fz d)))
def mRev (a : DP) : DS := fun env D => a env fun i p => ∃ ts, tree env i p = some (.lst ts) ∧ D.nx (put env i p (.lst ts.reverse))
section
variable {X : Cx} {tg a b c : Expr} {ma mb mc : DE} {pos : Pos} {ta tb : DT} {st : Stmt} {rest s1 s2 : List Stmt} {m m1 m2 : DS} {pr : List Nat} {pl : DP} {x : Str} {C : Addr} {es : List Expr}
theorem dp_globI {n : Int} (hm : ∃ t, X.mg x = some (.int n t)) (hg : Gl X x := by rfl) (hd : (x == ("__debug__" : Str)) = false := by decide) : PE X (.Name x pos) (LP X.K (mC (.int n))) := by
  obtain ⟨t, e⟩ := hm
  exact dp_glob hg e (v := .int n) ⟨t, rfl⟩ (fun _ => .int n) hd
theorem dp_globS {z : Str} (hm : ∃ t, X.mg x = some (.str z t)) (hg : Gl X x := by rfl) (hd : (x == ("__debug__" : Str)) = false := by decide) : PE X (.Name x pos) (LP X.K (mC (.str z))) := by
  obtain ⟨t, e⟩ := hm
  exact dp_glob hg e (v := .str z) ⟨t, rfl⟩ (fun _ => .str z) hd
/-- a comparison of ints -/
structure CmpI (X : Cx) (op : CmpOp) (f : Int → Int → Bool) : Prop where
  o : OpR X (compareOp op) (rI0 fun i j => .bl (f i j))
theorem I_lt : CmpI X .Lt bLt := ⟨op_lt⟩
theorem I_le : CmpI X .LtE bLe := ⟨op_le⟩
theorem I_gt : CmpI X .Gt bGt := ⟨op_gt⟩
theorem I_ge : CmpI X .GtE bGe := ⟨op_ge⟩
theorem ffz_int {r : Rs} {i : Int} {K : PySem.W.Frag} {H : Hp} {fp xf : List Addr} {W W' : Wd} {H' : Hp} {v : V} (h : r.ffz = .fz (.int i)) (S : Sat K W H fp xf) (t : Stp W H [] W' H') (S' : Sat K W' H' fp xf) (o : ResOk K H fp W' H' v r) : v = .int i := by
  obtain ⟨W2, _, _, _, o2⟩ := ffz_ok S t S' o
  rw [h] at o2
  exact int_of o2
theorem I_ch {f g : Int → Int → Bool} {σ : L2.St} {H : Hp} {Q : VK} (h : LP X.K (mCh f g ma mb mc) σ H Q) : tChain (rI0 fun i j => .bl (f i j)) (rI0 fun i j => .bl (g i j)) (LP X.K ma) (LP X.K mb) (LP X.K mc) σ H Q := by
  obtain ⟨W, env, fp, xf, Q0, E, S, hm, k⟩ := h
  refine LP.next E S hm fun r1 h1 v1 W1 H1 t1 S1 E1 o1 => ?_
  refine LP.next E1 S1 h1 fun r2 h2 v2 W2 H2 t2 S2 E2 o2 => ?_
  obtain ⟨i, j, ei, ej, h3⟩ := h2
  have e1 := ffz_int ei S t1 S1 o1
  have e2 := ffz_int ej S1 t2 S2 o2
  refine ⟨i, j, e1, e2, f i j, rfl, ?_⟩
  by_cases q : f i j = true
  · rw [if_pos q] at h3
    rw [if_pos q]
    refine LP.next E2 S2 h3 fun r3 h4 v3 W3 H3 t3 S3 E3 o3 => ?_
    obtain ⟨l, el, hq⟩ := h4
    exact ⟨j, l, e2, ffz_int el S2 t3 S3 o3, k _ hq _ W3 H3 ((t1.tr0 t2).tr0 t3) S3 (Rep.bl _)⟩
  · rw [if_neg q] at h3
    rw [if_neg q]
    exact k _ h3 _ W2 H2 (t1.tr0 t2) S2 (Rep.bl _)
theorem dp_chain {op op' : CmpOp} {f g : Int → Int → Bool} (h1 : CmpI X op f) (h2 : CmpI X op' g) (ha : PE X a (LP X.K ma)) (hb : PE X b (LP X.K mb)) (hc : PE X c (LP X.K mc)) (hm : lastMarks [op, op'] [b, c] = false := by with_unfolding_all rfl) :
    PE X (.Compare a [op, op'] [b, c] pos) (LP X.K (mCh f g ma mb mc)) := pe_imp (pe_chain h1.o h2.o ha hb hc hm) fun _ _ _ h => I_ch h
theorem dt_chain {op op' : CmpOp} {f g : Int → Int → Bool} (h1 : CmpI X op f) (h2 : CmpI X op' g) (ha : PE X a (LP X.K ma)) (hb : PE X b (LP X.K mb)) (hc : PE X c (LP X.K mc)) (hm : lastMarks [op, op'] [b, c] = false := by with_unfolding_all rfl) :
    PT X (.Compare a [op, op'] [b, c] pos) (LT X.K (mT (mCh f g ma mb mc))) := pt_imp (pt_chain h1.o h2.o ha hb hc hm) fun _ _ _ h => I_ch (lt_lp h)
/-! isinstance -/
theorem isTy_ok {n T : String} (hn : n ∈ ["NoneType", "bool", "int", "str", "list", "tuple"]) (hT : T ∈ ["bool", "int", "str", "list", "tuple", "dict"]) : kitB n T = some (isTy n T) := by
  have key : ∀ n ∈ ["NoneType", "bool", "int", "str", "list", "tuple"], ∀ T ∈ ["bool", "int", "str", "list", "tuple", "dict"], kitB n T = some (isTy n T) := by decide +kernel
  exact key n hn T hT
theorem ty_ok {K : PySem.W.Frag} {H : Hp} {fp xf : List Addr} {W' : Wd} {H' : Hp} {v : V} {r : Rs} {n : String} (h : r.t.ty = some n) (S' : Sat K W' H' fp xf) (o : ResOk K H fp W' H' v r) : TyX K H' v (.type n) ∧ n ∈ ["NoneType", "bool", "int", "str", "list", "tuple"] := by
  have lf : ∀ {d : D}, Rep K W' v d → (OT.leaf d).ty = some n → TyX K H' v (.type n) ∧ n ∈ ["NoneType", "bool", "int", "str", "list", "tuple"] := by
    intro d q h
    cases q with
    | non => cases h; exact ⟨.base .non, by decide⟩
    | bl _ => cases h; exact ⟨.base (.bl _), by decide⟩
    | int _ => cases h; exact ⟨.base (.int _), by decide⟩
    | str _ => cases h; exact ⟨.base (.str _), by decide⟩
    | lst g _ => cases h; exact ⟨.base (.lst (S'.sub _ _ g)), by decide⟩
    | tup g _ => cases h; exact ⟨.base (.tup (S'.sub _ _ g)), by decide⟩
    | rol _ _ => cases h
    | ins _ _ => cases h
    | vol _ => cases h
    | any _ => cases h
  have ow : ∀ {t : OT} {f : List Addr}, Own K W' H' v t f → t.ty = some n → TyX K H' v (.type n) ∧ n ∈ ["NoneType", "bool", "int", "str", "list", "tuple"] := by
    intro t f q h
    cases q with
    | leaf q => exact lf q h
    | lst g _ => cases h; exact ⟨.base (.lst g), by decide⟩
    | tup g _ => cases h; exact ⟨.base (.tup g), by decide⟩
    | ins _ _ => cases h
    | d0 _ => cases h
  cases r with
  | fz d => exact lf o h
  | nw t => obtain ⟨f, o, _⟩ := o; exact ow o h
  | br t => obtain ⟨f, o, _⟩ := o; exact ow o h
  | ex t => obtain ⟨f, o, _⟩ := o; exact ow o h
theorem dp_is {T : Str} {n : String} {p p2 : Pos} (hm : X.mg "isinstance" = none) (hm2 : X.mg T = none) (hT : n ∈ ["bool", "int", "str", "list", "tuple", "dict"]) (hv : bootBuiltins T = some (.type n)) (ha : PE X a (LP X.K ma)) (hg : Gl X "isinstance" := by rfl) (hg2 : Gl X T := by rfl)
    (hn : T ≠ "__name__" := by decide) (hdb : (T == ("__debug__" : Str)) = false := by decide) (hs : starEach [a, .Name T p2] X.env = (false, eval a X.env) :: starEach [.Name T p2] X.env := by rfl) (hs2 : starEach [.Name T p2] X.env = (false, eval (.Name T p2) X.env) :: starEach [] X.env := by rfl)
    (hpl : (backTo pos (starEach [.Name T p2] X.env)).any (·.1) = false := by rfl) :
    PE X (.Call (.Name "isinstance" p) [a, .Name T p2] [] pos) (LP X.K (mUn (oIs n) ma)) :=
  pe_imp (pe_callB call_isi hg hm (by decide +kernel) (pa_cons ha (pa_cons (pe_bltn (v := .ty n) hg2 hm2 hv rfl hn hdb) pa_nil hs2) hs) (he := hs) (hpl := hpl)) fun σ H Q h => h.one fun W fp xf Q0 r v W2 H2 ⟨k, ek, q⟩ O o => by
    obtain ⟨t, hk⟩ := ty_ok ek O.S2 o
    exact ⟨v, .ty n, .type k, .type n, isTy k n, rfl, .ty n, t, kit_ty (isTy_ok hk hT), O.fin q (.bl _)⟩
/-- what isinstance asks of a class -/
structure IsC (K : PySem.W.Frag) (C : Addr) : Prop where
  cl : Cls K C
  ha : PySem.W.findIn K (.ref C) "__class__" = some (some (.builtin "object.__class__"))
  hn : PySem.W.specialIn K (.builtin "object.__class__") "__get__" = some (some (.builtin "getset_descriptor.__get__"))
  htk : PySem.W.takesIn K (.builtin "object.__class__") = some true
  hm : PySem.W.mroIn K C (.type "object") = some true
  eq : PySem.W.kitOne K (.ref C) (.ref C) = some true
theorem dp_isC {T : Str} {p p2 : Pos} (hm : X.mg "isinstance" = none) (hm2 : X.mg T = some (.ref C)) (hi : IsC X.K C) (ha : PE X a (LP X.K ma)) (hg : Gl X "isinstance" := by rfl) (hg2 : Gl X T := by rfl)
    (hdb : (T == ("__debug__" : Str)) = false := by decide) (hs : starEach [a, .Name T p2] X.env = (false, eval a X.env) :: starEach [.Name T p2] X.env := by rfl) (hs2 : starEach [.Name T p2] X.env = (false, eval (.Name T p2) X.env) :: starEach [] X.env := by rfl)
    (hpl : (backTo pos (starEach [.Name T p2] X.env)).any (·.1) = false := by rfl) :
    PE X (.Call (.Name "isinstance" p) [a, .Name T p2] [] pos) (LP X.K (mUn (oIsC C) ma)) :=
  pe_imp (pe_callB call_isi hg hm (by decide +kernel) (pa_cons ha (pa_cons (pe_glob (v := .ref C) hg2 hm2 rfl hdb) pa_nil hs2) hs) (he := hs) (hpl := hpl)) fun σ H Q h => h.one fun W fp xf Q0 r v W2 H2 ⟨ks, ts, ek, q⟩ O o => by
    obtain ⟨a, dx, fs, f, rfl, g, _⟩ := inst_ok ek o O.S2
    exact ⟨.ref a, .ref C, .ref C, .ref C, true, rfl, .own C, .base (.ins g hi.cl hi.ha hi.hn hi.htk hi.hm), hi.eq, O.fin q (.bl _)⟩
/-! list(range(..)), tuple(range(..)) -/
theorem irng_rep {K : PySem.W.Frag} {W : Wd} {H : Hp} (i j : Int) : OwnAll K W H (rgV i j) (irng i (j - i).toNat) [] := by
  unfold rgV irng
  generalize List.range (j - i).toNat = l
  induction l with
  | nil => exact .nil
  | cons k l ih => exact .cons (f := []) (.leaf (.int _)) ih
theorem rngL_all {K : PySem.W.Frag} {tup : Bool} {σ : L2.St} {H : Hp} {Q : VK} (h : LP K (mRngL tup ma mb) σ H Q) : LP K ma σ H fun x H1 => LP K mb σ H1 fun y H2 => ∃ i j, x = .int i ∧ y = .int j ∧ RgOk i j ∧ ∀ q, H2 q = none → Q (.ref q) (upd H2 q (if tup = true then .tup (rgV i j) else .lst (rgV i j))) := by
  obtain ⟨W, env, fp, xf, Q0, E, S, hm, k⟩ := h
  refine LP.next E S hm fun r1 h1 v1 W1 H1 t1 S1 E1 o1 => ?_
  refine LP.next E1 S1 h1 fun r2 h2 v2 W2 H2 t2 S2 E2 o2 => ?_
  obtain ⟨i, j, rfl, rfl, b1, b2, b3, b4, q⟩ := h2
  refine ⟨i, j, int_of o1, int_of o2, ⟨by omega, by omega, by omega, by omega, by omega⟩, fun p n => ?_⟩
  have fr := S2.free n
  have hn : H p = none := by
    cases z : H p with
    | none => rfl
    | some u => exact absurd n ((t1.tr0 t2).al p (some_ne z))
  refine k _ q _ W2 _ ((t1.tr0 t2).tr0 (.new n)) (S2.new n) ?_
  cases tup with
  | true => exact ⟨[p], .tup upd_same (irng_rep i j), by simp, fun a m => by rw [List.mem_singleton.mp m]; exact ⟨hn, fr⟩⟩
  | false => exact ⟨[p], .lst upd_same (irng_rep i j), by simp, fun a m => by rw [List.mem_singleton.mp m]; exact ⟨hn, fr⟩⟩
theorem dp_rngList2 {p p2 pos2 : Pos} (hc : X.calm = true) (hm : X.mg "list" = none) (hm2 : X.mg "range" = none) (ha : PE X a (LP X.K ma)) (hb : PE X b (LP X.K mb)) (hg : Gl X "list" := by rfl) (hg2 : Gl X "range" := by rfl)
    (na : starEach [a, b] X.env = (false, eval a X.env) :: starEach [b] X.env := by rfl) (nb : starEach [b] X.env = (false, eval b X.env) :: starEach [] X.env := by rfl) (hp : (backTo pos2 (starEach [b] X.env)).any (·.1) = false := by rfl) (hl : starEach [.Call (.Name "range" p2) [a, b] [] pos2] X.env = (false, eval (.Call (.Name "range" p2) [a, b] [] pos2) X.env) :: starEach [] X.env := by rfl) :
    PE X (.Call (.Name "list" p) [.Call (.Name "range" p2) [a, b] [] pos2] [] pos) (LP X.K (mRngL false ma mb)) :=
  pe_imp (pe_listRg hc hg hm (prg_2 hg2 hm2 ha hb na nb hp) hl) fun σ H Q h => by
    have h2 := rngL_all h
    obtain ⟨W, env, fp, xf, Q0, E, S, hm, k⟩ := h2
    refine ⟨W, env, fp, xf, Q0, E, S, hm, fun r q v W1 H1 t1 S1 o => ?_⟩
    obtain ⟨W', env', fp', xf', Q0', E', S', hm', k'⟩ := k r q v W1 H1 t1 S1 o
    refine ⟨W', env', fp', xf', Q0', E', S', hm', fun r q v W1 H1 t1 S1 o => ?_⟩
    obtain ⟨i, j, e1, e2, ok, z⟩ := k' r q v W1 H1 t1 S1 o
    exact ⟨i, j, e1, e2, ok, z⟩
theorem dp_rngTuple2 {p p2 pos2 : Pos} (hc : X.calm = true) (hm : X.mg "tuple" = none) (hm2 : X.mg "range" = none) (ha : PE X a (LP X.K ma)) (hb : PE X b (LP X.K mb)) (hg : Gl X "tuple" := by rfl) (hg2 : Gl X "range" := by rfl)
    (na : starEach [a, b] X.env = (false, eval a X.env) :: starEach [b] X.env := by rfl) (nb : starEach [b] X.env = (false, eval b X.env) :: starEach [] X.env := by rfl) (hp : (backTo pos2 (starEach [b] X.env)).any (·.1) = false := by rfl) (hl : starEach [.Call (.Name "range" p2) [a, b] [] pos2] X.env = (false, eval (.Call (.Name "range" p2) [a, b] [] pos2) X.env) :: starEach [] X.env := by rfl) :
    PE X (.Call (.Name "tuple" p) [.Call (.Name "range" p2) [a, b] [] pos2] [] pos) (LP X.K (mRngL true ma mb)) :=
  pe_imp (pe_tupRg hc hg hm (prg_2 hg2 hm2 ha hb na nb hp) hl) fun σ H Q h => by
    have h2 := rngL_all h
    obtain ⟨W, env, fp, xf, Q0, E, S, hm, k⟩ := h2
    refine ⟨W, env, fp, xf, Q0, E, S, hm, fun r q v W1 H1 t1 S1 o => ?_⟩
    obtain ⟨W', env', fp', xf', Q0', E', S', hm', k'⟩ := k r q v W1 H1 t1 S1 o
    refine ⟨W', env', fp', xf', Q0', E', S', hm', fun r q v W1 H1 t1 S1 o => ?_⟩
    obtain ⟨i, j, e1, e2, ok, z⟩ := k' r q v W1 H1 t1 S1 o
    exact ⟨i, j, e1, e2, ok, z⟩
theorem dp_rngList1 {p p2 pos2 : Pos} (hc : X.calm = true) (hm : X.mg "list" = none) (hm2 : X.mg "range" = none) (ha : PE X a (LP X.K ma)) (hg : Gl X "list" := by rfl) (hg2 : Gl X "range" := by rfl)
    (na : starEach [a] X.env = (false, eval a X.env) :: starEach [] X.env := by rfl) (hl : starEach [.Call (.Name "range" p2) [a] [] pos2] X.env = (false, eval (.Call (.Name "range" p2) [a] [] pos2) X.env) :: starEach [] X.env := by rfl) :
    PE X (.Call (.Name "list" p) [.Call (.Name "range" p2) [a] [] pos2] [] pos) (LP X.K (mRngL false (mC (.int 0)) ma)) :=
  pe_imp (pe_listRg hc hg hm (prg_1 hg2 hm2 ha na) hl) fun σ H Q h => by
    obtain ⟨W, env, fp, xf, Q0, E, S, hm, k⟩ := rngL_all h
    have h3 := k _ hm (.int 0) W H .refl S (Rep.int 0)
    obtain ⟨W', env', fp', xf', Q0', E', S', hm', k'⟩ := h3
    refine ⟨W', env', fp', xf', Q0', E', S', hm', fun r q v W1 H1 t1 S1 o => ?_⟩
    obtain ⟨i, j, e1, e2, ok, z⟩ := k' r q v W1 H1 t1 S1 o
    cases e1
    exact ⟨j, e2, ok, z⟩
theorem dp_rngTuple1 {p p2 pos2 : Pos} (hc : X.calm = true) (hm : X.mg "tuple" = none) (hm2 : X.mg "range" = none) (ha : PE X a (LP X.K ma)) (hg : Gl X "tuple" := by rfl) (hg2 : Gl X "range" := by rfl)
    (na : starEach [a] X.env = (false, eval a X.env) :: starEach [] X.env := by rfl) (hl : starEach [.Call (.Name "range" p2) [a] [] pos2] X.env = (false, eval (.Call (.Name "range" p2) [a] [] pos2) X.env) :: starEach [] X.env := by rfl) :
    PE X (.Call (.Name "tuple" p) [.Call (.Name "range" p2) [a] [] pos2] [] pos) (LP X.K (mRngL true (mC (.int 0)) ma)) :=
  pe_imp (pe_tupRg hc hg hm (prg_1 hg2 hm2 ha na) hl) fun σ H Q h => by
    obtain ⟨W, env, fp, xf, Q0, E, S, hm, k⟩ := rngL_all h
    have h3 := k _ hm (.int 0) W H .refl S (Rep.int 0)
    obtain ⟨W', env', fp', xf', Q0', E', S', hm', k'⟩ := h3
    refine ⟨W', env', fp', xf', Q0', E', S', hm', fun r q v W1 H1 t1 S1 o => ?_⟩
    obtain ⟨i, j, e1, e2, ok, z⟩ := k' r q v W1 H1 t1 S1 o
    cases e1
    exact ⟨j, e2, ok, z⟩
/-- {} -/
theorem dp_d0 : PE X (.Dict [] [] pos) (LP X.K mD0) := pe_imp pe_dnewT fun σ H Q h => by
  obtain ⟨W, env, fp, xf, Q0, E, S, hm, k⟩ := h
  intro p n
  exact k _ hm _ W _ (.new n) (S.new n) ⟨[p], .d0 upd_same, by simp, fun a m => by rw [List.mem_singleton.mp m]; exact ⟨n, S.free n⟩⟩
end
end R
/-! ## the rules: what is given back by moving, stores into fields, pop, reverse -/
namespace R
open PySem PySem.Spec PyProof.Rows L2
def mRetV (i : Nat) : DS := fun env D => ∃ r, env[i]? = some (some r) ∧ r.own ∧ D.rt r (env.set i none)
def moveAll : Env → List Nat → Option (List OT × Env)
  | env, [] => some ([], env)
  | env, i :: is => match env[i]? with
    | some (some (.fz d)) => (moveAll env is).map fun p => (.leaf d :: p.1, p.2)
    | some (some (.nw t)) => (moveAll (env.set i none) is).map fun p => (t :: p.1, p.2)
    | _ => none
def mRetP (is : List Nat) : DS := fun env D => ∃ ts e, moveAll env is = some (ts, e) ∧ D.rt (.nw (.tup ts)) e
section
variable {K : PySem.W.Frag} {W W1 W2 W' : Wd} {H H1 H2 H' : Hp} {f f1 fp fp1 fp2 xf xf1 xf2 : List Addr} {σ σ1 σ2 : L2.St} {Q : VK} {r : Rs} {v : V} {env env1 env2 : Env}
/-- one slot is moved out -/
theorem EnvOk.take {i : Nat} {t : OT} (E : EnvOk K W H σ env fp xf) (S : Sat K W H fp xf) (e : env[i]? = some (some (.nw t))) : ∃ v f fp' xf', σ[i]? = some (some v) ∧ Own K W H v t f ∧ EnvOk K W H σ (env.set i none) fp' xf' ∧ Sat K W H fp' xf' ∧ fp.Perm (f ++ fp') ∧ ∀ a ∈ xf', a ∈ xf := by
  obtain ⟨v, ev, _⟩ := E.get e S
  obtain ⟨f, fp1, xf1, E1, p1, x1, ow⟩ := E.clear i (some v)
  have es : σ.set i (some v) = σ := List.set_getElem_self_some ev
  rw [es] at E1
  have sp : Sat K W H (f ++ fp1) xf1 := S.perm p1.symm x1
  exact ⟨v, f, fp1, xf1, ev, ow t v e ev, E1, sp.less, p1, x1⟩
def VarsAt (σ : L2.St) : List Nat → List V → Prop
  | [], vs => vs = []
  | i :: is, vs => ∃ v us, vs = v :: us ∧ σ[i]? = some (some v) ∧ VarsAt σ is us
theorem move_ok : ∀ {is : List Nat} {env : Env} {fp xf : List Addr} {ts : List OT} {e : Env}, EnvOk K W H σ env fp xf → Sat K W H fp xf → moveAll env is = some (ts, e) →
    ∃ vs g fp' xf', VarsAt σ is vs ∧ OwnAll K W H vs ts g ∧ EnvOk K W H σ e fp' xf' ∧ Sat K W H fp' xf' ∧ fp.Perm (g ++ fp') ∧ ∀ a ∈ xf', a ∈ xf
  | [], env, fp, xf, ts, e, E, S, h => by
    cases h
    exact ⟨[], [], fp, xf, rfl, .nil, E, S, .refl _, fun _ m => m⟩
  | i :: is, env, fp, xf, ts, e, E, S, h => by
    rw [moveAll] at h
    split at h
    · rename_i d q
      obtain ⟨v, ev, _, od⟩ := E.get q S
      cases z : moveAll env is with
      | none => rw [z] at h; cases h
      | some p =>
        obtain ⟨ts2, e2⟩ := p
        rw [z] at h
        cases h
        obtain ⟨vs, g, fp', xf', a, b, c, d2, p, x⟩ := move_ok E S z
        exact ⟨v :: vs, g, fp', xf', ⟨v, vs, rfl, ev, a⟩, .cons (f := []) (.leaf (od d rfl)) b, c, d2, p, x⟩
    · rename_i t q
      obtain ⟨v, f, fp1, xf1, ev, ow, E1, S1, p1, x1⟩ := E.take S q
      cases z : moveAll (env.set i none) is with
      | none => rw [z] at h; cases h
      | some p =>
        obtain ⟨ts2, e2⟩ := p
        rw [z] at h
        cases h
        obtain ⟨vs, g, fp', xf', a, b, c, d2, p, x⟩ := move_ok E1 S1 z
        refine ⟨v :: vs, f ++ g, fp', xf', ⟨v, vs, rfl, ev, a⟩, .cons ow b, c, d2, ?_, fun a m => x1 a (x a m)⟩
        rw [List.append_assoc]
        exact p1.trans (p.append_left f)
    · cases h
theorem Post.move {pr : List Nat} {g fp' xf' : List Addr} (E : EnvOk K W H σ env1 fp' xf') (S : Sat K W H fp' xf') (p : fp.Perm (g ++ fp')) : Post K W H fp pr σ σ W H env1 fp' xf' :=
  ⟨.refl, E, S, fun a m => .inl (p.mem_iff.mpr (List.mem_append_right _ m)), fun _ _ => rfl⟩
end
/-- names as arguments -/
def tVars (is : List Nat) : TA := fun σ H Q => ∃ vs, VarsAt σ is vs ∧ Q vs H
section
variable {X : Cx} {tg a b c : Expr} {ma mb mc : DE} {pos : Pos} {ta tb : DT} {st : Stmt} {rest s1 s2 : List Stmt} {m m1 m2 : DS} {pr : List Nat} {pl : DP} {x : Str} {C : Addr} {es : List Expr}
theorem pav_nil : PA X [] (tVars []) := pa_imp pa_nil fun σ H Q ⟨vs, e, q⟩ => by
  rw [show vs = [] from e] at q
  exact q
theorem pav_cons {i : Nat} {is : List Nat} (hr : PA X es (tVars is)) (hN : X.N[i]? = some x := by rfl) (hv : Vis X.env.scope x := by first | exact Or.inl rfl | exact Or.inr (Or.inl rfl) | exact Or.inr (Or.inr rfl)) (hd : (x == ("__debug__" : Str)) = false := by decide)
    (hcd : (x == ("__classdict__" : Str)) = false := by decide) (hs : starEach (.Name x pos :: es) X.env = (false, eval (.Name x pos) X.env) :: starEach es X.env := by rfl) : PA X (.Name x pos :: es) (tVars (i :: is)) :=
  pa_imp (pa_cons (pe_var (i := i) hN hv hd hcd) hr hs) fun σ H Q ⟨vs, ⟨v, us, e, ev, q⟩, k⟩ => by
    subst e
    exact ⟨v, ev, us, q, k⟩
theorem ds_retV {i : Nat} {p : Pos} (hN : X.N[i]? = some x := by rfl) (hv : Vis X.env.scope x := by first | exact Or.inl rfl | exact Or.inr (Or.inl rfl) | exact Or.inr (Or.inr rfl)) (hd : (x == ("__debug__" : Str)) = false := by decide)
    (hcd : (x == ("__classdict__" : Str)) = false := by decide) : PS X (.Return (some (.Name x p)) pos) (LS X.K pr (mRetV i)) := ps_imp (ps_ret (pe_var (i := i) hN hv hd hcd)) fun D σ H h => by
  obtain ⟨W, env, fp, xf, K0, E, S, ⟨r, he, ho, hm⟩, nx, bk, ct, rt⟩ := h
  cases r with
  | fz d =>
    obtain ⟨v, ev, _, od⟩ := E.get he S
    obtain ⟨f, fp1, xf1, E1, p1, x1, ow⟩ := E.clear i (some v)
    have es : σ.set i (some v) = σ := List.set_getElem_self_some ev
    rw [es] at E1
    have sp : Sat X.K W H (f ++ fp1) xf1 := S.perm p1.symm x1
    exact ⟨v, ev, rt _ _ hm v σ W H fp1 xf1 (.move E1 sp.less p1) (od d rfl)⟩
  | nw t =>
    obtain ⟨v, f, fp1, xf1, ev, ow, E1, S1, p1, x1⟩ := E.take S he
    obtain ⟨n1, n2, n3⟩ := List.nodup_append.mp (p1.nodup_iff.mp S.nd)
    exact ⟨v, ev, rt _ _ hm v σ W H fp1 xf1 (.move E1 S1 p1) ⟨f, ow, n1, fun a m => ⟨.inr (p1.mem_iff.mpr (List.mem_append_left _ m)), fun q => n3 a m a q rfl, (S.off a (p1.mem_iff.mpr (List.mem_append_left _ m))).1, (S.off a (p1.mem_iff.mpr (List.mem_append_left _ m))).2.1⟩⟩⟩
  | br t => exact ho.elim
  | ex t => exact ho.elim
theorem VarsAt.len {σ : L2.St} : ∀ {is : List Nat} {vs : List V}, VarsAt σ is vs → vs.length = is.length
  | [], _, h => by rw [show _ = [] from h] <;> rfl
  | i :: is, _, ⟨v, us, e, _, q⟩ => by rw [e, List.length_cons, List.length_cons, VarsAt.len q]
theorem ds_retP {is : List Nat} {x1 : Nat} {p : Pos} (h : PA X es (tVars is)) (hl : is.length < 100 := by decide) : PS X (.Return (some (.Tuple es x1 p)) pos) (LS X.K pr (mRetP is)) := ps_imp (ps_ret (pe_tup h)) fun D σ H h => by
  obtain ⟨W, env, fp, xf, K0, E, S, ⟨ts, e, he, hm⟩, nx, bk, ct, rt⟩ := h
  obtain ⟨vs, g, fp1, xf1, va, ow, E1, S1, p1, x1⟩ := move_ok E S he
  obtain ⟨n1, n2, n3⟩ := List.nodup_append.mp (p1.nodup_iff.mp S.nd)
  refine ⟨vs, va, ?_, fun p n => ?_⟩
  · rw [va.len, ← sizeL_eq]; unfold sizeL; omega
  · have fr := S1.free n
    have P : Post X.K W H fp pr σ σ W (upd H p (.tup vs)) e fp1 xf1 := by
      have P0 := Post.move (pr := pr) E1 S1 p1
      exact P0.trans (Post.pure (.new n) (E1.keep S1 (.new n)) (S1.new n))
    have off : ∀ a ∈ g, W.G a = none ∧ W.S a = none ∧ H a ≠ none := fun a m => S.off a (p1.mem_iff.mpr (List.mem_append_left _ m))
    refine rt _ _ hm _ σ W _ fp1 xf1 P ⟨p :: g, .tup upd_same (ow.mono (.refl _) fun a m o q => by rw [upd_ne (fun z => by rw [z] at m; exact (off p m).2.2 n)]; exact q), ?_, fun a m => ?_⟩
    · exact List.nodup_cons.mpr ⟨fun m => (off p m).2.2 n, n1⟩
    · rcases List.mem_cons.mp m with q | q
      · subst q
        exact ⟨.inl n, fun q => (S1.off a q).2.2 n, fr⟩
      · exact ⟨.inr (p1.mem_iff.mpr (List.mem_append_left _ q)), fun z => n3 a q a z rfl, (off a q).1, (off a q).2.1⟩
end
end R
/-! ## the rules: stores into fields, pop, reverse -/
namespace R
open PySem PySem.Spec PyProof.Rows L2
section
variable {K : PySem.W.Frag} {W W1 W2 W' : Wd} {H H1 H2 H' : Hp} {f f1 fp fp1 fp2 xf xf1 xf2 : List Addr} {σ σ1 σ2 : L2.St} {Q : VK} {r : Rs} {v : V} {env env1 env2 : Env}
/-- an instance's cell is rewritten -/
theorem wr_ins {i : Nat} {js : List Nat} {u : V} {C : Nat} {ks : List Str} {ts : List OT} {σ : L2.St} {pr : List Nat} (E : EnvOk K W H σ env fp xf) (S : Sat K W H fp xf) (P : PlOk K W H σ env u i js) (ht : tree env i js = some (.ins C ks ts)) :
    ∃ (p dx : Addr) (fs : List (Str × V)) (g : List Addr), u = .ref p ∧ H p = some (.ins C dx fs) ∧ fs.map (·.1) = ks ∧ OwnAll K W H (fs.map (·.2)) ts g ∧ (p :: g).Nodup ∧ (∀ a ∈ p :: g, a ∈ fp) ∧
      ∀ (fs' : List (Str × V)) (ts' : List OT) (g' : List Addr), OwnAll K W H (fs'.map (·.2)) ts' g' → g'.Nodup → (∀ a ∈ g', (a ∈ g ∨ a ∉ fp ∧ a ∉ xf) ∧ W.G a = none ∧ W.S a = none) →
        ∃ fp', EnvOk K W (upd H p (.ins C dx fs')) σ (put env i js (.ins C (fs'.map (·.1)) ts')) fp' xf ∧ Sat K W (upd H p (.ins C dx fs')) fp' xf ∧ Stp W H fp W (upd H p (.ins C dx fs')) ∧ ∀ a ∈ fp', a ∈ fp ∨ a ∈ g' := by
  obtain ⟨fs0, rest, os, pm, k⟩ := place_ok E P ht
  cases os with
  | @ins p _ dx fs _ g hp w =>
    have nd := pm.nodup_iff.mp S.nd
    obtain ⟨n1, n2, n3⟩ := List.nodup_append.mp nd
    have mp : p ∈ fp := pm.mem_iff.mpr (List.mem_append_left _ List.mem_cons_self)
    obtain ⟨op1, op2, op3⟩ := S.off p mp
    refine ⟨p, dx, fs, g, rfl, hp, rfl, w, n1, fun a m => pm.mem_iff.mpr (List.mem_append_left _ m), fun vs' ts' g' w' nd' z' => ?_⟩
    have pg' : p ∉ g' := fun m => by
      rcases (z' p m).1 with q | q
      · exact (List.nodup_cons.mp n1).1 q
      · exact q.1 mp
    have ne : ∀ a, a ≠ p → ∀ o, H a = some o → upd H p (.ins C dx vs') a = some o := fun a n o e => (upd_ne n).trans e
    have ow' : Own K W (upd H p (.ins C dx vs')) (.ref p) (.ins C (vs'.map (·.1)) ts') (p :: g') := .ins upd_same (w'.mono (.refl _) fun a m o e => ne a (fun q => pg' (by rw [← q]; exact m)) o e)
    obtain ⟨fp', E', p'⟩ := k W (upd H p (.ins C dx vs')) (.ins C (vs'.map (·.1)) ts') (p :: g') (.refl _) (fun a m o e => ne a (fun q => by
      subst q
      rcases m with m | m
      · exact n3 a List.mem_cons_self a m rfl
      · exact (S.xof a m).1 mp) o e) ow'
    have al : ∀ a, H a ≠ none → upd H p (.ins C dx vs') a ≠ none := fun a n => by
      by_cases q : a = p
      · rw [q, upd_same]; exact fun z => nomatch z
      · rw [upd_ne q]; exact n
    have dj : ∀ a ∈ g', a ∉ rest := fun a m m2 => by
      rcases (z' a m).1 with q | q
      · exact n3 a (List.mem_cons_of_mem _ q) a m2 rfl
      · exact q.1 (pm.mem_iff.mpr (List.mem_append_right _ m2))
    have S0 := S.wr (o := .ins C dx vs') op1 op2
    refine ⟨fp', E', ⟨S0.sub, S0.vol, ?_, fun a m => ?_, fun a m => ⟨fun q => ?_, (S0.xof a m).2⟩⟩, ⟨fun _ _ _ => ⟨rfl, rfl⟩, fun a o e m s => ne a (fun q => m (by rw [q]; exact mp)) o e, al⟩, fun a m => ?_⟩
    · refine p'.nodup_iff.mpr (List.nodup_append.mpr ⟨List.nodup_cons.mpr ⟨pg', nd'⟩, n2, fun a m b m2 e => ?_⟩)
      subst e
      rcases List.mem_cons.mp m with q | q
      · subst q; exact n3 a List.mem_cons_self a m2 rfl
      · exact dj a q m2
    · rcases List.mem_append.mp (p'.mem_iff.mp m) with q | q
      · rcases List.mem_cons.mp q with q | q
        · subst q; exact ⟨op1, op2, al a op3⟩
        · exact ⟨(z' a q).2.1, (z' a q).2.2, al a (w'.alloc a q)⟩
      · exact S0.off a (pm.mem_iff.mpr (List.mem_append_right _ q))
    · rcases List.mem_append.mp (p'.mem_iff.mp q) with q | q
      · rcases List.mem_cons.mp q with q | q
        · subst q; exact (S.xof a m).1 mp
        · rcases (z' a q).1 with q | q
          · exact (S.xof a m).1 (pm.mem_iff.mpr (List.mem_append_left _ (List.mem_cons_of_mem _ q)))
          · exact q.2 m
      · exact (S.xof a m).1 (pm.mem_iff.mpr (List.mem_append_right _ q))
    · rcases List.mem_append.mp (p'.mem_iff.mp m) with q | q
      · rcases List.mem_cons.mp q with q | q
        · subst q; exact .inl mp
        · exact .inr q
      · exact .inl (pm.mem_iff.mpr (List.mem_append_right _ q))
/-- one field is replaced, or added -/
theorem put_own {x : Str} {y : V} {t : OT} {f : List Addr} (o : Own K W H y t f) (nf : f.Nodup) : ∀ {fs : List (Str × V)} {ts : List OT} {g : List Addr}, OwnAll K W H (fs.map (·.2)) ts g → g.Nodup → (∀ a ∈ f, a ∉ g) →
    ∃ g', OwnAll K W H ((putF x y fs).map (·.2)) (R.putK x t (fs.map (·.1)) ts).2 g' ∧ (putF x y fs).map (·.1) = (R.putK x t (fs.map (·.1)) ts).1 ∧ g'.Nodup ∧ ∀ a ∈ g', a ∈ g ∨ a ∈ f
  | [], ts, g, w, ng, dj => by
    cases w
    refine ⟨f, ?_, rfl, nf, fun a m => .inr m⟩
    have h := OwnAll.cons o (.nil (K := K) (W := W) (H := H))
    rw [List.append_nil] at h
    exact h
  | (k, u) :: fs, ts, g, w, ng, dj => by
    cases w with
    | @cons _ _ t1 ts f1 g1 o1 w1 =>
      obtain ⟨n1, n2, n3⟩ := List.nodup_append.mp ng
      show ∃ g', OwnAll K W H ((if k = x then (k, y) :: fs else (k, u) :: putF x y fs).map (·.2)) (if k = x then (k :: fs.map (·.1), t :: ts) else (k :: (R.putK x t (fs.map (·.1)) ts).1, t1 :: (R.putK x t (fs.map (·.1)) ts).2)).2 g' ∧
        (if k = x then (k, y) :: fs else (k, u) :: putF x y fs).map (·.1) = (if k = x then (k :: fs.map (·.1), t :: ts) else (k :: (R.putK x t (fs.map (·.1)) ts).1, t1 :: (R.putK x t (fs.map (·.1)) ts).2)).1 ∧ g'.Nodup ∧ ∀ a ∈ g', a ∈ f1 ++ g1 ∨ a ∈ f
      by_cases q : k = x
      · rw [if_pos q, if_pos q]
        refine ⟨f ++ g1, .cons o w1, rfl, List.nodup_append.mpr ⟨nf, n2, fun a m b m2 e => ?_⟩, fun a m => ?_⟩
        · subst e; exact dj a m (List.mem_append_right _ m2)
        · exact (List.mem_append.mp m).elim .inr fun m => .inl (List.mem_append_right _ m)
      · rw [if_neg q, if_neg q]
        obtain ⟨g', a1, a2, a3, a4⟩ := put_own o nf w1 n2 fun a m m2 => dj a m (List.mem_append_right _ m2)
        refine ⟨f1 ++ g', .cons o1 a1, by rw [List.map_cons, a2], List.nodup_append.mpr ⟨n1, a3, fun a m b m2 e => ?_⟩, fun a m => ?_⟩
        · subst e
          rcases a4 a m2 with z | z
          · exact n3 a m a z rfl
          · exact dj a z (List.mem_append_left _ m)
        · rcases List.mem_append.mp m with m | m
          · exact .inl (List.mem_append_left _ m)
          · exact (a4 a m).imp (List.mem_append_right _) id
end
section
variable {X : Cx} {tg a b c : Expr} {ma mb mc : DE} {pos : Pos} {ta tb : DT} {st : Stmt} {rest s1 s2 : List Stmt} {m m1 m2 : DS} {pr : List Nat} {pl : DP} {x : Str} {C : Addr} {es : List Expr}
/-- o.f = e -/
theorem ds_setF (cl : Cls X.K C) (na : NoAttr X.K C x) (ha : PE X a (LPl X.K pl)) (he : PE X c (LP X.K mc)) {p1 : Pos} (hs : swapsWith c (some (.Attribute a x p1)) pos.line X.env = pure false := by rfl) :
    PS X (.Assign [.Attribute a x p1] c pos) (LS X.K pr (mSetP C x pl mc)) := ps_imp (ps_fld ha he hs) fun D σ H h => by
  obtain ⟨W, env, fp, xf, K0, E, S, hm, nx, bk, ct, rt⟩ := h
  refine LP.next E S hm fun r hr v W1 H1 t1 S1 E1 o => ?_
  refine LPl.next E1 S1 hr fun i p ⟨t, ks, ts, ei, et, hl, hk, hn⟩ u W2 H2 t2 S2 E2 P => ?_
  have o2 := o.keep t2 (t2.le S1 fun _ m => by cases m)
  obtain ⟨p1, dx, fs, g1, rfl, hp1, rfl, w1, nd1, sub1, kk⟩ := wr_ins (pr := pr) E2 S2 P et
  obtain ⟨f, of, ndf, zf⟩ := item_own o2 ei
  have dj : ∀ a ∈ f, a ∉ fp ∧ a ∉ xf := fun a m => ⟨fun q => (S.off a q).2.2 (zf a m).1, fun q => (S.xof a q).2.2 (zf a m).1⟩
  obtain ⟨g', w2, ek, nd2, sub2⟩ := put_own (x := x) of ndf w1 (List.nodup_cons.mp nd1).2 fun a m m2 => (dj a m).1 (sub1 a (List.mem_cons_of_mem _ m2))
  obtain ⟨fp', E3, S3, st, y⟩ := kk (putF x v fs) _ g' w2 nd2 fun a m => by
    rcases sub2 a m with m | m
    · have mf := sub1 a (List.mem_cons_of_mem _ m)
      exact ⟨.inl m, (S2.off a mf).1, (S2.off a mf).2.1⟩
    · exact ⟨.inr (dj a m), (zf a m).2⟩
  rw [ek] at E3
  refine ⟨p1, C, dx, fs, rfl, hp1, cl, na, by rw [← List.length_map (f := (·.1))]; exact hl, nx _ hn σ W2 _ fp' xf ⟨((t1.tr0 t2).up).trans st fun a m => .inl m, E3, S3, fun a m => ?_, fun _ _ => rfl⟩⟩
  rcases y a m with q | q
  · exact .inl q
  · rcases sub2 a q with q | q
    · exact .inl (sub1 a (List.mem_cons_of_mem _ q))
    · exact .inr (zf a q).1
theorem own_erase {K : PySem.W.Frag} {W : Wd} {H : Hp} : ∀ {vs : List V} {ts : List OT} {g : List Addr} (j : Nat), OwnAll K W H vs ts g → ∃ g', OwnAll K W H (vs.eraseIdx j) (ts.eraseIdx j) g' ∧ g'.Sublist g
  | _, _, _, _, .nil => ⟨[], .nil, .refl _⟩
  | _, _, _, 0, .cons _ w => ⟨_, w, List.sublist_append_right _ _⟩
  | _, _, _, j + 1, .cons o w => let ⟨g', a, b⟩ := own_erase j w; ⟨_, .cons o a, List.Sublist.append_left b _⟩
theorem own_rev {K : PySem.W.Frag} {W : Wd} {H : Hp} : ∀ {vs : List V} {ts : List OT} {g : List Addr}, OwnAll K W H vs ts g → ∃ g', OwnAll K W H vs.reverse ts.reverse g' ∧ g'.Perm g
  | _, _, _, .nil => ⟨[], .nil, .refl _⟩
  | _, _, _, .cons (f := f) (g := g) o w => by
    obtain ⟨g', a, b⟩ := own_rev w
    rw [List.reverse_cons, List.reverse_cons]
    exact ⟨g' ++ f, a.snoc o, List.perm_append_comm.trans (b.append_left f)⟩
theorem own_leaf {K : PySem.W.Frag} {W : Wd} {H : Hp} {d : D} : ∀ {vs : List V} {ts : List OT} {g : List Addr} {j : Nat}, OwnAll K W H vs ts g → ts[j]? = some (.leaf d) → ∃ v, vs[j]? = some v ∧ Rep K W v d
  | _, _, _, _, .nil, h => by simp at h
  | _, _, _, 0, .cons o _, h => by
    simp at h
    subst h
    cases o with | leaf q => exact ⟨_, rfl, q⟩
  | _, _, _, j + 1, .cons _ w, h => by
    obtain ⟨v, a, b⟩ := own_leaf (j := j) w (by simpa using h)
    exact ⟨v, by simpa using a, b⟩
theorem seqIx (n : Int) (l : Nat) : ixN' l n = seqIndex? n l := by
  unfold ixN' seqIndex?
  by_cases h : 0 ≤ n
  · rw [if_pos h]
    simp only [if_neg (show ¬ n < 0 by omega)]
    by_cases h2 : n < l
    · rw [if_pos h2]; simp [h, h2]
    · rw [if_neg h2]; simp [h2]
  · rw [if_neg h]
    simp only [if_pos (show n < 0 by omega)]
    by_cases h2 : -(l : Int) ≤ n
    · rw [if_pos h2]
      simp [show (0 : Int) ≤ n + l by omega, show n + (l : Int) < l by omega]
    · rw [if_neg h2]
      simp [show ¬ (0 : Int) ≤ n + l by omega]
/-- a.reverse() -/
theorem ds_rev (ha : PE X a (LPl X.K pl)) {apos p2 : Pos} (hbase : attributeBase a "reverse" X.env (eval a X.env) = eval a X.env := by rfl) (hline : (apos.endLine == p2.line) = true := by rfl)
    (hs : swapsWith (.Call (.Attribute a "reverse" apos) [] [] p2) none pos.line X.env = pure false := by rfl) : PS X (.Expr (.Call (.Attribute a "reverse" apos) [] [] p2) pos) (LS X.K pr (mRev pl)) :=
  ps_imp (ps_expr (pe_bm0 PySem.F.plainAttrs_list PySem.F.slot_list_reverse PySem.F.type_list_reverse mt_reverse ha hbase hline) hs) fun D σ H h => by
  obtain ⟨W, env, fp, xf, K0, E, S, hm, nx, bk, ct, rt⟩ := h
  refine LPl.next E S hm fun i p ⟨ts, et, hn⟩ u W1 H1 t1 S1 E1 P => ?_
  obtain ⟨p0, vs0, g0, rfl, hp0, w0, nd0, sub0, kk⟩ := wr_list (pr := pr) E1 S1 P et
  obtain ⟨g', w', pm⟩ := own_rev w0
  obtain ⟨fp', E3, S3, st, y⟩ := kk vs0.reverse ts.reverse g' w' (pm.nodup_iff.mpr (List.nodup_cons.mp nd0).2) fun a m => by
    have m2 := pm.mem_iff.mp m
    have mf := sub0 a (List.mem_cons_of_mem _ m2)
    exact ⟨.inl m2, (S1.off a mf).1, (S1.off a mf).2.1⟩
  refine ⟨.inl ⟨rfl, _, .of hp0⟩, p0, vs0, rfl, rfl, hp0, nx _ hn σ W1 _ fp' xf ⟨(t1.up).trans st fun a m => .inl m, E3, S3, fun a m => ?_, fun _ _ => rfl⟩⟩
  exact .inl ((y a m).elim id fun q => sub0 a (List.mem_cons_of_mem _ (pm.mem_iff.mp q)))
/-- x = a.pop(k), what is taken out is frozen -/
theorem ds_popI {i : Nat} {p : Pos} (hN : X.N.Nodup) (hi : X.N[i]? = some x) (ha : PE X a (LPl X.K pl)) (hk : PE X b (LP X.K mb)) {apos p2 : Pos} (hst : starEach [b] X.env = (false, eval b X.env) :: starEach [] X.env := by rfl)
    (hbase : attributeBase a "pop" X.env (eval a X.env) = eval a X.env := by rfl) (hfew : ((backTo p2 (starEach [b] X.env)).all (fun x => !x.1) && (backToKw p2 (keywordEach [] X.env)).all (fun x => x.1.isSome)
      && decide ([b].length + ([] : List Keyword).length + (if ([] : List Keyword).isEmpty then 0 else 1) < 30)) = true := by rfl) (hline : (apos.endLine == p2.line) = true := by rfl)
    (hx : Loc X.env.scope x := by first | exact Or.inl rfl | exact Or.inr rfl) (hp : i ∉ pr := by decide) (hs : swapsWith (.Call (.Attribute a "pop" apos) [b] [] p2) (some (.Name x p)) pos.line X.env = pure false := by rfl)
    (hf : X.fn x = true ∨ X.env.scope.names.lookup x = some .local := by first | exact .inl rfl | exact .inr rfl | assumption) :
    PS X (.Assign [.Name x p] (.Call (.Attribute a "pop" apos) [b] [] p2) pos) (LS X.K pr (mPopI i pl mb)) :=
  ps_imp (ps_set hN hi hx (pe_bm PySem.F.plainAttrs_list PySem.F.slot_list_pop PySem.F.type_list_pop mt_popAt ha (da_cons hk da_nil hst) hbase hfew hline hst) hs hf) fun D σ H h => by
  obtain ⟨W, env, fp, xf, K0, E, S, hm, nx, bk, ct, rt⟩ := h
  refine LPl.next E S hm fun j p ⟨ts, et, hq⟩ u W1 H1 t1 S1 E1 P => ?_
  obtain ⟨p0, vs0, g0, rfl, hp0, _⟩ := wr_list (pr := pr) E1 S1 P et
  refine ⟨.inl ⟨rfl, _, .of hp0⟩, ?_⟩
  refine LA.next (m := mCons mb mNil) E1 S1 (Q1 := one1 fun r => ∃ n m d, r = .fz (.int n) ∧ -1000000 ≤ n ∧ n ≤ 1000000 ∧ ixN' ts.length n = some m ∧ ts[m]? = some (.leaf d) ∧ K0.nx ((put env j p (.lst (ts.eraseIdx m))).set i (some (.fz d)))) hq fun rs hr vs W2 H2 g t2 S2 E2 os G => ?_
  obtain ⟨r, rfl, n, m, d, rfl, b1, b2, em, ed, hn⟩ := one1_inv hr
  obtain ⟨v, rfl, o⟩ := os.one G
  have P2 := P.keep E1 S1 t2
  obtain ⟨p1, vs1, g1, e1, hp1, w1, nd1, sub1, kk⟩ := wr_list (pr := pr) E2 S2 P2 et
  cases e1
  obtain ⟨y, ey, ry⟩ := own_leaf w1 ed
  obtain ⟨g', w', sl⟩ := own_erase m w1
  obtain ⟨fp', E3, S3, st, yy⟩ := kk (vs1.eraseIdx m) (ts.eraseIdx m) g' w' ((List.nodup_cons.mp nd1).2.sublist sl) fun a m => by
    have m2 := sl.subset m
    have mf := sub1 a (List.mem_cons_of_mem _ m2)
    exact ⟨.inl m2, (S2.off a mf).1, (S2.off a mf).2.1⟩
  have P3 : Post X.K W H fp pr σ σ W2 (upd H2 p0 (.lst (vs1.eraseIdx m))) (put env j p (.lst (ts.eraseIdx m))) fp' xf := ⟨((t1.tr0 t2).up).trans st fun a m => .inl m, E3, S3, fun a m => .inl ((yy a m).elim id fun q => sub1 a (List.mem_cons_of_mem _ (sl.subset q))), fun _ _ => rfl⟩
  obtain ⟨fp4, xf4, P4⟩ := Post.store (i := i) (pr := pr) (r := .fz d) (v := y) S3 .refl E3 S3 ry trivial hp
  refine ⟨p0, vs1, n, m, y, rfl, by rw [int_of o], hp1, by omega, by omega, ?_, ey, nx _ hn _ W2 _ fp4 xf4 (P3.trans P4)⟩
  rw [w1.len, ← seqIx]
  exact em
end
end R
/-! ## the rules: a dict of results that are computed once -/
namespace R
open PySem PySem.Spec PyProof.Rows L2
/-- the key of the slots js -/
def keysOf (env : Env) : List Nat → Option (List Key)
  | [] => some []
  | j :: js => match env[j]? with
    | some (some (.fz (.int i))) => (keysOf env js).map (Sum.inl i :: ·)
    | some (some (.fz (.str i))) => (keysOf env js).map (Sum.inr i :: ·)
    | _ => none
def fldD (f : Str) : List Str → List D → Option D
  | k :: ks, t :: ts => if k = f then some t else fldD f ks ts
  | _, _ => none
/-- if (js) not in i.f: b; i.f[js] = e ; return i.f[js] -/
def mMemo (i : Nat) (C : Nat) (f : Str) (js : List Nat) (b : DS) (e : DE) : DS := fun env D => ∃ ks ds k ps keys d, env[i]? = some (some (.fz (.ins C ks ds))) ∧ fldD f ks ds = some (.vol (k + 1) ps) ∧ keysOf env js = some keys ∧ memo k ps keys = some d ∧
  (b env { nx := fun e' => e e' fun r => ∃ t, r.item = some t ∧ Fz t d, rt := fun _ _ => False }) ∧ ∀ e2, D.rt (.fz d) e2
/-- where the dict is, and its key, by the slots alone -/
structure MAt (K : PySem.W.Frag) (W : Wd) (σ : L2.St) (i : Nat) (C : Nat) (f : Str) (js : List Nat) (a : Addr) (k : Nat) (ps : List D) (keys : List Key) : Prop where
  o : ∃ (a0 dx : Addr) (fs : List (Str × V)), σ[i]? = some (some (.ref a0)) ∧ W.G a0 = some (.ins C dx fs) ∧ fs.lookup f = some (.ref a)
  s : W.S a = some (k + 1, ps)
  k : VarsAt σ js (keys.map kV)
section
variable {K : PySem.W.Frag} {W W1 W2 W' : Wd} {H H1 H2 H' : Hp} {f f1 fp fp1 fp2 xf xf1 xf2 : List Addr} {σ σ1 σ2 : L2.St} {Q : VK} {r : Rs} {v : V} {env env1 env2 : Env} {i C k : Nat} {fl : Str} {js : List Nat} {a : Addr} {ps : List D} {keys : List Key}
theorem keys_at (E : EnvOk K W H σ env fp xf) (S : Sat K W H fp xf) : ∀ {js : List Nat} {keys : List Key}, keysOf env js = some keys → VarsAt σ js (keys.map kV)
  | [], keys, h => by cases h; rfl
  | j :: js, keys, h => by
    rw [keysOf] at h
    split at h
    · rename_i n q
      obtain ⟨v, ev, _, od⟩ := E.get q S
      cases z : keysOf env js with
      | none => rw [z] at h; cases h
      | some ks =>
        rw [z] at h
        cases h
        have e : v = .int n := by have := od _ rfl; cases this; rfl
        exact ⟨.int n, ks.map kV, rfl, by rw [ev, e], keys_at E S z⟩
    · rename_i n q
      obtain ⟨v, ev, _, od⟩ := E.get q S
      cases z : keysOf env js with
      | none => rw [z] at h; cases h
      | some ks =>
        rw [z] at h
        cases h
        have e : v = .str n := by have := od _ rfl; cases this; rfl
        exact ⟨.str n, ks.map kV, rfl, by rw [ev, e], keys_at E S z⟩
    · cases h
theorem mat_of (E : EnvOk K W H σ env fp xf) (S : Sat K W H fp xf) {ks : List Str} {ds : List D} (he : env[i]? = some (some (.fz (.ins C ks ds)))) (hf : fldD fl ks ds = some (.vol (k + 1) ps)) (hk : keysOf env js = some keys) : ∃ a, MAt K W σ i C fl js a k ps keys := by
  obtain ⟨v, ev, _, od⟩ := E.get he S
  have key : ∀ {fs : List (Str × V)} {ds : List D}, RepAll K W (fs.map (·.2)) ds → fldD fl (fs.map (·.1)) ds = some (.vol (k + 1) ps) → ∃ a, fs.lookup fl = some (.ref a) ∧ W.S a = some (k + 1, ps) := by
    intro fs
    induction fs with
    | nil => intro ds w h; cases w; cases h
    | cons p fs ih =>
      obtain ⟨x, u⟩ := p
      intro ds w h
      cases w with
      | cons o1 r1 =>
        rename_i d1 ds1
        have h : (if x = fl then some d1 else fldD fl (fs.map (·.1)) ds1) = some (.vol (k + 1) ps) := h
        rw [List.lookup_cons]
        by_cases q : x = fl
        · rw [if_pos q] at h
          cases h
          rw [q, beq_self_eq_true]
          have o1 : Rep K W u (.vol (k + 1) ps) := o1
          cases o1 with | vol s => exact ⟨_, rfl, s⟩
        · rw [if_neg q] at h
          have q2 : (fl == x) = false := by simpa using fun z => q z.symm
          rw [q2]
          exact ih r1 h
  have od := od _ rfl
  cases od with
  | @ins a0 _ dx fs _ g w =>
    obtain ⟨a, e1, e2⟩ := key w hf
    exact ⟨a, ⟨a0, dx, fs, ev, g, e1⟩, e2, keys_at E S hk⟩
theorem VarsAt.same {σ' : L2.St} : ∀ {js : List Nat} {vs : List V}, VarsAt σ js vs → (∀ j ∈ js, σ'[j]? = σ[j]?) → VarsAt σ' js vs
  | [], _, h, _ => h
  | j :: js, _, ⟨v, us, e, ev, q⟩, h => ⟨v, us, e, by rw [h j List.mem_cons_self]; exact ev, q.same fun x m => h x (List.mem_cons_of_mem _ m)⟩
theorem MAt.keep (M : MAt K W σ i C fl js a k ps keys) (l : W.Le W') (hi : σ1[i]? = σ[i]?) (hj : ∀ j ∈ js, σ1[j]? = σ[j]?) : MAt K W' σ1 i C fl js a k ps keys := by
  obtain ⟨a0, dx, fs, e1, e2, e3⟩ := M.o
  exact ⟨⟨a0, dx, fs, by rw [hi]; exact e1, l.g _ _ e2, e3⟩, l.s _ _ M.s, M.k.same hj⟩
theorem nodup_len {α : Type} [DecidableEq α] : ∀ {l L : List α}, l.Nodup → (∀ x ∈ l, x ∈ L) → l.length ≤ L.length
  | [], _, _, _ => Nat.zero_le _
  | x :: l, L, n, h => by
    obtain ⟨n1, n2⟩ := List.nodup_cons.mp n
    have := nodup_len (L := L.erase x) n2 fun y m => (List.mem_erase_of_ne fun e => n1 (by rw [← e]; exact m)).mpr (h y (List.mem_cons_of_mem _ m))
    have hx := h x List.mem_cons_self
    rw [List.length_erase_of_mem hx] at this
    have := List.length_pos_of_mem hx
    rw [List.length_cons]
    omega
/-- a memory's cell gets a result -/
theorem wr_memo {u : V} {d : D} {kvs : List (List Key × V)} (E : EnvOk K W H σ env fp xf) (S : Sat K W H fp xf) (s : W.S a = some (k + 1, ps)) (h : H a = some (.dT kvs)) (o : Rep K W u d) (hm : memo k ps keys = some d) :
    kvs.length < sizeLine ∧ EnvOk K W (upd H a (.dT (L2.putK kvs keys u))) σ env fp xf ∧ Sat K W (upd H a (.dT (L2.putK kvs keys u))) fp xf ∧ Stp W H [] W (upd H a (.dT (L2.putK kvs keys u))) := by
  obtain ⟨g0, o0, e0, kvs2, q1, q2, q3⟩ := S.vol a _ _ s
  rw [h] at e0
  cases e0
  cases q1
  have hlen : kvs.length < sizeLine := by
    obtain ⟨L, hl, hL⟩ := memo_fin k
    have sub : ∀ x ∈ kvs.map (·.1), x ∈ L := fun x m => by
      obtain ⟨p, hp, rfl⟩ := List.mem_map.mp m
      obtain ⟨d, h1, _⟩ := q3 p hp
      exact hL _ _ _ h1
    have := nodup_len q2 sub
    rw [List.length_map] at this
    rw [← sizeL_eq]
    unfold sizeL
    omega
  have ne : ∀ c, W.S c = none → c ≠ a := fun c q e => by rw [e, s] at q; cases q
  have up : ∀ c, W.S c = none → ∀ o, H c = some o → upd H a (.dT (L2.putK kvs keys u)) c = some o := fun c q o e => (upd_ne (ne c q)).trans e
  have al : ∀ c, H c ≠ none → upd H a (.dT (L2.putK kvs keys u)) c ≠ none := fun c n => by
    by_cases q : c = a
    · rw [q, upd_same]; exact fun z => nomatch z
    · rw [upd_ne q]; exact n
  refine ⟨hlen, E.mono (.refl _) fun c m o e => up c (m.elim (fun q => (S.off c q).2.1) fun q => (S.xof c q).2.1) o e, ⟨fun c o e => ?_, fun c k' ps' e => ?_, S.nd, fun c m => ⟨(S.off c m).1, (S.off c m).2.1, al c (S.off c m).2.2⟩, fun c m => ⟨(S.xof c m).1, (S.xof c m).2.1, al c (S.xof c m).2.2⟩⟩, ⟨fun _ _ _ => ⟨rfl, rfl⟩, fun c o e _ z => up c z o e, al⟩⟩
  · exact (upd_ne (fun q => by rw [q, g0] at e; cases e)).trans (S.sub c o e)
  · obtain ⟨g1, ob, g2, g3⟩ := S.vol c k' ps' e
    by_cases q : c = a
    · subst q
      rw [s] at e
      cases e
      refine ⟨g1, _, upd_same, _, rfl, ?_, fun p hp => ?_⟩
      · cases z : valV kvs keys with
        | none => exact nd_putK u q2 z
        | some w =>
          have e : (L2.putK kvs keys u).map (·.1) = kvs.map (·.1) := by
            unfold L2.putK
            rw [if_pos (by rw [valV_any, z] <;> rfl), List.map_map]
            refine List.map_congr_left fun p _ => ?_
            show (if p.1 = keys then (p.1, u) else p).1 = p.1
            split <;> rfl
          rw [e]
          exact q2
      · unfold L2.putK at hp
        split at hp
        · obtain ⟨p0, h0, rfl⟩ := List.mem_map.mp hp
          by_cases z : p0.1 = keys
          · rw [if_pos z]
            exact ⟨d, by rw [← hm, z], o⟩
          · rw [if_neg z]
            exact q3 p0 h0
        · rcases List.mem_append.mp hp with hp | hp
          · exact q3 p hp
          · rw [List.mem_singleton.mp hp]
            exact ⟨d, hm, o⟩
    · exact ⟨g1, ob, (upd_ne q).trans g2, g3⟩
end
/-- behind the store: the result is there -/
def Has (K : PySem.W.Frag) (W : Wd) (H : Hp) (a : Addr) (keys : List Key) (d : D) : Prop := ∃ kvs u, H a = some (.dT kvs) ∧ valV kvs keys = some u ∧ Rep K W u d
/-- a block that ends with the store -/
def LX (K : PySem.W.Frag) (pr : List Nat) (i C : Nat) (f : Str) (js : List Nat) (b : DS) (e : DE) : TS := fun Z σ H => ∃ (W : Wd) (env : Env) (fp xf : List Addr) (d : D) (a : Addr) (k : Nat) (ps : List D) (keys : List Key), EnvOk K W H σ env fp xf ∧ Sat K W H fp xf ∧
  MAt K W σ i C f js a k ps keys ∧ memo k ps keys = some d ∧ b env { nx := fun e' => e e' fun r => ∃ t, r.item = some t ∧ Fz t d, rt := fun _ _ => False } ∧
  ∀ e' σ' W' H' fp' xf', Post K W H fp pr σ σ' W' H' e' fp' xf' → Has K W' H' a keys d → Z.nx σ' H'
theorem Post.weak {K : PySem.W.Frag} {W W' : Wd} {H H' : Hp} {fp fp' xf' : List Addr} {σ σ' : L2.St} {e : Env} {pr pr' : List Nat} (P : Post K W H fp pr σ σ' W' H' e fp' xf') (h : ∀ i ∈ pr', i ∈ pr) : Post K W H fp pr' σ σ' W' H' e fp' xf' := ⟨P.t, P.E, P.S, P.nf, fun i m => P.pr i (h i m)⟩
section
variable {X : Cx} {tg a b c o o1 o3 : Expr} {ma mb mc : DE} {pos p1 : Pos} {ta tb : DT} {st : Stmt} {rest s1 s2 : List Stmt} {m m1 m2 : DS} {pr pr0 : List Nat} {pl : DP} {x f : Str} {C : Addr} {es es1 es3 : List Expr} {i : Nat} {js : List Nat}
theorem pe_sf {n : Str} {np : Pos} (hN : X.N[i]? = some n := by rfl) (hv : Vis X.env.scope n := by first | exact Or.inl rfl | exact Or.inr (Or.inl rfl) | exact Or.inr (Or.inr rfl)) (hd : (n == ("__debug__" : Str)) = false := by decide) (hcd : (n == ("__classdict__" : Str)) = false := by decide)
    (hb : attributeBase (.Name n np) f X.env (eval (.Name n np) X.env) = eval (.Name n np) X.env := by rfl) : PE X (.Attribute (.Name n np) f pos) (tFld X.K (tVar i) f) := pe_fld (pe_var (i := i) hN hv hd hcd) hb
/-- the dict and the key are read -/
theorem mat_fld {σ : L2.St} {W : Wd} {H : Hp} {fp xf : List Addr} {ad : Addr} {k : Nat} {ps : List D} {keys : List Key} {Q : VK} (cl : Cls X.K C) (na : NoAttr X.K C f) (M : MAt X.K W σ i C f js ad k ps keys) (S : Sat X.K W H fp xf) (q : Q (.ref ad) H) : tFld X.K (tVar i) f σ H Q := by
  obtain ⟨a0, dx, fs, e1, e2, e3⟩ := M.o
  exact ⟨_, e1, a0, C, dx, fs, .ref ad, rfl, S.sub _ _ e2, cl, na, e3, q⟩
theorem mat_key {σ : L2.St} {W : Wd} {H : Hp} {ad : Addr} {k : Nat} {ps : List D} {keys : List Key} {Q : VK} (M : MAt X.K W σ i C f js ad k ps keys) (hl : js.length < 100) (q : ∀ p, H p = none → Q (.ref p) (upd H p (.tup (keys.map kV)))) : tTup (tVars js) σ H Q := by
  refine ⟨keys.map kV, M.k, ?_, q⟩
  rw [M.k.len, ← sizeL_eq]; unfold sizeL; omega
theorem dsx_one {x1 : Nat} {tp : Pos} {cl : Cls X.K C} {na : NoAttr X.K C f} (hu : X.A.units + 1 < cLine) (ho : PE X o (tFld X.K (tVar i) f)) (hk : PA X es (tVars js)) (he : PE X c (LP X.K mc)) (hl : js.length < 100 := by decide)
    (hs : swapsWith c (some (.Subscript o (.Tuple es x1 tp) p1)) pos.line X.env = pure false := by rfl) : PSs X [.Assign [.Subscript o (.Tuple es x1 tp) p1] c pos] (LX X.K pr i C f js mNext mc) :=
  pss_one (ps_imp (ps_dput hu ho (pe_tup hk) he hs) fun D σ H h => by
  obtain ⟨W, env, fp, xf, d, ad, k, ps, keys, E, S, M, hm, hb, nx⟩ := h
  refine LP.next E S hb fun r ⟨t, ei, ez⟩ v W1 H1 t1 S1 E1 o1 => ?_
  obtain ⟨g, og, ndg, zg⟩ := item_own o1 ei
  have za : ∀ a ∈ g, a ∉ fp ∧ a ∉ xf := fun a m => ⟨fun m2 => (S.off a m2).2.2 (zg a m).1, fun m2 => (S.xof a m2).2.2 (zg a m).1⟩
  obtain ⟨W2, F, Rv, _⟩ := freeze og ez ndg fun a m => (zg a m).2
  have S2 := F.sat S1 (fun a m => ⟨(zg a m).2.1, (zg a m).2.2, og.alloc a m⟩) za
  have t2 : Stp W H [] W2 H1 := t1.trans F.stp fun a m => .inr (zg a m).1
  have E2 := E.keep S t2
  have M2 := M.keep (t2.le S fun _ m => by cases m) rfl fun _ _ => rfl
  refine mat_fld cl na M2 S2 ?_
  refine mat_key M2 hl fun p n => ?_
  have S3 := S2.new (o := .tup (keys.map kV)) n
  have E3 := E2.keep S2 (.new (o := .tup (keys.map kV)) n)
  obtain ⟨g0, ob, hob, kvs, rfl, q2, q3⟩ := S3.vol ad _ _ M2.s
  obtain ⟨hlen, E4, S4, t4⟩ := wr_memo (keys := keys) E3 S3 M2.s hob Rv hm
  refine ⟨ad, _, rfl, DPut.t hob upd_same hlen, nx env σ W2 _ fp xf ⟨((t2.tr0 (.new n)).tr0 t4).up, E4, S4, fun a m => .inl m, fun _ _ => rfl⟩ ⟨_, v, upd_same, ?_, Rv⟩⟩
  rw [valV_put, if_pos rfl])
theorem dsx_cons (h1 : PS X st (LS X.K pr m1)) (h2 : PSs X rest (LX X.K pr i C f js m2 mc)) (hi : i ∈ pr := by decide) (hj : ∀ j ∈ js, j ∈ pr := by decide) : PSs X (st :: rest) (LX X.K pr i C f js (mSeq m1 m2) mc) := pss_imp (pss_cons h1 h2) fun Z σ H h => by
  obtain ⟨W, env, fp, xf, d, ad, k, ps, keys, E, S, M, hm, hb, nx⟩ := h
  refine ⟨W, env, fp, xf, _, E, S, hb, fun e q σ' W' H' fp' xf' P => ?_, fun _ q => q.elim, fun _ q => q.elim, fun _ _ q => q.elim⟩
  refine ⟨W', e, fp', xf', d, ad, k, ps, keys, P.E, P.S, M.keep (P.t.le S fun a m => .inl m) (P.pr i hi) fun j m => P.pr j (hj j m), hm, q, fun e2 σ2 W2 H2 fp2 xf2 P2 hs => nx e2 σ2 W2 H2 fp2 xf2 (P.trans P2) hs⟩
/-- if k not in o.f: ..; o.f[k] = e; return o.f[k] -/
theorem dss_memo {x1 x3 : Nat} {tp1 tp3 cp ip sp rp : Pos} {s : List Stmt} (cl : Cls X.K C) (na : NoAttr X.K C f) (hu : X.A.units + 1 < cLine) (ho1 : PE X o1 (tFld X.K (tVar i) f)) (hk1 : PA X es1 (tVars js)) (ho3 : PE X o3 (tFld X.K (tVar i) f)) (hk3 : PA X es3 (tVars js))
    (hb : PSs X s (LX X.K pr i C f js m mc)) (hi : i ∈ pr := by decide) (hj : ∀ j ∈ js, j ∈ pr := by decide) (hp : ∀ j ∈ pr0, j ∈ pr := by decide) (hl : js.length < 100 := by decide) (hin : behindInMarks .NotIn o1 = false := by with_unfolding_all rfl) (hns : NoSl (.Tuple es3 x3 tp3) := by exact fun _ _ => rfl) :
    PSs X [.If (.Compare (.Tuple es1 x1 tp1) [.NotIn] [o1] cp) s [] ip, .Return (some (.Subscript o3 (.Tuple es3 x3 tp3) sp)) rp] (LS X.K pr0 (mMemo i C f js m mc)) :=
  pss_imp (pss_cons (ps_if (pt_cmp (pc_dnotin hu (pe_tup hk1) ho1) hin) hb pss_nil) (pss_one (ps_ret (pe_dget hu ho3 (pe_tup hk3) hns)))) fun Z σ H h => by
  obtain ⟨W, env, fp, xf, K0, E, S, ⟨ks, ds, k, ps, keys, d, he, hf, hk, hm, hb, hr⟩, nx, bk, ct, rt⟩ := h
  obtain ⟨ad, M⟩ := mat_of E S he hf hk
  have tail : ∀ {σ' : L2.St} {W' : Wd} {H' : Hp} {e' : Env} {fp' xf' : List Addr}, Post X.K W H fp pr σ σ' W' H' e' fp' xf' → Has X.K W' H' ad keys d → tRet (tDGet (tFld X.K (tVar i) f) (tTup (tVars js))) Z σ' H' := by
    intro σ' W' H' e' fp' xf' P ⟨kvs, u, h1, h2, h3⟩
    have M' := M.keep (P.t.le S fun a m => .inl m) (P.pr i hi) fun j m => P.pr j (hj j m)
    unfold tRet tDGet
    refine mat_fld cl na M' P.S ?_
    refine mat_key M' hl fun p n => ?_
    have hne : p ≠ ad := fun q => by rw [q, h1] at n; cases n
    refine ⟨ad, u, rfl, by rw [← h2]; exact DGet.t ((upd_ne (Ne.symm hne)).trans h1) upd_same, ?_⟩
    have P2 := P.trans (Post.pure (.new (o := .tup (keys.map kV)) n) (P.E.keep P.S (.new n)) (P.S.new n))
    exact rt _ e' (hr e') u σ' W' _ fp' xf' (P2.weak hp) h3
  unfold tSeq tIfS tB tDNotIn
  refine mat_key M hl fun p n => ?_
  have S1 := S.new (o := .tup (keys.map kV)) n
  have t1 : Stp W H [] W (upd H p (.tup (keys.map kV))) := .new n
  have E1 := E.keep S t1
  refine mat_fld cl na M S1 ?_
  obtain ⟨g0, ob, hob, kvs, rfl, q2, q3⟩ := S1.vol ad _ _ M.s
  refine ⟨ad, valV kvs keys, rfl, DGet.t hob upd_same, _, rfl, ?_⟩
  cases z : valV kvs keys with
  | none =>
    refine iteT ⟨W, env, fp, xf, d, ad, k, ps, keys, E1, S1, M, hm, hb, fun e' σ' W' H' fp' xf' P hs => tail ((Post.pure t1 E1 S1).trans P) hs⟩
  | some u =>
    refine iteF (tail (.pure t1 E1 S1) ⟨kvs, u, hob, z, ?_⟩)
    have hmem : ∃ p ∈ kvs, p.1 = keys ∧ p.2 = u := by
      unfold valV at z
      obtain ⟨p, hp, e⟩ := Option.map_eq_some_iff.mp z
      exact ⟨p, List.mem_of_find?_eq_some hp, by simpa using List.find?_some hp, e⟩
    obtain ⟨p, hp, e1, e2⟩ := hmem
    obtain ⟨d', w1, w2⟩ := q3 p hp
    rw [e1, hm] at w1
    cases w1
    rw [← e2]
    exact w2
end
end R
/-! ## the rules: enumerate, zip -/
namespace R
open PySem PySem.Spec PyProof.Rows L2
def pairR (x y : D) : Rs := .nw (.tup [.leaf x, .leaf y])
def enumR (ds : List D) : List Rs := (List.range ds.length).map fun (i : Nat) => pairR (.int (i : Int)) (ds.getD i .non)
def zipR (ds es : List D) : List Rs := (List.range (min ds.length es.length)).map fun (i : Nat) => pairR (ds.getD i .non) (es.getD i .non)
def mItE (a : DE) : DI := fun env Q => a env fun r => ∃ ds, r.ffz.els true = some ds ∧ Q r.ffz.stays (enumR ds)
def mItZ (a b : DE) : DI := fun env Q => a env fun r => b env fun s => ∃ ds es, r.ffz.els true = some ds ∧ s.ffz.els true = some es ∧ Q (r.ffz.stays && s.ffz.stays) (zipR ds es)
section
variable {K : PySem.W.Frag} {W W1 W2 W' : Wd} {H H1 H2 H' : Hp} {f f1 fp fp1 fp2 xf xf1 xf2 : List Addr} {σ σ1 σ2 : L2.St} {Q : VK} {r : Rs} {v : V} {env env1 env2 : Env}
theorem els_kids {ds : List D} (h : r.els true = some ds) : r.t.kids = some (ds.map .leaf) := by
  unfold Rs.els at h
  split at h
  · cases h; rfl
  · cases h
  · have e := leaves_eq (show leaves _ = some ds from h); subst e; rfl
  · have e := leaves_eq (show leaves _ = some ds from h); subst e; rfl
  · cases h
  · cases h
  · cases h
/-- a list of frozen items, while it stays -/
theorem list_stay {ds : List D} (o : ResOk K H fp W1 H1 v r) (h : r.els true = some ds) (S1 : Sat K W1 H1 fp xf) : ∃ (p : Addr) (vs : List V), v = .ref p ∧ SqL K H1 p vs ∧ RepAll K W1 vs ds ∧
    ∀ f, (r.stays = true ∨ f = []) → (∀ a ∈ f, a ∈ fp) → ∀ W' H' fp' xf', Stp W1 H1 f W' H' → W1.Le W' → Sat K W' H' fp' xf' → SqL K H' p vs ∧ RepAll K W' vs ds := by
  unfold Rs.els at h
  split at h
  · cases h
    cases (show Rep K W1 v (.lst ds) from o) with
    | lst g w => exact ⟨_, _, rfl, .of (S1.sub _ _ g), w, fun f _ _ W' H' fp' xf' _ l S => ⟨.of (S.sub _ _ (l.g _ _ g)), w.mono l⟩⟩
  · cases h
  · have e := show leaves _ = some ds from h
    obtain ⟨f0, ow, z⟩ := o
    cases ow with
    | lst hp w =>
      refine ⟨_, _, rfl, .of hp, w.reps e, fun f hf hs W' H' fp' xf' t l S => ?_⟩
      have hf : f = [] := hf.resolve_left (by intro q; cases q)
      subst hf
      exact ⟨.of (t.kp _ _ hp (by simp) (z _ List.mem_cons_self)), (w.reps e).mono l⟩
  · have e := show leaves _ = some ds from h
    obtain ⟨f0, ow, z⟩ := o
    cases ow with
    | lst hp w => exact ⟨_, _, rfl, .of hp, w.reps e, fun f hf hs W' H' fp' xf' t l S => ⟨.of (t.kp _ _ hp (fun m => (z _ List.mem_cons_self).2 (hs _ m)) (z _ List.mem_cons_self).1), (w.reps e).mono l⟩⟩
  · cases h
  · cases h
  · cases h
theorem RepAll.get {W : Wd} : ∀ {vs : List V} {ds : List D} {i : Nat} {u : V}, RepAll K W vs ds → vs[i]? = some u → Rep K W u (ds.getD i .non)
  | _, _, _, _, .nil, h => by simp at h
  | _, _, 0, _, .cons a _, h => by simp at h; subst h; exact a
  | _ :: vs0, _ :: ds0, i + 1, u, .cons _ b, h => by
    have h2 : vs0[i]? = some u := by simpa using h
    exact RepAll.get (vs := vs0) (ds := ds0) (i := i) b h2
/-- a new pair -/
theorem pair_ok {T : Addr} {x y : V} {d e : D} (S : Sat K W H fp xf) (n : H T = none) (a : Rep K W x d) (b : Rep K W y e) : Stp W H [] W (upd H T (.tup [x, y])) ∧ Sat K W (upd H T (.tup [x, y])) fp xf ∧ ResOk K H fp W (upd H T (.tup [x, y])) (.ref T) (pairR d e) :=
  ⟨.new n, S.new n, [T], .tup upd_same (.cons (f := []) (.leaf a) (.cons (f := []) (.leaf b) .nil)), by simp, fun c m => by rw [List.mem_singleton.mp m]; exact ⟨n, S.free n⟩⟩
theorem range_map_get {α : Type} {f : Nat → α} {n i : Nat} {c : α} (h : ((List.range n).map f)[i]? = some c) : c = f i := by
  rw [List.getElem?_map] at h
  cases q : (List.range n)[i]? with
  | none => rw [q] at h; cases h
  | some j =>
    obtain ⟨hi, e⟩ := List.getElem?_eq_some_iff.mp q
    rw [List.getElem_range] at e
    rw [q] at h
    cases h
    rw [e]
end
def two2 (P : Rs → Rs → Prop) : List Rs → Prop
  | [r, s] => P r s
  | _ => False
theorem two2_inv {P : Rs → Rs → Prop} : ∀ {rs : List Rs}, two2 P rs → ∃ r s, rs = [r, s] ∧ P r s
  | [r, s], h => ⟨r, s, rfl, h⟩
  | [], h => h.elim
  | [_], h => h.elim
  | _ :: _ :: _ :: _, h => h.elim
section
variable {X : Cx} {tg a b c : Expr} {ma mb mc : DE} {pos tpos : Pos} {ta tb : DT} {elts : List Expr} {kk : Nat}
theorem di_enum {p : Pos} (hm : X.mg "enumerate" = none) (ha : PE X a (LP X.K ma)) (hg : Gl X "enumerate" := by rfl) (hs : starEach [a] X.env = [(false, eval a X.env)] := by rfl) : PI X (.Tuple elts kk tpos) (.Call (.Name "enumerate" p) [a] [] pos) (LI X.K (mItE ma)) :=
  pi_imp (pi_enum hg hm (pa_cons ha pa_nil hs) hs) fun σ H R h => by
  obtain ⟨W, env, fp, xf, Q0, E, S, hm, k⟩ := h
  refine LP.next E S hm fun r ⟨ds, ek, hq⟩ v W1' H1 t1' S1' E1' o' => ?_
  obtain ⟨W1, t1, S1, _, o⟩ := ffz_ok S t1' S1' o'
  obtain ⟨p, vs, rfl, hl, hr, st⟩ := list_stay o ek S1
  have ll : (enumR ds).length = vs.length := by unfold enumR; rw [List.length_map, List.length_range, hr.len]
  refine ⟨p, vs, rfl, hl, k _ _ hq _ W1 H1 t1 S1 fun f hf hs W' H' fp' xf' t l S' y => ?_⟩
  obtain ⟨q1, q2⟩ := st f hf hs W' H' fp' xf' t l S'
  refine ⟨fun i hi => ⟨vs, q1, by omega⟩, fun i hi => ⟨vs, vs[i]'(by omega), q1, List.getElem?_eq_getElem (by omega)⟩, fun i x H'' c hy hx => ?_⟩
  obtain ⟨T, x0, rfl, hn, rfl, hv⟩ := hy
  rw [range_map_get hx]
  exact pair_ok S' hn (.int _) (q2.get (hv vs q1))
theorem di_zip {p : Pos} (hm : X.mg "zip" = none) (ha : PE X a (LP X.K ma)) (hb : PE X b (LP X.K mb)) (hg : Gl X "zip" := by rfl) (hs : starEach [a, b] X.env = (false, eval a X.env) :: starEach [b] X.env := by rfl) (hs2 : starEach [b] X.env = (false, eval b X.env) :: starEach [] X.env := by rfl)
    (hpl : (backTo pos (starEach [b] X.env)).any (·.1) = false := by rfl) : PI X (.Tuple elts kk tpos) (.Call (.Name "zip" p) [a, b] [] pos) (LI X.K (mItZ ma mb)) :=
  pi_imp (RZ.pi_zipA hg hm (da_cons ha (da_cons hb da_nil hs2) hs) hs hpl) fun σ H R h => by
  obtain ⟨W, env, fp, xf, Q0, E, S, hm, k⟩ := h
  refine LA.next (m := mCons ma (mCons mb mNil)) E S (Q1 := two2 fun r s => ∃ ds es, r.ffz.els true = some ds ∧ s.ffz.els true = some es ∧ Q0 (r.ffz.stays && s.ffz.stays) (zipR ds es)) hm fun rs hr vs W1' H1 g t1' S1' E1' os F => ?_
  obtain ⟨r, s, rfl, ds, es, ek, ek2, hq⟩ := two2_inv hr
  obtain ⟨W1, g', t1, S1, _, _, o4, F4, _, _⟩ := os.ffz (.refl _) rfl S t1' S1' F.1 F.2
  obtain ⟨v, u, rfl, o, o2⟩ := o4.two F4
  obtain ⟨p, vs, rfl, hl, hr1, st⟩ := list_stay o ek S1
  obtain ⟨p2, us, rfl, hl2, hr2, st2⟩ := list_stay o2 ek2 S1
  have ll : (zipR ds es).length = min vs.length us.length := by unfold zipR; rw [List.length_map, List.length_range, hr1.len, hr2.len]
  refine ⟨p, p2, vs, us, rfl, .inl ⟨hl, hl2, k _ _ hq _ W1 H1 t1 S1 fun f hf hs W' H' fp' xf' t l S' y => ?_⟩⟩
  obtain ⟨q1, q2⟩ := st f (hf.imp (fun z => (Bool.and_eq_true_iff.mp z).1) id) hs W' H' fp' xf' t l S'
  obtain ⟨q3, q4⟩ := st2 f (hf.imp (fun z => (Bool.and_eq_true_iff.mp z).2) id) hs W' H' fp' xf' t l S'
  refine ⟨fun i hi => ⟨vs, us, q1, q3, by omega⟩, fun i hi => ⟨vs, us, vs[i]'(by omega), us[i]'(by omega), q1, q3, List.getElem?_eq_getElem (by omega), List.getElem?_eq_getElem (by omega)⟩, fun i x H'' c hy hx => ?_⟩
  obtain ⟨T, x0, y0, rfl, hn, rfl, hv, hu⟩ := hy
  rw [range_map_get hx]
  exact pair_ok S' hn (q2.get (hv vs q1)) (q4.get (hu us q3))
end
end R
/-! ## defs as they are called -/
namespace R
open PySem PySem.Spec PyProof.Rows L2
section
variable (P : Program) (w : World) (K : PySem.W.Frag) (mg : Str → Option Value) (base : Heap)
structure CalR (x : Str) (n : Nat) (F : Spec1) (dv : List D) (k : Nat) : Prop where
  ex : ∃ (f : Addr) (fd : FuncData) (ps : List Str) (ds : List Value) (dvs : List V), FnOk P w K mg base CX0 k f fd ps (spR K n F.io) ∧ mg x = some (.ref f) ∧ PySem.W.keepIn K (.ref f) = true ∧ Binds K fd ps ds ∧ Vals dvs ds ∧ ∀ W, RepAll K W dvs dv
structure MetR (C : Addr) (m : Str) (n : Nat) (F : Spec1) (dv : List D) (k : Nat) : Prop where
  ex : ∃ (f : Addr) (fd : FuncData) (ps : List Str) (ds : List Value) (dvs : List V), Cls K C ∧ Meth K C m f ∧ FnOk P w K mg base CX0 k f fd ps (spR K n F.io) ∧ Binds K fd ps ds ∧ Vals dvs ds ∧ ∀ W, RepAll K W dvs dv
structure MakR (x : Str) (C : Addr) (n : Nat) (F : Spec) (dv : List D) (k : Nat) : Prop where
  ex : ∃ (f : Addr) (fd : FuncData) (ps : List Str) (ds : List Value) (dvs : List V), Mk K C f ∧ FnOk P w K mg base CX0 k f fd ps (spR K n F) ∧ mg x = some (.ref C) ∧ Binds K fd ps ds ∧ Vals dvs ds ∧ ∀ W, RepAll K W dvs dv
/-- C(.., ks = ..): the arguments behind self are the positional ones, then those by name -/
structure MakKR (x : Str) (C : Addr) (n : Nat) (F : Spec) (np : Nat) (ks : List Str) (k : Nat) : Prop where
  ex : ∃ (f : Addr) (fd : FuncData) (ps : List Str) (g : List Value → List Value → List Value), Mk K C f ∧ FnOk P w K mg base CX0 k f fd ps (spR K n F) ∧ mg x = some (.ref C) ∧ KBn K fd ps (np + 1) ks g (fun vs zs => vs ++ zs)
end
/-- arguments by position, then by name -/
def mApp (np nk : Nat) (a k : DA) : DA := fun env Q => a env fun rs => k env fun zs => rs.length = np ∧ zs.length = nk ∧ Q (rs ++ zs)
def mMakeK (n : Nat) (C : Nat) (F : Spec) (np nk : Nat) (a k : DA) : DE := mMake n C F (mApp np nk a k) []
section
variable {X : Cx} {k j n : Nat} {C : Addr} {F1 : Spec1} {F0 : Spec} {dv : List D} {x m : Str} {p pos apos : Pos} {e o : Expr} {es : List Expr} {mo mv : DE} {ma mk : DA} {kws : List Keyword} {nm : Option Str} {kpos : Pos}
theorem dp_cal (c : CalR X.prog X.w X.K X.mg X.base x n F1 dv k) (hr : Room j X.A) (hk : k ≤ j) (ha : PA X (e :: es) (LA X.K ma))
    (hg : Gl X x := by rfl) (hst : starEach (e :: es) X.env = (false, eval e X.env) :: starEach es X.env := by rfl) (hpl : (backTo pos (starEach es X.env)).any (·.1) = false := by rfl) (hdb : (x == ("__debug__" : Str)) = false := by decide) :
    PE X (.Call (.Name x p) (e :: es) [] pos) (LP X.K (mCall n F1 ma dv)) := by
  obtain ⟨f, fd, ps, ds, dvs, F, hm, kp, b, d, r⟩ := c.ex
  exact dp_call F (hr.mono hk) hm kp b d r (E := E0) pass0 ha hg hst hpl hdb
theorem dp_cal0 (c : CalR X.prog X.w X.K X.mg X.base x n F1 dv k) (hr : Room j X.A) (hk : k ≤ j) (hg : Gl X x := by rfl) (hdb : (x == ("__debug__" : Str)) = false := by decide) :
    PE X (.Call (.Name x p) [] [] pos) (LP X.K (mCall n F1 mNil dv)) := by
  obtain ⟨f, fd, ps, ds, dvs, F, hm, kp, b, d, r⟩ := c.ex
  exact dp_call0 F (hr.mono hk) hm kp b d r (E := E0) pass0 hg hdb
theorem dp_mth {pl : Sem Bool} (c : MetR X.prog X.w X.K X.mg X.base C m n F1 dv k) (hr : Room j X.A) (hk : k ≤ j) (he : PE X o (LP X.K mo)) (ha : PA X (e :: es) (LA X.K ma))
    (hst : starEach (e :: es) X.env = (false, eval e X.env) :: starEach es X.env := by rfl) (hpl : (backTo pos (starEach es X.env)).any (·.1) = false := by rfl)
    (ht : eval (.Call (.Attribute o m apos) (e :: es) [] pos) X.env = (do
      let ov ← eval o X.env
      standAt apos.atName
      let (f, first) ← holding [ov] (getMethod ov m pl)
      callWith pos f first (backTo pos (starEach (e :: es) X.env)) (backToKw pos (keywordEach [] X.env))) := by rfl) :
    PE X (.Call (.Attribute o m apos) (e :: es) [] pos) (LP X.K (mMeth n C m F1 mo ma dv)) := by
  obtain ⟨f, fd, ps, ds, dvs, cl, me, F, b, d, r⟩ := c.ex
  exact dp_meth (pl := pl) cl me F (hr.mono hk) b d r (E := E0) pass0 he ha hst hpl ht
theorem dp_mth0 {pl : Sem Bool} (c : MetR X.prog X.w X.K X.mg X.base C m n F1 dv k) (hr : Room j X.A) (hk : k ≤ j) (he : PE X o (LP X.K mo))
    (ht : eval (.Call (.Attribute o m apos) [] [] pos) X.env = (do
      let ov ← eval o X.env
      standAt apos.atName
      let (f, first) ← holding [ov] (getMethod ov m pl)
      callWith pos f first (backTo pos (starEach [] X.env)) (backToKw pos (keywordEach [] X.env))) := by rfl) :
    PE X (.Call (.Attribute o m apos) [] [] pos) (LP X.K (mMeth n C m F1 mo mNil dv)) := by
  obtain ⟨f, fd, ps, ds, dvs, cl, me, F, b, d, r⟩ := c.ex
  exact dp_meth0 (pl := pl) cl me F (hr.mono hk) b d r (E := E0) pass0 he ht
theorem dp_mk (c : MakR X.prog X.w X.K X.mg X.base x C n F0 dv k) (hr : Room j X.A) (hk : k + 1 ≤ j) (ha : PA X (e :: es) (LA X.K ma))
    (hg : Gl X x := by rfl) (hdb : (x == ("__debug__" : Str)) = false := by decide) (he : starEach (e :: es) X.env = (false, eval e X.env) :: starEach es X.env := by rfl) (hpl : (backTo pos (starEach es X.env)).any (·.1) = false := by rfl) :
    PE X (.Call (.Name x p) (e :: es) [] pos) (LP X.K (mMake n C F0 ma dv)) := by
  obtain ⟨f, fd, ps, ds, dvs, M, F, hm, b, d, r⟩ := c.ex
  exact dp_make M F (hr.mono hk) hm b d r (E := E0) pass0 ha hg hdb he hpl
/-! by name -/
theorem pk_imp {t t' : TA} (h : PK X kws t) (k : ∀ σ H Q, t' σ H Q → t σ H Q) : PK X kws t' := ⟨fun p pins s σ H Q I w => h.run p pins s σ H Q I (k σ H Q w)⟩
theorem dk_nil : PK X [] (LA X.K mNil) := pk_imp pk_nil fun σ H Q h => by
  obtain ⟨W, env, fp, xf, Q0, E, S, hm, k⟩ := h
  exact k _ hm [] W H [] .refl S .nil ⟨List.nodup_nil, fun _ m => by cases m⟩
theorem cons_all {σ : L2.St} {H : Hp} {Q : List V → Hp → Prop} (h : LA X.K (mCons mv ma) σ H Q) : tCons (LP X.K mv) (LA X.K ma) σ H Q := by
  obtain ⟨W, env, fp, xf, Q0, E, S, hm, k⟩ := h
  refine LP.next E S hm fun r hr v W1 H1 t1 S1 E1 o => ?_
  refine ⟨W1, env, fp, xf, _, E1, S1, hr, fun rs hq vs W2 H2 g t2 S2 os F => ?_⟩
  have l := t2.le S1 fun _ m => by cases m
  have o2 := o.keep t2 l
  have Fb := fresh_back F t1.al
  have os' : ResAll X.K H fp W2 H2 vs rs g := os.back
  cases r with
  | fz d => exact k _ hq _ W2 H2 g (t1.tr0 t2) S2 (.fz o2 os') Fb
  | nw t =>
    obtain ⟨f, ow, nd, z⟩ := o
    have ow2 := ow.mono l fun a m u e => t2.kp a u e (by simp) (z a m).2.2
    refine k _ hq _ W2 H2 (f ++ g) (t1.tr0 t2) S2 (.nw ow2 os') ⟨List.nodup_append.mpr ⟨nd, F.1, fun x m y m2 e => ?_⟩, fun a m => ?_⟩
    · subst e
      exact ow.alloc x m (F.2 x m2).1
    · rcases List.mem_append.mp m with m | m
      · obtain ⟨e1, e2⟩ := t2.kpS (ow.alloc a m)
        exact ⟨(z a m).1, e1.trans (z a m).2.1, e2.trans (z a m).2.2⟩
      · exact Fb.2 a m
  | br t => obtain ⟨f, ow, z⟩ := o2; exact k _ hq _ W2 H2 g (t1.tr0 t2) S2 (.br ow z os') Fb
  | ex t => obtain ⟨f, ow, z⟩ := o2; exact k _ hq _ W2 H2 g (t1.tr0 t2) S2 (.ex ow z os') Fb
theorem dk_cons (ha : PE X e (LP X.K mv)) (hr : PK X kws (LA X.K ma)) : PK X (⟨nm, e, kpos⟩ :: kws) (LA X.K (mCons mv ma)) := pk_imp (pk_cons ha hr) fun σ H Q h => cons_all h
end
end R
/-! ## a class made with arguments by name; augmented stores -/
namespace R
open PySem PySem.Spec PyProof.Rows L2
section
variable {K : PySem.W.Frag} {W W1 W2 W' : Wd} {H H1 H2 H' : Hp} {f f1 fp fp1 fp2 xf xf1 xf2 : List Addr} {σ σ1 σ2 : L2.St} {Q : VK} {r : Rs} {v : V} {env env1 env2 : Env}
theorem ResAll.app {vs us : List V} {rs ss : List Rs} {g h : List Addr} (a : ResAll K H fp W' H' vs rs g) (b : ResAll K H fp W' H' us ss h) : ResAll K H fp W' H' (vs ++ us) (rs ++ ss) (g ++ h) := by
  induction a with
  | nil => exact b
  | fz q _ ih => exact .fz q ih
  | nw q _ ih =>
    have w := ResAll.nw q ih
    rw [← List.append_assoc] at w
    exact w
  | br q z _ ih => exact .br q z ih
  | ex q z _ ih => exact .ex q z ih
theorem app_all {np nk : Nat} {ma mk : DA} {Q : List V → Hp → Prop} (h : LA K (mApp np nk ma mk) σ H Q) : LA K ma σ H fun vs H1 => LA K mk σ H1 fun zs H2 => vs.length = np ∧ zs.length = nk ∧ Q (vs ++ zs) H2 := by
  obtain ⟨W, env, fp, xf, Q0, E, S, hm, k⟩ := h
  refine LA.next E S hm fun rs hr vs W1 H1 g t1 S1 E1 o F1 => ?_
  refine LA.next E1 S1 hr fun zs ⟨l1, l2, hq⟩ us W2 H2 g2 t2 S2 E2 os F => ?_
  have l := t2.le S1 fun _ m => by cases m
  have o2 := o.mono l (fun a u e s => t2.kp a u e (by simp) s) (fun a n => (t2.kpS n).2) fun a m => (F1.2 a m).2.2
  have Fb := fresh_back F t1.al
  have os' : ResAll K H fp W2 H2 us zs g2 := os.back
  refine ⟨o.len.trans l1, os.len.trans l2, k _ hq _ W2 H2 (g ++ g2) (t1.tr0 t2) S2 (o2.app os') ⟨List.nodup_append.mpr ⟨F1.1, F.1, fun x m y m2 e => ?_⟩, fun a m => ?_⟩⟩
  · subst e
    exact o.cells x m (F.2 x m2).1
  · rcases List.mem_append.mp m with m | m
    · obtain ⟨e1, e2⟩ := t2.kpS (o.cells a m)
      exact ⟨(F1.2 a m).1, e1.trans (F1.2 a m).2.1, e2.trans (F1.2 a m).2.2⟩
    · exact Fb.2 a m
end
section
variable {X : Cx} {k j n np : Nat} {C : Addr} {F0 : Spec} {x : Str} {p pos : Pos} {e : Expr} {es : List Expr} {ma mk : DA} {kws : List Keyword} {ks : List Str} {a b c : Expr} {mb : DE} {pr : List Nat}
theorem dp_makek (c : MakKR X.prog X.w X.K X.mg X.base x C n F0 np ks k) (hr : Room j X.A) (hk : k + 1 ≤ j) (ha : PA X (e :: es) (LA X.K ma)) (hkw : PK X kws (LA X.K mk))
    (hg : Gl X x := by rfl) (hall : (backToKw pos (keywordEach kws X.env)).all (·.1.isSome) = true := by rfl) (hks : (backToKw pos (keywordEach kws X.env)).filterMap (·.1) = ks := by rfl) (hdb : (x == ("__debug__" : Str)) = false := by decide) {nk : Nat} (hnk : ks.length = nk := by rfl)
    (he : starEach (e :: es) X.env = (false, eval e X.env) :: starEach es X.env := by rfl) (hpl : ((backTo pos (starEach (e :: es) X.env)).any (·.1) || (backToKw pos (keywordEach kws X.env)).any (·.1.isNone)) = false := by rfl) :
    PE X (.Call (.Name x p) (e :: es) kws pos) (LP X.K (mMakeK n C F0 np nk ma mk)) := by
  subst hnk
  obtain ⟨f, fd, ps, g, M, F, hm, hb⟩ := c.ex
  refine pe_imp (pe_makeK (E := E0) M F (hr.mono hk) hg hm hb pass0 ha hkw hall hks hdb he hpl) fun σ H Q h => ?_
  have h2 := make_all (X := X) (dvs := []) (dv := []) (E := E0) (fun _ => .nil) h
  unfold tMake at h2
  have h3 := app_all h2
  unfold tMakeK
  obtain ⟨W, env, fp, xf, Q0, E, S, hm, k⟩ := h3
  refine ⟨W, env, fp, xf, Q0, E, S, hm, fun rs hr vs W1 H1 g t1 S1 o G => ?_⟩
  obtain ⟨W', env', fp', xf', Q0', E', S', hm', k'⟩ := k rs hr vs W1 H1 g t1 S1 o G
  refine ⟨W', env', fp', xf', Q0', E', S', hm', fun rs hr us W1 H1 g t1 S1 o G => ?_⟩
  obtain ⟨l1, l2, q⟩ := k' rs hr us W1 H1 g t1 S1 o G
  refine ⟨l1, l2, fun x dx a b c => ?_⟩
  have z := q x dx a b c
  rw [List.append_nil] at z
  exact z
/-! x op= e -/
def oAddI := i2 (fun _ _ => True) fun i j => .int (i + j)
def oMulI := i2 (fun i j => (-(2 ^ 64) < i ∧ i < 2 ^ 64) ∨ (-(2 ^ 64) < j ∧ j < 2 ^ 64)) fun i j => .int (i * j)
end
end R
/-! ## an item of a tuple as a place -/
namespace R
open PySem PySem.Spec PyProof.Rows L2
def plT (a : DP) (b : DE) : DP := fun env Q => a env fun i p => b env fun r => ∃ k ts j, r = .fz (.int k) ∧ tree env i p = some (.tup ts) ∧ ixN' ts.length k = some j ∧ Q i (p ++ [j])
section
variable {X : Cx} {a b : Expr} {mb : DE} {pos : Pos} {pl : DP}
theorem dpl_ixT (ha : PE X a (LPl X.K pl)) (hb : PE X b (LP X.K mb)) (hs : PlainIx b := by exact fun _ _ => rfl) : PE X (.Subscript a b pos) (LPl X.K (plT pl mb)) := pe_imp (pe_ix ix_seq ha hb hs) fun σ H Q h => by
  obtain ⟨W, env, fp, xf, Q0, E, S, hm, k⟩ := h
  refine LPl.next E S hm fun i p hq u W1 H1 t1 S1 E1 P => ?_
  refine LP.next E1 S1 hq fun r hr v2 W2 H2 t2 S2 E2 o => ?_
  obtain ⟨n, ts, j, rfl, et, ej, q⟩ := hr
  have P2 := P.keep E1 S1 t2
  obtain ⟨t, v, s2, he, ev, ap⟩ := P2
  have e2 := tree_at he ap.at
  rw [e2] at et
  cases et
  obtain ⟨f, rest, ow, pm, _⟩ := E2.slot he ev
  obtain ⟨fs, rest2, os, p2, _⟩ := place ap ow
  cases os with
  | @tup p0 vs _ g hp w =>
    have hj := ixN_lt ej
    have hj2 : j < vs.length := by rw [w.len]; exact hj
    refine .inr (.inl ⟨p0, vs, n, vs[j], rfl, int_of o, .of hp, ?_, k i _ q _ W2 H2 (t1.tr0 t2) S2 ⟨t, v, _, he, ev, ap.snoc (.tup hp (List.getElem?_eq_getElem hj2) (List.getElem?_eq_getElem hj) .nil)⟩⟩)
    rw [ix_at w.len ej hj2]
    exact List.getElem?_eq_getElem hj2
end
end R
/-! ## readings, worked out -/
namespace R
open PySem
theorem w_add (i j : Int) : oAdd (.fz (.int i)) (.fz (.int j)) = fun Q => Q (.fz (.int (i + j))) := rfl
theorem w_mul (i j : Int) : oMul (.fz (.int i)) (.fz (.int j)) = fun Q => ((-(2 ^ 64) < i ∧ i < 2 ^ 64) ∨ (-(2 ^ 64) < j ∧ j < 2 ^ 64)) ∧ Q (.fz (.int (i * j))) := rfl
theorem w_ix_vol (ps : List D) (i : Int) : oIx (.fz (.vol 0 ps)) (.fz (.int i)) = fun Q => 0 ≤ i ∧ i < 3 ∧ ∀ x, Q (.fz (.int x)) := rfl
theorem w_ix_lst (ds : List D) (i : Int) : oIx (.fz (.lst ds)) (.fz (.int i)) = fun Q => ∃ d, at' ds i = some d ∧ Q (.fz d) := rfl
theorem w_ix_tup (ds : List D) (i : Int) : oIx (.fz (.tup ds)) (.fz (.int i)) = fun Q => ∃ d, at' ds i = some d ∧ Q (.fz d) := rfl
theorem w_ix_rol (ds : List D) (i : Int) : oIx (.fz (.rol ds)) (.fz (.int i)) = fun Q => ∃ d, at' ds i = some d ∧ Q (.fz d) := rfl
theorem w_ix_br (ts : List OT) (i : Int) : oIx (.br (.lst ts)) (.fz (.int i)) = fun Q => ∃ t, at' ts i = some t ∧ Q (brOf t) := by
  funext Q
  refine propext ⟨fun ⟨ts', t, e, h⟩ => ?_, fun ⟨t, h⟩ => ⟨ts, t, rfl, h⟩⟩
  cases e
  exact ⟨t, h⟩
theorem w_ix_brT (ts : List OT) (i : Int) : oIx (.br (.tup ts)) (.fz (.int i)) = fun Q => ∃ t, at' ts i = some t ∧ Q (brOf t) := by
  funext Q
  refine propext ⟨fun ⟨ts', t, e, h⟩ => ?_, fun ⟨t, h⟩ => ⟨ts, t, rfl, h⟩⟩
  cases e
  exact ⟨t, h⟩
theorem w_len_lst (ds : List D) : oLen [.fz (.lst ds)] = fun Q => Q (.fz (.int ds.length)) := by
  funext Q
  refine propext ⟨fun ⟨ts, e, h⟩ => ?_, fun h => ⟨_, rfl, by rw [List.length_map]; exact h⟩⟩
  cases e
  rw [List.length_map] at h
  exact h
theorem w_len_tup (ds : List D) : oLen [.fz (.tup ds)] = fun Q => Q (.fz (.int ds.length)) := by
  funext Q
  refine propext ⟨fun ⟨ts, e, h⟩ => ?_, fun h => ⟨_, rfl, by rw [List.length_map]; exact h⟩⟩
  cases e
  rw [List.length_map] at h
  exact h
theorem w_len_rol (ds : List D) : oLen [.fz (.rol ds)] = fun Q => Q (.fz (.int ds.length)) := by
  funext Q
  refine propext ⟨fun ⟨ts, e, h⟩ => ?_, fun h => ⟨_, rfl, by rw [List.length_map]; exact h⟩⟩
  cases e
  rw [List.length_map] at h
  exact h
theorem w_len_br (ts : List OT) : oLen [.br (.lst ts)] = fun Q => Q (.fz (.int ts.length)) := by
  funext Q
  refine propext ⟨fun ⟨ts, e, h⟩ => ?_, fun h => ⟨_, rfl, h⟩⟩
  cases e
  exact h
theorem w_len_nw (ts : List OT) : oLen [.nw (.lst ts)] = fun Q => Q (.fz (.int ts.length)) := by
  funext Q
  refine propext ⟨fun ⟨ts, e, h⟩ => ?_, fun h => ⟨_, rfl, h⟩⟩
  cases e
  exact h
theorem outs_nil (n : Nat) (e : Env) : outs [] n e = List.replicate n none := by
  unfold outs
  apply List.ext_getElem
  · simp
  · intro i h1 h2
    simp
theorem ffz_lst (ds : List D) : (Rs.nw (.lst (ds.map .leaf))).ffz = .fz (.lst ds) := by
  show (match (OT.lst (ds.map .leaf)).fzd with | some d => Rs.fz d | none => _) = _
  rw [fzd_lst]
theorem ffz_tup (ds : List D) : (Rs.nw (.tup (ds.map .leaf))).ffz = .fz (.tup ds) := by
  show (match (OT.tup (ds.map .leaf)).fzd with | some d => Rs.fz d | none => _) = _
  rw [fzd_tup]
theorem log2_lt {b : Int} (h : 0 < b) (h2 : b < 2 ^ 200) : b.natAbs.log2 < 9000 := by
  have h3 : b.natAbs < 2 ^ 200 := by omega
  have := (Nat.log2_lt (by omega : b.natAbs ≠ 0) (k := 200)).mpr h3
  omega
theorem at_get {ns : List Nat} {i : Int} {c : Nat} (e : i = (c : Int)) (h : c < ns.length) : at' (ns.map nI) i = some (nI (pk ns c)) := by
  subst e
  exact at_nat (by rw [List.getElem?_map, List.getElem?_eq_getElem h, pk_lt h] <;> rfl)
theorem at_last {α : Type} {xs : List α} {x : α} : at' (xs ++ [x]) (-1) = some x := by
  unfold at' ixN'
  rw [List.length_append, List.length_singleton, if_neg (by omega), if_pos (by omega)]
  have e : ((-1 : Int) + ((xs.length + 1 : Nat) : Int)).toNat = xs.length := by omega
  rw [e]
  simp
theorem ints_nI (ns : List Nat) : allOf D.int? (ns.map nI) = some (ns.map fun (n : Nat) => (n : Int)) := by
  have h := ints_of (ns.map fun (n : Nat) => (n : Int))
  rw [List.map_map] at h
  exact h
theorem sum_cast (ns : List Nat) : (ns.map fun (n : Nat) => (n : Int)).sum = ((ns.sum : Nat) : Int) := by
  induction ns with
  | nil => rfl
  | cons n ns ih => rw [List.map_cons, List.sum_cons, List.sum_cons, ih]; omega
end R
namespace R
open PySem
theorem kid_leafs (d : D) (ds : List D) : (ds.map OT.leaf).map (Rs.kid (.fz d)) = ds.map .fz := by rw [List.map_map] <;> rfl
theorem it_var_lst {env : Env} {i : Nat} {ds : List D} {Q : Bool → List Rs → Prop} (e : env[i]? = some (some (.fz (.lst ds)))) (h : Q true (ds.map .fz)) : mItL (mVar i) env Q := ⟨_, e, _, rfl, by
  show Q true ((ds.map OT.leaf).map (Rs.kid (.fz (.lst ds))))
  rw [kid_leafs]
  exact h⟩
theorem it_var_tup {env : Env} {i : Nat} {ds : List D} {Q : Bool → List Rs → Prop} (e : env[i]? = some (some (.fz (.tup ds)))) (h : Q true (ds.map .fz)) : mItL (mVar i) env Q := ⟨_, e, _, rfl, by
  show Q true ((ds.map OT.leaf).map (Rs.kid (.fz (.tup ds))))
  rw [kid_leafs]
  exact h⟩
theorem get_fz {ds : List D} {n : Nat} {r : Rs} (h : (ds.map Rs.fz)[n]? = some r) : ∃ d, ds[n]? = some d ∧ r = .fz d := by
  rw [List.getElem?_map] at h
  cases q : ds[n]? with
  | none => rw [q] at h; cases h
  | some d => rw [q] at h; cases h; exact ⟨d, rfl, rfl⟩
theorem get_nI {ns : List Nat} {n : Nat} {r : Rs} (h : ((ns.map nI).map Rs.fz)[n]? = some r) : n < ns.length ∧ r = .fz (nI (pk ns n)) := by
  obtain ⟨d, e, rfl⟩ := get_fz h
  rw [List.getElem?_map] at e
  cases q : ns[n]? with
  | none => rw [q] at e; cases e
  | some k =>
    rw [q] at e
    cases e
    obtain ⟨hl, e⟩ := List.getElem?_eq_some_iff.mp q
    exact ⟨hl, by rw [pk_lt hl, e]⟩
/-- a comprehension whose items are known -/
theorem lc_any {it : DI} {g : DG} {e : DE} {ws : List Nat} {env : Env} {Q : Rs → Prop} (xs : List Rs) (st : Bool) (out : Nat → OT) (hit : ∀ Q' : Bool → List Rs → Prop, Q' st xs → it env Q') (hl : xs.length ≤ sizeL)
    (he : ∀ n r, xs[n]? = some r → g (Env.wipe (Env.lent env) ws) r.arg fun e1 => e1.length = env.length ∧ e e1 fun y => ∃ ty, y.item = some ty ∧ (List.range n).map out ++ [ty] = (List.range (n + 1)).map out) (hQ : Q (.nw (.lst ((List.range xs.length).map out)))) : mLc it g mYes e ws env Q := by
  refine hit _ ⟨fun n acc => acc = (List.range n).map out, rfl, fun n r acc hr ha => ⟨?_, ?_⟩, fun acc ha => by rw [ha]; exact hQ⟩
  · rw [ha, List.length_map, List.length_range]
    have := (List.getElem?_eq_some_iff.mp hr).1
    omega
  · subst ha
    exact he n r hr
theorem item_snoc {out : Nat → OT} {n : Nat} : (List.range n).map out ++ [out n] = (List.range (n + 1)).map out := by rw [List.range_succ, List.map_append] <;> rfl
theorem range_map_pk {α : Type} (ns : List Nat) (f : Nat → α) : (List.range ns.length).map (fun n => f (pk ns n)) = ns.map f := by
  have := congrArg (List.map f) (map_pk_range ns)
  rw [List.map_map] at this
  exact this
theorem all_true (n : Nat) : ((List.replicate n true).all id) = true := by
  induction n with
  | zero => rfl
  | succ n ih => rw [List.replicate_succ, List.all_cons, ih] <;> rfl
end R
namespace R
open PySem
theorem w_eq_int (neg : Bool) (i j : Int) : oEq neg (.fz (.int i)) (.fz (.int j)) = fun Q => Q (.fz (.bl (decide (i = j) != neg))) := by
  funext Q
  have e : PyData.eqv (.int i) (.int j) = decide (i = j) := by
    rw [PyData.eqv]
    exact Bool.beq_eq_decide_eq i j
  refine propext ⟨fun ⟨p, q, e1, e2, h⟩ => ?_, fun h => ⟨_, _, rfl, rfl, by rw [e]; exact h⟩⟩
  cases e1
  cases e2
  rw [e] at h
  exact h
theorem eqvAll_of {f : D → Option PyData} (hf : ∀ d p, f d = some p → PyData.eqv p p = true) : ∀ {ds : List D} {ps : List PyData}, allOf f ds = some ps → PyData.eqvAll ps ps = true
  | [], ps, h => by cases h; rw [PyData.eqvAll]
  | d :: ds, ps, h => by
    rw [allOf] at h
    cases q : f d with
    | none => rw [q] at h; cases h
    | some p =>
      rw [q] at h
      cases q2 : allOf f ds with
      | none => rw [q2] at h; cases h
      | some qs =>
        rw [q2] at h
        cases h
        rw [PyData.eqvAll, hf d p q, eqvAll_of hf q2] <;> rfl
theorem pd_refl : ∀ (n : Nat) (d : D) (p : PyData), d.pd n = some p → PyData.eqv p p = true := by
  intro n
  induction n with
  | zero =>
    intro d p h
    cases d with
    | non => cases h; rw [PyData.eqv]
    | bl b => cases h; rw [PyData.eqv]; exact beq_self_eq_true b
    | int i => cases h; rw [PyData.eqv]; exact beq_self_eq_true i
    | str x =>
      have h : (if PyData.strOk x = true then some (PyData.str x) else none) = some p := h
      split at h
      · cases h; rw [PyData.eqv]; exact beq_self_eq_true x
      · cases h
    | lst _ => cases h
    | tup _ => cases h
    | rol _ => cases h
    | ins _ _ _ => cases h
    | vol _ _ => cases h
    | any => cases h
  | succ n ih =>
    intro d p h
    cases d with
    | non => cases h; rw [PyData.eqv]
    | bl b => cases h; rw [PyData.eqv]; exact beq_self_eq_true b
    | int i => cases h; rw [PyData.eqv]; exact beq_self_eq_true i
    | str x =>
      have h : (if PyData.strOk x = true then some (PyData.str x) else none) = some p := h
      split at h
      · cases h; rw [PyData.eqv]; exact beq_self_eq_true x
      · cases h
    | lst ds =>
      have h : (allOf (D.pd n) ds).map .list = some p := h
      cases q : allOf (D.pd n) ds with
      | none => rw [q] at h; cases h
      | some ps => rw [q] at h; cases h; rw [PyData.eqv]; exact eqvAll_of ih q
    | tup ds =>
      have h : (allOf (D.pd n) ds).map .tuple = some p := h
      cases q : allOf (D.pd n) ds with
      | none => rw [q] at h; cases h
      | some ps => rw [q] at h; cases h; rw [PyData.eqv]; exact eqvAll_of ih q
    | rol ds =>
      have h : (allOf (D.pd n) ds).map .list = some p := h
      cases q : allOf (D.pd n) ds with
      | none => rw [q] at h; cases h
      | some ps => rw [q] at h; cases h; rw [PyData.eqv]; exact eqvAll_of ih q
    | ins _ _ _ => cases h
    | vol _ _ => cases h
    | any => cases h
/-- equal data: == says so -/
theorem oEq_same {neg : Bool} {x y : Rs} {Q : Rs → Prop} {d : D} {p : PyData} (hd : d.pd 8 = some p) (hx : x.t.pd 8 = some p) (hy : y.t.pd 8 = some p) (h : Q (.fz (.bl (true != neg)))) : oEq neg x y Q := ⟨p, p, hx, hy, by rw [pd_refl 8 d p hd]; exact h⟩
theorem pd_ints (n : Nat) (ns : List Nat) : allOf (D.pd n) (ns.map nI) = some (ns.map fun (k : Nat) => PyData.int (k : Int)) := by
  induction ns with
  | nil => rfl
  | cons k ns ih =>
    rw [List.map_cons, allOf, ih]
    cases n <;> rfl
theorem pdT_ints (n : Nat) (ns : List Nat) : allOfT (OT.pd n) (ns.map fun k => OT.leaf (nI k)) = some (ns.map fun (k : Nat) => PyData.int (k : Int)) := by
  induction ns with
  | nil => rfl
  | cons k ns ih =>
    rw [List.map_cons, allOfT, ih]
    cases n <;> rfl
theorem w_setP (C : Nat) (f : Str) (e : DE) (ks : List Str) (ts : List OT) (rest : Env) (Z : DK) : mSetP C f (plN 0) e (some (.nw (.ins C ks ts)) :: rest) Z =
    e (some (.nw (.ins C ks ts)) :: rest) fun r => ∃ t, r.item = some t ∧ ks.length < 1000 ∧ ks.length = ts.length ∧ Z.nx (some (.nw (.ins C (putK f t ks ts).1 (putK f t ks ts).2)) :: rest) := by
  unfold mSetP
  congr 1
  funext r
  refine propext ⟨fun ⟨_, t, ks', ts', h1, h2, h3, h4, h5⟩ => ?_, fun ⟨t, h1, h2, h3, h4⟩ => ⟨⟨_, rfl⟩, t, ks, ts, h1, rfl, h2, h3, h4⟩⟩
  have h2 : some (OT.ins C ks ts) = some (.ins C ks' ts') := h2
  cases h2
  exact ⟨t, h1, h3, h4, h5⟩
theorem pk0 {g : Str} {t : OT} : putK g t [] [] = ([g], [t]) := rfl
end R
namespace R
/-- one statement at a time -/
theorem s_seq {a b : DS} {env : Env} {Z : DK} (h : ∀ K : Env → Prop, (∀ e, b e Z → K e) → a env { Z with nx := K }) : mSeq a b env Z := h (fun e => b e Z) (fun _ q => q)
end R
namespace R
theorem gT2_arg {i j : Nat} {env : Env} {x y : D} {Q : Env → Prop} (h : Q ((env.set i (some (.fz x))).set j (some (.fz y)))) : gT [gN i, gN j] env (pairR x y).arg Q := ⟨_, rfl, rfl, trivial, trivial, h⟩
theorem gT2 {i j : Nat} {env : Env} {x y : D} {Q : Env → Prop} (h : Q ((env.set i (some (.fz x))).set j (some (.fz y)))) : gT [gN i, gN j] env (pairR x y) Q := ⟨_, rfl, rfl, trivial, trivial, h⟩
theorem gT2_fz {i j : Nat} {env : Env} {x y : D} {Q : Env → Prop} (h : Q ((env.set i (some (.fz x))).set j (some (.fz y)))) : gT [gN i, gN j] env (.fz (.tup [x, y])) Q := ⟨_, rfl, rfl, trivial, trivial, h⟩
theorem gT3_fz {i j k : Nat} {env : Env} {x y z : D} {Q : Env → Prop} (h : Q (((env.set i (some (.fz x))).set j (some (.fz y))).set k (some (.fz z)))) : gT [gN i, gN j, gN k] env (.fz (.tup [x, y, z])) Q := ⟨_, rfl, rfl, trivial, trivial, trivial, h⟩
theorem getD_nI {ns : List Nat} {n : Nat} (h : n < ns.length) : (ns.map nI).getD n .non = nI (pk ns n) := by
  rw [List.getD_eq_getElem?_getD, List.getElem?_map, List.getElem?_eq_getElem h, pk_lt h] <;> rfl
end R
namespace R
open PySem
theorem w_rep (x : Int) (k : Int) (Q : Rs → Prop) (h0 : 0 ≤ k) (h1 : k < 1000000) (h : ∀ d, d = D.lst (List.replicate k.toNat (.int x)) → Q (.nw (.lst ((List.replicate k.toNat (D.int x)).map .leaf)))) : oMul (Rs.nw (.lst [.leaf (.int x)])).ffz (.fz (.int k)) Q := by
  have e := ffz_lst [D.int x]
  rw [show (Rs.nw (.lst [OT.leaf (.int x)])) = Rs.nw (.lst ([D.int x].map OT.leaf)) from rfl, e]
  refine ⟨[.int x], rfl, by omega, by omega, by rw [List.length_singleton]; unfold sizeL; omega, ?_⟩
  have e2 : (List.replicate k.toNat [D.int x]).flatten = List.replicate k.toNat (D.int x) := by
    generalize k.toNat = n
    induction n with
    | zero => rfl
    | succ n ih => rw [List.replicate_succ, List.replicate_succ, List.flatten_cons, ih] <;> rfl
  rw [e2]
  exact h _ rfl
theorem fz_lst (ds : List D) : Fz (.lst (ds.map .leaf)) (.lst ds) := .lst (FzAll.leafs ds)
theorem fz_tup (ds : List D) : Fz (.tup (ds.map .leaf)) (.tup ds) := .tup (FzAll.leafs ds)
end R
namespace R
open PySem
theorem irng0 (n : Nat) : irng 0 ((n : Int) - 0).toNat = ((List.range n).map nI).map .leaf := by
  unfold irng
  rw [show ((n : Int) - 0).toNat = n by omega, List.map_map]
  refine List.map_congr_left fun i _ => ?_
  show OT.leaf (.int (0 + (i : Int))) = _
  rw [Int.zero_add] <;> rfl
theorem irng1 (n : Nat) : irng 1 ((n : Int) - 1).toNat = ((List.range' 1 (n - 1)).map nI).map .leaf := by
  unfold irng
  rw [show ((n : Int) - 1).toNat = n - 1 by omega, List.map_map]
  apply List.ext_getElem
  · rw [List.length_map, List.length_map, List.length_range, List.length_range']
  · intro i h1 h2
    rw [List.getElem_map, List.getElem_map, List.getElem_range, List.getElem_range']
    show OT.leaf (.int (1 + (i : Int))) = OT.leaf (.int ((1 + 1 * i : Nat) : Int))
    rw [Int.natCast_add, Nat.one_mul] <;> rfl
theorem leaves_nI (ns : List Nat) : leaves (ns.map fun n => OT.leaf (nI n)) = some (ns.map nI) := by
  have := leaves_map (ns.map nI)
  rw [List.map_map] at this
  exact this
theorem leafs_nI (ns : List Nat) : (ns.map fun n => OT.leaf (nI n)) = (ns.map nI).map .leaf := by rw [List.map_map] <;> rfl
theorem fillN_succ {e : Nat → Nat × List Nat} : ∀ (n : Nat) (p : List Nat × List Nat), fillN e (n + 1) p = ((fillN e n p).1 ++ [pk (fillN e n p).2 (e (fillN e n p).2.length).1], (e (fillN e n p).2.length).2.map (pk (fillN e n p).2))
  | 0, p => rfl
  | n + 1, p => by
    have := fillN_succ (e := e) n (p.1 ++ [pk p.2 (e p.2.length).1], (e p.2.length).2.map (pk p.2))
    exact this
/-- behind i entries -/
theorem fill_at {sz fw : List Nat} {c n i : Nat} (C : Cups sz fw c) (hcl : c < sz.length) (hs : 1 ≤ pk sz c) (h : least sz (c + 1) ≤ n) (hi : i ≤ pk sz c) : (fillN (ent sz fw c) i ([], List.range n)).1.length = i ∧ (fillN (ent sz fw c) i ([], List.range n)).2.length = n - i ∧ (i < pk sz c → least sz c ≤ n - i) := by
  rw [least_succ hcl] at h
  have h1 : 1 ≤ least sz c := by unfold least; omega
  obtain ⟨a, b⟩ := fillN_perm (e := ent sz fw c) i ([], List.range n) (fun k hk => by
    show Pm (ent sz fw c ((List.range n).length - k)) ((List.range n).length - k)
    rw [List.length_range]
    exact ent_perm C (by omega)) (by show i ≤ (List.range n).length; rw [List.length_range]; omega)
  have b2 : (fillN (ent sz fw c) i ([], List.range n)).1.length = 0 + i := b
  have a2 := a.length_eq
  rw [List.length_append, List.length_append, List.length_range] at a2
  have a3 : (fillN (ent sz fw c) i ([], List.range n)).1.length + (fillN (ent sz fw c) i ([], List.range n)).2.length = 0 + n := a2
  exact ⟨by omega, by omega, fun h => by omega⟩
end R
namespace R
open PySem
theorem ixN_nat {n j : Nat} (h : j < n) : ixN' n (j : Int) = some j := by
  unfold ixN'
  rw [if_pos (by omega), if_pos (by omega), Int.toNat_natCast]
theorem get_leaf {ns : List Nat} {j : Nat} (h : j < ns.length) : (ns.map fun n => OT.leaf (nI n))[j]? = some (.leaf (nI (pk ns j))) := by
  rw [List.getElem?_map, List.getElem?_eq_getElem h, pk_lt h] <;> rfl
theorem erase_leaf (ns : List Nat) (j : Nat) : (ns.map fun n => OT.leaf (nI n)).eraseIdx j = (ns.eraseIdx j).map fun n => OT.leaf (nI n) := (erase_map _ ns j).symm
end R
namespace R
open PySem
theorem w_tuple_nw {ds : List D} {Q : Rs → Prop} (h : Q (.fz (.tup ds))) : oTuple [(Rs.nw (.lst (ds.map .leaf))).ffz] Q := by
  rw [ffz_lst]
  exact ⟨ds, rfl, h⟩
end R
namespace R
open PySem
theorem cut_take {α : Type} {xs : List α} {c : Nat} (h : c ≤ xs.length) : cut' xs none (some (c : Int)) = xs.take c := by
  simp only [cut', sIx', List.drop_zero, Nat.sub_zero]
  rw [if_neg (by omega), Int.toNat_natCast, Nat.min_eq_left h]
theorem cut_last {α : Type} (xs : List α) : cut' xs none (some (-1)) = xs.take (xs.length - 1) := by
  simp only [cut', sIx', List.drop_zero, Nat.sub_zero]
  rw [if_pos (by omega)]
  congr 1
  omega
theorem cut_from {α : Type} {xs : List α} {c : Nat} (h : c ≤ xs.length) : cut' xs (some (c : Int)) none = xs.drop c := by
  simp only [cut', sIx']
  rw [if_neg (by omega), Int.toNat_natCast, Nat.min_eq_left h, List.take_of_length_le]
  rw [List.length_drop]
  omega
theorem sum_pred : ∀ {l : List Nat}, (∀ s ∈ l, 1 ≤ s) → (l.map (· - 1)).sum + l.length = l.sum
  | [], _ => rfl
  | x :: l, h => by
    have ih := sum_pred (l := l) fun s m => h s (List.mem_cons_of_mem _ m)
    have := h x List.mem_cons_self
    rw [List.map_cons, List.sum_cons, List.sum_cons, List.length_cons]
    omega
theorem least_sum {sz fw : List Nat} {c : Nat} (C : Cups sz fw c) : least sz c + c = (sz.take c).sum + 1 := by
  have := sum_pred (l := sz.take c) fun s m => by
    obtain ⟨i, hi, e⟩ := List.getElem_of_mem m
    rw [List.length_take] at hi
    have := C.s1 i (by omega)
    rw [pk_lt (by omega)] at this
    rw [List.getElem_take] at e
    omega
  have hl := C.l1
  rw [List.length_take, Nat.min_eq_left hl] at this
  unfold least
  omega
theorem w_sum_tup {ns : List Nat} {Q : Rs → Prop} (h : Q (.fz (.int (ns.sum : Nat)))) : oSum [.fz (.tup (ns.map nI))] Q := ⟨_, ints_nI ns, by rw [sum_cast]; exact h⟩
end R
namespace R
open PySem
theorem kids_nw (ds : List D) (Q : Bool → List Rs → Prop) (h : Q true (ds.map .fz)) : ∃ ts, (Rs.nw (.lst (ds.map .leaf))).ffz.t.kids = some ts ∧ Q (Rs.nw (.lst (ds.map .leaf))).ffz.stays (ts.map (Rs.kid (Rs.nw (.lst (ds.map .leaf))).ffz)) := by
  rw [ffz_lst]
  exact ⟨_, rfl, by rw [kid_leafs]; exact h⟩
theorem snoc_leaf (ns : List Nat) (k : Nat) : (ns.map fun n => OT.leaf (nI n)) ++ [OT.leaf (nI k)] = (ns ++ [k]).map fun n => OT.leaf (nI n) := by rw [List.map_append] <;> rfl
theorem pk_snoc {l : List Nat} {x i : Nat} : pk (l ++ [x]) i = if i < l.length then pk l i else if i = l.length then x else 0 := by
  unfold pk
  rw [List.getD_eq_getElem?_getD, List.getD_eq_getElem?_getD, List.getElem?_append]
  by_cases h : i < l.length
  · rw [if_pos h, if_pos h]
  · rw [if_neg h, if_neg h]
    by_cases h2 : i = l.length
    · rw [if_pos h2, h2, Nat.sub_self] <;> rfl
    · rw [if_neg h2, List.getElem?_eq_none (by rw [List.length_singleton]; omega)] <;> rfl
end R
namespace R
open PySem
def encC (cts : List (List Nat)) : List OT := cts.map fun c => OT.lst (c.map fun n => .leaf (nI n))
theorem encC_get {cts : List (List Nat)} {j : Nat} (h : j < cts.length) : (encC cts)[j]? = some (.lst (cts[j].map fun n => .leaf (nI n))) := by
  unfold encC
  rw [List.getElem?_map, List.getElem?_eq_getElem h] <;> rfl
theorem encC_set (cts : List (List Nat)) (j : Nat) (c : List Nat) : (encC cts).set j (.lst (c.map fun n => .leaf (nI n))) = encC (cts.set j c) := by
  unfold encC
  rw [List.map_set]
def tot (cts : List (List Nat)) : Nat := (cts.map List.length).sum
theorem casc_tot : ∀ {ss fs : List Nat} {cs : List (List Nat)} {m : Nat} {q : List Nat}, (∀ i, i < ss.length → pk fs i < pk ss i) → (casc ss fs cs m q).2.1.length + tot (casc ss fs cs m q).1 ≤ q.length + tot cs + 1
  | [], _, cs, m, q, _ => by rw [casc]; exact Nat.le_succ _; intro _ _ _ _ _ _ e; cases e
  | _ :: _, [], cs, m, q, _ => by rw [casc]; exact Nat.le_succ _; intro _ _ _ _ _ _ _ e; cases e
  | _ :: _, _ :: _, [], m, q, _ => by rw [casc]; exact Nat.le_succ _; intro _ _ _ _ _ _ _ _ e; cases e
  | s :: ss, f :: fs, c :: cs, m, q, h => by
    rw [casc]
    have h0 : f < s := h 0 (by simp)
    split
    · rename_i hc
      have ih := @casc_tot ss fs cs (pk (c ++ [m]) f) (q ++ (c ++ [m]).eraseIdx f) (fun i hi => h (i + 1) (by simpa using hi))
      rw [List.length_append, List.length_eraseIdx, List.length_append, List.length_singleton, if_pos (by omega)] at ih
      show (casc ss fs cs (pk (c ++ [m]) f) (q ++ (c ++ [m]).eraseIdx f)).2.1.length + (0 + tot (casc ss fs cs (pk (c ++ [m]) f) (q ++ (c ++ [m]).eraseIdx f)).1) ≤ q.length + (c.length + tot cs) + 1
      omega
    · show q.length + ((c ++ [m]).length + tot cs) ≤ q.length + (c.length + tot cs) + 1
      rw [List.length_append, List.length_singleton]
      omega
theorem drop_get {α : Type} {l : List α} {j : Nat} (h : j < l.length) : l.drop j = l[j] :: l.drop (j + 1) := List.drop_eq_getElem_cons h
theorem take_set_eq {l : List (List Nat)} {j : Nat} {x : List Nat} (h : j < l.length) : (l.set j x).take (j + 1) = l.take j ++ [x] ∧ (l.set j x).drop (j + 1) = l.drop (j + 1) := by
  constructor
  · rw [List.take_add_one, List.take_set_of_le (Nat.le_refl j), List.getElem?_set_self h] <;> rfl
  · rw [List.drop_set_of_lt (Nat.lt_succ_self j)]
end R
namespace R
open PySem
theorem it_sl {i : Nat} {env : Env} {ds : List D} {lo hi : DO} {l h : Option Int} {Q : Bool → List Rs → Prop} (e : env[i]? = some (some (.fz (.lst ds)))) (hl : ∀ Q' : Option Int → Prop, Q' l → lo env Q') (hh : ∀ Q' : Option Int → Prop, Q' h → hi env Q') (q : Q true ((cut' ds l h).map .fz)) : mItL (mSl (mVar i) lo hi) env Q := by
  refine ⟨_, e, hl _ (hh _ ?_)⟩
  show oSl (.fz (.lst ds)) l h _
  refine ⟨ds, rfl, ?_⟩
  exact kids_nw _ (fun b xs => Q b xs) q
end R
namespace R
open PySem
theorem tot_set : ∀ {l : List (List Nat)} {j : Nat} (h : j < l.length) (x : List Nat), tot (l.set j x) + l[j].length = tot l + x.length
  | [], j, h, _ => absurd h (Nat.not_lt_zero j)
  | a :: l, 0, _, x => by
    show x.length + tot l + a.length = a.length + tot l + x.length
    omega
  | a :: l, j + 1, h, x => by
    have h2 : j < l.length := by simpa using h
    have ih := tot_set h2 x
    show a.length + tot (l.set j x) + l[j].length = a.length + tot l + x.length
    omega
theorem tot_le : ∀ {l : List (List Nat)} {j : Nat} (h : j < l.length), l[j].length ≤ tot l
  | [], j, h => absurd h (Nat.not_lt_zero j)
  | a :: l, 0, _ => Nat.le_add_right _ _
  | a :: l, j + 1, h => Nat.le_trans (tot_le (l := l) (j := j) (by simpa using h)) (Nat.le_add_left _ _)
theorem Run.inv {ss fs : List Nat} {m : Nat} {cts : List (List Nat)} {q : List Nat} {mE : Nat} {qE : List Nat} (r : Run ss fs m cts q mE qE) : ∃ x q0, q = x :: q0 ∧ ((∃ cs', casc ss fs cts x q0 = (cs', qE, some mE) ∧ m = 1) ∨ ∃ cs' q1 m', casc ss fs cts x q0 = (cs', q1, none) ∧ Run ss fs m' cs' q1 mE qE ∧ m = m' + 1) := by
  cases r with
  | done e h => exact ⟨_, _, rfl, .inl ⟨_, e, rfl⟩⟩
  | step e r => exact ⟨_, _, rfl, .inr ⟨_, _, _, e, r, rfl⟩⟩
theorem pk_drop {l : List Nat} {j : Nat} (h : j < l.length) : l.drop j = pk l j :: l.drop (j + 1) := by rw [pk_lt h]; exact List.drop_eq_getElem_cons h
/-- one cup on -/
theorem casc_go {ss fs : List Nat} {cts : List (List Nat)} {x j : Nat} {q : List Nat} (h1 : j < ss.length) (h2 : j < fs.length) (h3 : j < cts.length) (e : cts[j].length + 1 = pk ss j) :
    (cts.take j ++ (casc (ss.drop j) (fs.drop j) (cts.drop j) x q).1, (casc (ss.drop j) (fs.drop j) (cts.drop j) x q).2) = ((cts.set j []).take (j + 1) ++ (casc (ss.drop (j + 1)) (fs.drop (j + 1)) ((cts.set j []).drop (j + 1)) (pk (cts[j] ++ [x]) (pk fs j)) (q ++ (cts[j] ++ [x]).eraseIdx (pk fs j))).1, (casc (ss.drop (j + 1)) (fs.drop (j + 1)) ((cts.set j []).drop (j + 1)) (pk (cts[j] ++ [x]) (pk fs j)) (q ++ (cts[j] ++ [x]).eraseIdx (pk fs j))).2) := by
  obtain ⟨a, b⟩ := take_set_eq (x := []) h3
  rw [a, b, pk_drop h1, pk_drop h2, drop_get h3, casc, if_pos e, List.append_assoc]
  rfl
theorem casc_stay {ss fs : List Nat} {cts : List (List Nat)} {x j : Nat} {q : List Nat} (h1 : j < ss.length) (h2 : j < fs.length) (h3 : j < cts.length) (e : ¬ cts[j].length + 1 = pk ss j) :
    (cts.take j ++ (casc (ss.drop j) (fs.drop j) (cts.drop j) x q).1, (casc (ss.drop j) (fs.drop j) (cts.drop j) x q).2) = (cts.set j (cts[j] ++ [x]), q, none) := by
  rw [pk_drop h1, pk_drop h2, drop_get h3, casc, if_neg e]
  show (cts.take j ++ ((cts[j] ++ [x]) :: cts.drop (j + 1)), q, none) = _
  rw [List.set_eq_take_append_cons_drop, if_pos h3]
theorem casc_end {ss fs : List Nat} {cts : List (List Nat)} {x : Nat} {q : List Nat} : (cts.take cts.length ++ (casc (ss.drop ss.length) fs (cts.drop cts.length) x q).1, (casc (ss.drop ss.length) fs (cts.drop cts.length) x q).2) = (cts, q, some x) := by
  rw [List.drop_length, List.drop_length, List.take_length, casc, List.append_nil]
  intro _ _ _ _ _ _ e; cases e
theorem cut_erase {α : Type} {l : List α} {i : Nat} (h : i < l.length) : cut' l none (some (i : Int)) ++ cut' l (some ((i : Int) + 1)) none = l.eraseIdx i := by
  have e : ((i : Int) + 1) = ((i + 1 : Nat) : Int) := by omega
  rw [e, cut_take (by omega), cut_from (by omega), List.eraseIdx_eq_take_drop_succ]
end R
namespace R
theorem while_of {t : DT} {a : DS} {env : Env} {Z : DK} (Wm : Nat → Env → Prop) (m : Nat) (h0 : Wm m env) (step : ∀ m e, Wm m e → ∃ b : Bool, (∀ P : Bool → Prop, P b → t e P) ∧ (b = true → a e { Z with nx := fun e' => ∃ m', m' < m ∧ Wm m' e', ct := fun e' => ∃ m', m' < m ∧ Wm m' e', bk := Z.nx }) ∧ (b = false → Z.nx e)) : mWhile t a env Z :=
  ⟨Wm, ⟨m, h0⟩, fun m e h => by
    obtain ⟨b, h1, h2, h3⟩ := step m e h
    refine h1 _ ?_
    cases b with
    | true => rw [if_pos rfl]; exact h2 rfl
    | false => rw [if_neg Bool.false_ne_true]; exact h3 rfl⟩
theorem while_true {a : DS} {env : Env} {Z : DK} (Wm : Nat → Env → Prop) (m : Nat) (h0 : Wm m env) (step : ∀ m e, Wm m e → a e { Z with nx := fun e' => ∃ m', m' < m ∧ Wm m' e', ct := fun e' => ∃ m', m' < m ∧ Wm m' e', bk := Z.nx }) : mWhile (mT (mC (.bl true))) a env Z :=
  while_of Wm m h0 fun m e h => ⟨true, fun _ p => p, fun _ => step m e h, fun h => nomatch h⟩
end R
namespace R
open PySem
theorem w_add_nw {a b : List D} {Q : Rs → Prop} (hl : a.length + b.length ≤ sizeL) (h : Q (.nw (.lst ((a ++ b).map .leaf)))) : oAdd (Rs.nw (.lst (a.map .leaf))).ffz (Rs.nw (.lst (b.map .leaf))).ffz Q := by
  rw [ffz_lst, ffz_lst]
  exact .inl ⟨a, b, rfl, rfl, hl, h⟩
theorem w_add_fn {a b : List D} {Q : Rs → Prop} (hl : a.length + b.length ≤ sizeL) (h : Q (.nw (.lst ((a ++ b).map .leaf)))) : oAdd (.fz (.lst a)) (Rs.nw (.lst (b.map .leaf))).ffz Q := by
  rw [ffz_lst]
  exact .inl ⟨a, b, rfl, rfl, hl, h⟩
theorem cut_len {α : Type} (l : List α) (a b : Option Int) : (cut' l a b).length ≤ l.length := by
  unfold cut'
  rw [List.length_take, List.length_drop]
  omega
theorem encC_len (cts : List (List Nat)) : (encC cts).length = cts.length := by unfold encC; rw [List.length_map]
end R
namespace R
open PySem
theorem w_sum_nw {ns : List Nat} {Q : Rs → Prop} (h : Q (.fz (.int (ns.sum : Nat)))) : oSum [(Rs.nw (.lst ((ns.map nI).map .leaf))).ffz] Q := by
  rw [ffz_lst]
  exact ⟨ns.map nI, _, rfl, ints_nI ns, by rw [sum_cast]; exact h⟩
theorem least_le {sz : List Nat} {c : Nat} (h : ∀ s ∈ sz, 1 ≤ s) (hm : sz.sum ≤ sz.length + 30) : least sz c ≤ 31 := by
  have e := sum_pred h
  have e2 : ((sz.take c).map (· - 1)).sum + ((sz.drop c).map (· - 1)).sum = (sz.map (· - 1)).sum := by
    rw [← List.sum_append, ← List.map_append, List.take_append_drop]
  unfold least
  omega
/-- the answer of block_order, as a datum -/
def ansP (a : Nat) (l : List Nat) : PyData := .tuple [.int (a : Int), .list (l.map fun (k : Nat) => .int (k : Int))]
theorem ans_pd (a : Nat) (l : List Nat) : (R.D.tup [nI a, nL l]).pd 8 = some (ansP a l) := by
  show (allOf (D.pd 7) [nI a, nL l]).map PyData.tuple = _
  rw [allOf, allOf, allOf]
  show (Option.bind (some (PyData.int (a : Int))) fun x => Option.map (fun y => x :: y) (Option.bind ((allOf (D.pd 6) (l.map nI)).map PyData.list) fun y => some [y])).map PyData.tuple = _
  rw [pd_ints] <;> rfl
theorem ans_pd1 (a : Nat) (l : List Nat) : (OT.tup [.leaf (nI a), .lst (l.map fun n => .leaf (nI n))]).pd 8 = some (ansP a l) := by
  rw [OT.pd, allOfT, allOfT, allOfT, OT.pd, OT.pd, pdT_ints] <;> rfl
theorem ans_pd2 (a : Nat) (l : List Nat) : (OT.tup [.leaf (nI a), .leaf (nL l)]).pd 8 = some (ansP a l) := by
  rw [OT.pd, allOfT, allOfT, allOfT, OT.pd, OT.pd]
  show (Option.bind (some (PyData.int (a : Int))) fun x => Option.map (fun y => x :: y) (Option.bind ((allOf (D.pd 6) (l.map nI)).map PyData.list) fun y => some [y])).map PyData.tuple = _
  rw [pd_ints] <;> rfl
end R
namespace R
open PySem
theorem ffz_lst' {ds : List D} : (Rs.nw (.lst (ds.map .leaf))).lend = .fz (.lst ds) := by
  unfold Rs.lend
  rw [ffz_lst] <;> rfl
end R
namespace R
open PySem
theorem mOr_ff {t u : DT} {env : Env} {Q : Bool → Prop} (h1 : ∀ P : Bool → Prop, P false → t env P) (h2 : ∀ P : Bool → Prop, P false → u env P) (q : Q false) : mOr t u env Q := h1 _ (by rw [if_neg Bool.false_ne_true]; exact h2 _ q)
theorem mIfS_ff {t : DT} {a b : DS} {env : Env} {Z : DK} (h1 : ∀ P : Bool → Prop, P false → t env P) (q : b env Z) : mIfS t a b env Z := h1 _ (by rw [if_neg Bool.false_ne_true]; exact q)
end R
namespace R
open PySem
theorem ffz_ans (a : Nat) (l : List Nat) : (Rs.nw (.tup [.leaf (nI a), .lst (l.map fun n => .leaf (nI n))])).ffz = .fz (.tup [nI a, nL l]) := by
  show (match (OT.tup [.leaf (nI a), .lst (l.map fun n => .leaf (nI n))]).fzd with | some d => Rs.fz d | none => _) = _
  rw [OT.fzd, fzdAll, fzdAll, fzdAll, OT.fzd, leafs_nI, fzd_lst] <;> rfl
end R
namespace R
open PySem PySem.Spec PyProof.Rows L2 in
theorem hu_R {A : Around} {k : Nat} (hr : Room k A) : A.units + 64 < cLine := hr.units
end R
/-! ## the head's Hook with what isinstance of an own class asks -/
namespace R
open PySem PySem.Spec PyProof.Rows L2
def isB (K : PySem.W.Frag) (x : Str) : Bool := He.eqO (PySem.W.findIn K (.ref (He.ga K x)) "__class__") (some (some (.builtin "object.__class__"))) && (He.eqO (PySem.W.specialIn K (.builtin "object.__class__") "__get__") (some (some (.builtin "getset_descriptor.__get__"))) &&
  (decide (PySem.W.takesIn K (.builtin "object.__class__") = some true) && decide (PySem.W.mroIn K (He.ga K x) (.type "object") = some true)))
theorem isB_ok {K : PySem.W.Frag} {x : Str} (h : isB K x = true) (c : Cls K (He.ga K x)) : IsC K (He.ga K x) := by
  obtain ⟨h1, h2⟩ := He.ba h
  obtain ⟨h2, h3⟩ := He.ba h2
  obtain ⟨h3, h4⟩ := He.ba h3
  refine ⟨c, He.eqO_ok h1, He.eqO_ok h2, of_decide_eq_true h3, of_decide_eq_true h4, ?_⟩
  unfold PySem.W.kitOne
  rw [if_pos (beq_self_eq_true _)]
def hookE (n : Nat) (fa : List He.Fa) (fn : List He.DefD) (is : List Str) : PySem.W.Hook where
  α := He.AlD × Bool
  obs := fun s => (He.obsDG n fa fn s.heap.get?, is.all (isB (He.frG s.heap.get? (He.asD s.heap.get? n))))
  val := fun _ => (He.valD fn, true)
  says := fun _ h => ∃ K : PySem.W.Frag, K.In h ∧ He.SaysD fa fn K ∧ is.all (isB K) = true
  of := fun _ _ e => ⟨_, He.frG_in, congrArg (fun z : He.AlD × Bool => z.1) e, congrArg (fun z : He.AlD × Bool => z.2) e⟩
  keeps := fun _ _ _ ⟨K, hK, c⟩ k => ⟨K, PySem.W.Frag.In.keeps hK k, c⟩
def obsE (n : Nat) (fa : List He.Fa) (fn : List He.DefD) (is : List Str) (g : Addr → Option Obj) : He.AlD × Bool := (He.obsDG n fa fn g, is.all (isB (He.frG g (He.asD g n))))
theorem obsE_eq {n : Nat} {fa : List He.Fa} {fn : List He.DefD} {is : List Str} {g : Addr → Option Obj} {s : Shared} (h : ∀ a, g a = s.heap.get? a) : obsE n fa fn is g = (hookE n fa fn is).obs s := by
  have e : g = s.heap.get? := funext h
  rw [e] <;> rfl
end R
/-! ## the law's def at its script -/
namespace R
open PySem PySem.Spec PyProof.Rows L2
theorem sp_end {K : PySem.W.Frag} {F : Spec1} {H : Hp} {a : Addr} {ns : List Int} {E : XK} (hS : SqL K H a (ns.map .int)) (h : ∀ Q : Rs → Prop, Q (.fz (.bl true)) → F [some (.fz (.rol (ns.map D.int)))] Q) : spR K 1 F.io [.ref a] H (fun v _ => v = .bl true) E := by
  have rp : ∀ ns : List Int, RepAll K ⟨H, fun _ => none⟩ (ns.map V.int) (ns.map D.int) := fun ns => by
    induction ns with
    | nil => exact .nil
    | cons n ns ih => exact .cons (.int n) ih
  refine ⟨rfl, ⟨H, fun _ => none⟩, _, [], [], fun r _ => r = .fz (.bl true), .fz (.rol hS (rp ns)) .nil, ⟨fun _ _ e => e, fun _ _ _ e => (by cases e), List.nodup_nil, fun _ m => (by cases m), fun _ m => (by cases m)⟩, h _ rfl, ?_⟩
  intro r ss' e v W' H' fp' xf' _ _ _ _ ro
  subst e
  cases ro
  rfl
end R
/-! ## sorted, in, index, clear -/
namespace R
open PySem PySem.Spec PyProof.Rows L2
def oSorted : List Rs → (Rs → Prop) → Prop
  | [r], Q => ∃ ds ns, r.els true = some ds ∧ allOf D.int? ds = some ns ∧ ns.length < 64 ∧ ∀ ns' : List Int, ns'.Perm ns → ns'.Pairwise (· ≤ ·) → Q (.nw (.lst ((ns'.map D.int).map .leaf)))
  | _, _ => False
/-- x in xs: a list or tuple of ints, of texts -/
def oIn (neg : Bool) (x y : Rs) (Q : Rs → Prop) : Prop := ∃ ds, (y.els true = some ds ∨ y.els false = some ds) ∧
  ((∃ i ns, x = .fz (.int i) ∧ allOf D.int? ds = some ns ∧ Q (.fz (.bl (decide (i ∈ ns) != neg)))) ∨ ∃ z xs, x = .fz (.str z) ∧ allOf D.str? ds = some xs ∧ Q (.fz (.bl (decide (z ∈ xs) != neg))))
/-- the first place -/
def oIdxF (ds : List D) (y : Rs) (Q : Rs → Prop) : Prop := ∃ j : Nat, ((∃ i ns, y = .fz (.int i) ∧ allOf D.int? ds = some ns ∧ ns[j]? = some i ∧ ∀ m, m < j → ns[m]? ≠ some i) ∨
  ∃ z xs, y = .fz (.str z) ∧ allOf D.str? ds = some xs ∧ xs[j]? = some z ∧ ∀ m, m < j → xs[m]? ≠ some z) ∧ Q (.fz (.int (j : Int)))
def mIdx (a b : DE) : DE := fun env Q => a env fun x => ∃ ds, x.ffz.els true = some ds ∧ b env fun y => oIdxF ds y.ffz Q
/-- a.clear() -/
def mClear (a : DP) : DS := fun env D => a env fun i p => ∃ ts, tree env i p = some (.lst ts) ∧ D.nx (put env i p (.lst []))
section
variable {X : Cx} {a b c : Expr} {x : Str} {ma mb mc : DE} {pos : Pos} {mr : DA} {pr : List Nat} {pl : DP}
theorem rep_ints {K : PySem.W.Frag} {W : Wd} : ∀ ns : List Int, RepAll K W (ns.map V.int) (ns.map D.int)
  | [] => .nil
  | n :: ns => .cons (.int n) (rep_ints ns)
theorem dp_sorted {p : Pos} (hm : X.mg "sorted" = none) (ha : PA X [a] (LA X.K mr)) (hg : Gl X "sorted" := by rfl) (hs : starEach [a] X.env = (false, eval a X.env) :: starEach [] X.env := by rfl) : PE X (.Call (.Name "sorted" p) [a] [] pos) (LP X.K (mB oSorted mr)) :=
  dp_callB cr_sorted (fun H Q W fp xf Q0 rs vs W2 H2 g hr O os F => by
    unfold oSorted at hr
    split at hr
    · obtain ⟨ds, ns, e1, e2, h64, q⟩ := hr
      obtain ⟨v, rfl, o⟩ := os.one F
      obtain ⟨p, us, rfl, g, r⟩ := els_L e1 o O.S2
      have e3 := allOf_ints e2 r
      subst e3
      exact ⟨p, ns, rfl, .of g, h64, fun ns' l pm pw n => O.newL (q ns' pm pw) (rep_ints ns') l n⟩
    · exact hr.elim) hm (by decide +kernel) ha hg (hs := hs)
theorem inV_int (i : Int) (ns : List Int) : inV (.int i) (ns.map V.int) = decide (i ∈ ns) := by
  unfold inV
  rw [List.any_map]
  induction ns with
  | nil => rfl
  | cons n ns ih =>
    rw [List.any_cons, ih]
    show ((n == i) || decide (i ∈ ns)) = decide (i ∈ n :: ns)
    by_cases h : n = i
    · subst h; simp
    · rw [beq_false_of_ne h, Bool.false_or]
      simp [List.mem_cons, Ne.symm h]
theorem inV_str (i : Str) (ns : List Str) : inV (.str i) (ns.map V.str) = decide (i ∈ ns) := by
  unfold inV
  rw [List.any_map]
  induction ns with
  | nil => rfl
  | cons n ns ih =>
    rw [List.any_cons, ih]
    show ((n == i) || decide (i ∈ ns)) = decide (i ∈ n :: ns)
    by_cases h : n = i
    · subst h; simp
    · rw [beq_false_of_ne h, Bool.false_or]
      simp [List.mem_cons, Ne.symm h]
theorem flat_ints (ns : List Int) : (ns.map V.int).all flatV = true := by
  rw [List.all_map]
  exact List.all_eq_true.mpr fun _ _ => rfl
theorem flat_strs (ns : List Str) : (ns.map V.str).all flatV = true := by
  rw [List.all_map]
  exact List.all_eq_true.mpr fun _ _ => rfl
theorem in_bne (neg b : Bool) : (if neg then !b else b) = (b != neg) := by cases neg <;> cases b <;> rfl
theorem r_in {σ : L2.St} {H : Hp} {Q : VK} {neg : Bool} (h : LP X.K (mOp (oIn neg) ma mb) σ H Q) : tOp (rIn X.K neg) (LP X.K ma) (LP X.K mb) σ H Q :=
  h.two fun W fp xf Q0 r1 r2 v1 v2 W2 H2 hr O o1 o2 => by
    obtain ⟨ds, hd, hr⟩ := hr
    have key : ∃ p vs, v2 = .ref p ∧ (SqL X.K H2 p vs ∨ SqT X.K H2 p vs) ∧ RepAll X.K W2 vs ds := by
      rcases hd with e | e
      · obtain ⟨p, vs, rfl, g, r⟩ := els_L e o2 O.S2
        exact ⟨p, vs, rfl, .inl (.of g), r⟩
      · obtain ⟨p, vs, rfl, g, r⟩ := els_T e o2 O.S2
        exact ⟨p, vs, rfl, .inr (.of g), r⟩
    obtain ⟨p, vs, rfl, g, r⟩ := key
    rcases hr with ⟨i, ns, rfl, e, q⟩ | ⟨i, ns, rfl, e, q⟩
    · have e3 := allOf_ints e r
      subst e3
      cases int_of o1
      refine ⟨p, _, rfl, g, rfl, flat_ints ns, ?_⟩
      rw [in_bne, inV_int]
      exact O.fin q (.bl _)
    · have e3 := allOf_strs e r
      subst e3
      cases str_of o1
      refine ⟨p, _, rfl, g, rfl, flat_strs ns, ?_⟩
      rw [in_bne, inV_str]
      exact O.fin q (.bl _)
theorem dp_in (ha : PE X a (LP X.K ma)) (hb : PE X b (LP X.K mb)) (hm : behindInMarks .In b = false := by rfl) : PE X (.Compare a [.In] [b] pos) (LP X.K (mOp (oIn false) ma mb)) := pe_imp (pe_cmpR op_in_seq ha hb hm) fun _ _ _ h => r_in h
theorem dp_notIn (ha : PE X a (LP X.K ma)) (hb : PE X b (LP X.K mb)) (hm : behindInMarks .NotIn b = false := by rfl) : PE X (.Compare a [.NotIn] [b] pos) (LP X.K (mOp (oIn true) ma mb)) := pe_imp (pe_cmpR op_notIn_seq ha hb hm) fun _ _ _ h => r_in h
theorem dt_in (ha : PE X a (LP X.K ma)) (hb : PE X b (LP X.K mb)) (hm : behindInMarks .In b = false := by rfl) : PT X (.Compare a [.In] [b] pos) (LT X.K (mT (mOp (oIn false) ma mb))) := dt_of op_in_seq (fun _ _ _ h => r_in h) ha hb hm
theorem dt_notIn (ha : PE X a (LP X.K ma)) (hb : PE X b (LP X.K mb)) (hm : behindInMarks .NotIn b = false := by rfl) : PT X (.Compare a [.NotIn] [b] pos) (LT X.K (mT (mOp (oIn true) ma mb))) := dt_of op_notIn_seq (fun _ _ _ h => r_in h) ha hb hm
theorem map_get_ne {α β : Type} {f : α → β} {xs : List α} {m : Nat} {z : β} (h : (xs.map f)[m]? = some z) : ∃ y, xs[m]? = some y ∧ z = f y := by
  rw [List.getElem?_map] at h
  cases e : xs[m]? with
  | none => rw [e] at h; cases h
  | some y => rw [e] at h; cases h; exact ⟨y, rfl, rfl⟩
/-- a.index(b) -/
theorem dp_index (ha : PE X a (LP X.K ma)) (hb : PE X b (LP X.K mb)) {apos p2 : Pos} (hst : starEach [b] X.env = (false, eval b X.env) :: starEach [] X.env := by rfl)
    (hbase : attributeBase a "index" X.env (eval a X.env) = eval a X.env := by rfl) (hfew : ((backTo p2 (starEach [b] X.env)).all (fun x => !x.1) && (backToKw p2 (keywordEach [] X.env)).all (fun x => x.1.isSome)
      && decide ([b].length + ([] : List Keyword).length + (if ([] : List Keyword).isEmpty then 0 else 1) < 30)) = true := by rfl) (hline : (apos.endLine == p2.line) = true := by rfl) :
    PE X (.Call (.Attribute a "index" apos) [b] [] p2) (LP X.K (mIdx ma mb)) := pe_imp (pe_bm PySem.F.plainAttrs_list PySem.F.slot_list_index PySem.F.type_list_index mt_index ha (da_cons hb da_nil hst) hbase hfew hline hst) fun σ H Q h => by
  obtain ⟨W, env, fp, xf, Q0, E, S, hm, k⟩ := h
  refine ⟨W, env, fp, xf, _, E, S, hm, fun r1 ⟨ds, e, h1⟩ v1 W1' H1 t1' S1' o1' => ?_⟩
  obtain ⟨W1, t1, S1, _, o1⟩ := ffz_ok S t1' S1' o1'
  obtain ⟨p, vs, rfl, g, rs⟩ := els_L e o1 S1
  refine ⟨.inl ⟨rfl, _, .of g⟩, ?_⟩
  refine LA.next (m := mCons mb mNil) (E.keep S t1) S1 (Q1 := one1 fun r => oIdxF ds r.ffz Q0) h1 fun us hr vs2 W2' H2 g2 t2' S2' E2 os G => ?_
  obtain ⟨r2, rfl, hq⟩ := one1_inv hr
  obtain ⟨v2, rfl, o2'⟩ := os.one G
  obtain ⟨W2, t2, S2, _, o2⟩ := ffz_ok S1 t2' S2' o2'
  have l := t2.le S1 fun _ m => by cases m
  have o3 := o1.keep t2 l
  obtain ⟨p', vs', ep, g', rs'⟩ := els_L e o3 S2
  cases ep
  obtain ⟨j, hj, q⟩ := hq
  have fin : Q (.int (j : Nat)) H2 := k _ q _ W2 H2 (t1.tr0 t2) S2 (.int _)
  rcases hj with ⟨i, ns, e2, e3, hj, hn⟩ | ⟨i, ns, e2, e3, hj, hn⟩
  · have e4 := allOf_ints e3 rs'
    subst e4
    rw [e2] at o2
    cases int_of o2
    refine ⟨p, _, .int i, j, .int i, rfl, rfl, .of g', rfl, flat_ints ns, by rw [List.getElem?_map, hj] <;> rfl, beq_self_eq_true i, fun m z' hm hz => ?_, fin⟩
    obtain ⟨y, ey, rfl⟩ := map_get_ne hz
    refine beq_false_of_ne fun z => hn m hm ?_
    rw [ey, z]
  · have e4 := allOf_strs e3 rs'
    subst e4
    rw [e2] at o2
    cases str_of o2
    refine ⟨p, _, .str i, j, .str i, rfl, rfl, .of g', rfl, flat_strs ns, by rw [List.getElem?_map, hj] <;> rfl, beq_self_eq_true i, fun m z' hm hz => ?_, fin⟩
    obtain ⟨y, ey, rfl⟩ := map_get_ne hz
    refine beq_false_of_ne fun z => hn m hm ?_
    rw [ey, z]
theorem ds_clear (ha : PE X a (LPl X.K pl)) {apos p2 : Pos} (hbase : attributeBase a "clear" X.env (eval a X.env) = eval a X.env := by rfl) (hline : (apos.endLine == p2.line) = true := by rfl)
    (hs : swapsWith (.Call (.Attribute a "clear" apos) [] [] p2) none pos.line X.env = pure false := by rfl) : PS X (.Expr (.Call (.Attribute a "clear" apos) [] [] p2) pos) (LS X.K pr (mClear pl)) :=
  ps_imp (ps_expr (pe_bm0 PySem.F.plainAttrs_list PySem.F.slot_list_clear PySem.F.type_list_clear mt_clear ha hbase hline) hs) fun D σ H h => by
  obtain ⟨W, env, fp, xf, K0, E, S, hm, nx, bk, ct, rt⟩ := h
  refine LPl.next E S hm fun i p ⟨ts, et, hn⟩ u W1 H1 t1 S1 E1 P => ?_
  obtain ⟨p0, vs0, g0, rfl, hp0, w0, nd0, sub0, kk⟩ := wr_list (pr := pr) E1 S1 P et
  obtain ⟨fp', E3, S3, st, y⟩ := kk [] [] [] .nil List.nodup_nil fun a m => by cases m
  refine ⟨.inl ⟨rfl, _, .of hp0⟩, p0, vs0, rfl, rfl, hp0, nx _ hn σ W1 _ fp' xf ⟨(t1.up).trans st fun a m => .inl m, E3, S3, fun a m => ?_, fun _ _ => rfl⟩⟩
  exact .inl ((y a m).elim id fun q => by cases q)
end
end R
namespace R
open PySem
theorem if_of {t : DT} {a b : DS} {env : Env} {Z : DK} (c : Bool) (ht : ∀ P : Bool → Prop, P c → t env P) (h1 : c = true → a env Z) (h0 : c = false → b env Z) : mIfS t a b env Z := ht _ (by
  cases c with
  | true => rw [if_pos rfl]; exact h1 rfl
  | false => rw [if_neg Bool.false_ne_true]; exact h0 rfl)
theorem perm_sorted : ∀ {l m : List Int}, l.Perm m → l.Pairwise (· ≤ ·) → m.Pairwise (· ≤ ·) → l = m
  | [], m, p, _, _ => (List.nil_perm.mp p).symm
  | x :: l, [], p, _, _ => absurd p.symm (by simp)
  | x :: l, y :: m, p, h1, h2 => by
    have e : x = y := by
      have a : x ∈ y :: m := p.mem_iff.mp List.mem_cons_self
      have b : y ∈ x :: l := p.mem_iff.mpr List.mem_cons_self
      have c1 : x ≤ y := by
        rcases List.mem_cons.mp b with b | b
        · omega
        · exact (List.pairwise_cons.mp h1).1 y b
      have c2 : y ≤ x := by
        rcases List.mem_cons.mp a with a | a
        · omega
        · exact (List.pairwise_cons.mp h2).1 x a
      omega
    subst e
    rw [perm_sorted (List.perm_cons x |>.mp p) (List.pairwise_cons.mp h1).2 (List.pairwise_cons.mp h2).2]
theorem range_sorted (n : Nat) : ((List.range n).map fun (k : Nat) => (k : Int)).Pairwise (· ≤ ·) := by
  rw [List.pairwise_map]
  exact List.Pairwise.imp (fun h => by omega) List.pairwise_lt_range
/-- sorted(a permutation of range(n)) -/
theorem sorted_range {n : Nat} {ns : List Nat} (h : ns.Perm (List.range n)) (hn : n < 64) {Q : Rs → Prop} (q : Q (.nw (.lst (((List.range n).map nI).map .leaf)))) : oSorted [.fz (.lst (ns.map nI))] Q := by
  refine ⟨_, _, rfl, ints_nI ns, by rw [List.length_map, h.length_eq, List.length_range]; exact hn, fun ns' p pw => ?_⟩
  have e : ns' = (List.range n).map fun (k : Nat) => (k : Int) := perm_sorted (p.trans (h.map _)) pw (range_sorted n)
  rw [e, show ((List.range n).map fun (k : Nat) => (k : Int)).map D.int = (List.range n).map nI from by rw [List.map_map] <;> rfl]
  exact q
theorem w_add_nf {a b : List D} {Q : Rs → Prop} (hl : a.length + b.length ≤ sizeL) (h : Q (.nw (.lst ((a ++ b).map .leaf)))) : oAdd (Rs.nw (.lst (a.map .leaf))).ffz (.fz (.lst b)) Q := by
  rw [ffz_lst]
  exact .inl ⟨_, _, rfl, rfl, hl, h⟩
/-- a block looks at the cups before its own alone -/
theorem ent_congr {sz fw sz' fw' : List Nat} : ∀ {c : Nat}, (∀ i, i < c → pk sz i = pk sz' i) → (∀ i, i < c → pk fw i = pk fw' i) → ∀ n, ent sz fw c n = ent sz' fw' c n
  | 0, _, _, _ => rfl
  | c + 1, h1, h2, n => by
    have ih : ent sz fw c = ent sz' fw' c := funext (ent_congr (fun i hi => h1 i (by omega)) fun i hi => h2 i (by omega))
    rw [ent, ent, ih, h1 c (by omega), h2 c (by omega)]
theorem pk_app {l m : List Nat} {i : Nat} (h : i < l.length) : pk (l ++ m) i = pk l i := by
  rw [pk_lt h, pk_lt (by rw [List.length_append]; omega), List.getElem_append_left h]
theorem pk_app2 {l m : List Nat} {i : Nat} (h : i < m.length) : pk (l ++ m) (l.length + i) = pk m i := by
  rw [pk_lt h, pk_lt (by rw [List.length_append]; omega), List.getElem_append_right (by omega)]
  congr 1
  omega
theorem pk_take {l : List Nat} {c i : Nat} (h : i < c) (h2 : i < l.length) : pk (l.take c) i = pk l i := by
  rw [pk_lt h2, pk_lt (by rw [List.length_take]; omega), List.getElem_take]
end R
namespace R
open PySem
theorem lst_pd (l : List Nat) : (R.D.lst (l.map nI)).pd 8 = some (.list (l.map fun (k : Nat) => PyData.int (k : Int))) := by
  show (allOf (D.pd 7) (l.map nI)).map PyData.list = _
  rw [pd_ints] <;> rfl
end R
/-! ## a dict of results held by a name; parallel stores; augmented stores -/
namespace R
open PySem PySem.Spec PyProof.Rows L2
/-- if (js) not in x: b; x[js] = e ; return x[js] -/
def mMemoV (i : Nat) (js : List Nat) (b : DS) (e : DE) : DS := fun env D => ∃ k ps keys d, env[i]? = some (some (.fz (.vol (k + 1) ps))) ∧ keysOf env js = some keys ∧ memo k ps keys = some d ∧
  (b env { nx := fun e' => e e' fun r => ∃ t, r.item = some t ∧ Fz t d, rt := fun _ _ => False }) ∧ ∀ e2, D.rt (.fz d) e2
structure MAtV (K : PySem.W.Frag) (W : Wd) (σ : L2.St) (i : Nat) (js : List Nat) (a : Addr) (k : Nat) (ps : List D) (keys : List Key) : Prop where
  o : σ[i]? = some (some (.ref a))
  s : W.S a = some (k + 1, ps)
  k : VarsAt σ js (keys.map kV)
section
variable {K : PySem.W.Frag} {W W1 W2 W' : Wd} {H H1 H2 H' : Hp} {fp xf : List Addr} {σ σ1 : L2.St} {env : Env} {i k : Nat} {js : List Nat} {a : Addr} {ps : List D} {keys : List Key}
theorem matv_of (E : EnvOk K W H σ env fp xf) (S : Sat K W H fp xf) (he : env[i]? = some (some (.fz (.vol (k + 1) ps)))) (hk : keysOf env js = some keys) : ∃ a, MAtV K W σ i js a k ps keys := by
  obtain ⟨v, ev, _, od⟩ := E.get he S
  have od := od _ rfl
  cases od with
  | vol h => exact ⟨_, ev, h, keys_at E S hk⟩
theorem MAtV.keep (M : MAtV K W σ i js a k ps keys) (l : W.Le W') (hi : σ1[i]? = σ[i]?) (hj : ∀ j ∈ js, σ1[j]? = σ[j]?) : MAtV K W' σ1 i js a k ps keys := ⟨by rw [hi]; exact M.o, l.s _ _ M.s, M.k.same hj⟩
end
/-- a block that ends with the store -/
def LXV (K : PySem.W.Frag) (pr : List Nat) (i : Nat) (js : List Nat) (b : DS) (e : DE) : TS := fun Z σ H => ∃ (W : Wd) (env : Env) (fp xf : List Addr) (d : D) (a : Addr) (k : Nat) (ps : List D) (keys : List Key), EnvOk K W H σ env fp xf ∧ Sat K W H fp xf ∧
  MAtV K W σ i js a k ps keys ∧ memo k ps keys = some d ∧ b env { nx := fun e' => e e' fun r => ∃ t, r.item = some t ∧ Fz t d, rt := fun _ _ => False } ∧
  ∀ e' σ' W' H' fp' xf', Post K W H fp pr σ σ' W' H' e' fp' xf' → Has K W' H' a keys d → Z.nx σ' H'
section
variable {X : Cx} {tg a b c o o1 o3 : Expr} {ma mb mc : DE} {pos p1 : Pos} {ta tb : DT} {st : Stmt} {rest s1 s2 : List Stmt} {m m1 m2 : DS} {pr pr0 : List Nat} {pl : DP} {x f : Str} {es es1 es3 : List Expr} {i : Nat} {js : List Nat}
/-- the dict and the key are read -/
theorem matv_var {σ : L2.St} {W : Wd} {H : Hp} {ad : Addr} {k : Nat} {ps : List D} {keys : List Key} {Q : VK} (M : MAtV X.K W σ i js ad k ps keys) (q : Q (.ref ad) H) : tVar i σ H Q := ⟨_, M.o, q⟩
theorem matv_key {σ : L2.St} {W : Wd} {H : Hp} {ad : Addr} {k : Nat} {ps : List D} {keys : List Key} {Q : VK} (M : MAtV X.K W σ i js ad k ps keys) (hl : js.length < 100) (q : ∀ p, H p = none → Q (.ref p) (upd H p (.tup (keys.map kV)))) : tTup (tVars js) σ H Q := by
  refine ⟨keys.map kV, M.k, ?_, q⟩
  rw [M.k.len, ← sizeL_eq]; unfold sizeL; omega
theorem dsxv_one {x1 : Nat} {tp : Pos} (hu : X.A.units + 1 < cLine) (ho : PE X o (tVar i)) (hk : PA X es (tVars js)) (he : PE X c (LP X.K mc)) (hl : js.length < 100 := by decide)
    (hs : swapsWith c (some (.Subscript o (.Tuple es x1 tp) p1)) pos.line X.env = pure false := by rfl) : PSs X [.Assign [.Subscript o (.Tuple es x1 tp) p1] c pos] (LXV X.K pr i js mNext mc) :=
  pss_one (ps_imp (ps_dput hu ho (pe_tup hk) he hs) fun D σ H h => by
  obtain ⟨W, env, fp, xf, d, ad, k, ps, keys, E, S, M, hm, hb, nx⟩ := h
  refine LP.next E S hb fun r ⟨t, ei, ez⟩ v W1 H1 t1 S1 E1 o1 => ?_
  obtain ⟨g, og, ndg, zg⟩ := item_own o1 ei
  have za : ∀ a ∈ g, a ∉ fp ∧ a ∉ xf := fun a m => ⟨fun m2 => (S.off a m2).2.2 (zg a m).1, fun m2 => (S.xof a m2).2.2 (zg a m).1⟩
  obtain ⟨W2, F, Rv, _⟩ := freeze og ez ndg fun a m => (zg a m).2
  have S2 := F.sat S1 (fun a m => ⟨(zg a m).2.1, (zg a m).2.2, og.alloc a m⟩) za
  have t2 : Stp W H [] W2 H1 := t1.trans F.stp fun a m => .inr (zg a m).1
  have E2 := E.keep S t2
  have M2 := M.keep (t2.le S fun _ m => by cases m) rfl fun _ _ => rfl
  refine matv_var M2 ?_
  refine matv_key M2 hl fun p n => ?_
  have S3 := S2.new (o := .tup (keys.map kV)) n
  have E3 := E2.keep S2 (.new (o := .tup (keys.map kV)) n)
  obtain ⟨g0, ob, hob, kvs, rfl, q2, q3⟩ := S3.vol ad _ _ M2.s
  obtain ⟨hlen, E4, S4, t4⟩ := wr_memo (keys := keys) E3 S3 M2.s hob Rv hm
  refine ⟨ad, _, rfl, DPut.t hob upd_same hlen, nx env σ W2 _ fp xf ⟨((t2.tr0 (.new n)).tr0 t4).up, E4, S4, fun a m => .inl m, fun _ _ => rfl⟩ ⟨_, v, upd_same, ?_, Rv⟩⟩
  rw [valV_put, if_pos rfl])
theorem dsxv_cons (h1 : PS X st (LS X.K pr m1)) (h2 : PSs X rest (LXV X.K pr i js m2 mc)) (hi : i ∈ pr := by decide) (hj : ∀ j ∈ js, j ∈ pr := by decide) : PSs X (st :: rest) (LXV X.K pr i js (mSeq m1 m2) mc) := pss_imp (pss_cons h1 h2) fun Z σ H h => by
  obtain ⟨W, env, fp, xf, d, ad, k, ps, keys, E, S, M, hm, hb, nx⟩ := h
  refine ⟨W, env, fp, xf, _, E, S, hb, fun e q σ' W' H' fp' xf' P => ?_, fun _ q => q.elim, fun _ q => q.elim, fun _ _ q => q.elim⟩
  refine ⟨W', e, fp', xf', d, ad, k, ps, keys, P.E, P.S, M.keep (P.t.le S fun a m => .inl m) (P.pr i hi) fun j m => P.pr j (hj j m), hm, q, fun e2 σ2 W2 H2 fp2 xf2 P2 hs => nx e2 σ2 W2 H2 fp2 xf2 (P.trans P2) hs⟩
/-- if k not in x: ..; x[k] = e; return x[k] -/
theorem dss_memoV {x1 x3 : Nat} {tp1 tp3 cp ip sp rp : Pos} {s : List Stmt} (hu : X.A.units + 1 < cLine) (ho1 : PE X o1 (tVar i)) (hk1 : PA X es1 (tVars js)) (ho3 : PE X o3 (tVar i)) (hk3 : PA X es3 (tVars js))
    (hb : PSs X s (LXV X.K pr i js m mc)) (hi : i ∈ pr := by decide) (hj : ∀ j ∈ js, j ∈ pr := by decide) (hp : ∀ j ∈ pr0, j ∈ pr := by decide) (hl : js.length < 100 := by decide) (hin : behindInMarks .NotIn o1 = false := by with_unfolding_all rfl) (hns : NoSl (.Tuple es3 x3 tp3) := by exact fun _ _ => rfl) :
    PSs X [.If (.Compare (.Tuple es1 x1 tp1) [.NotIn] [o1] cp) s [] ip, .Return (some (.Subscript o3 (.Tuple es3 x3 tp3) sp)) rp] (LS X.K pr0 (mMemoV i js m mc)) :=
  pss_imp (pss_cons (ps_if (pt_cmp (pc_dnotin hu (pe_tup hk1) ho1) hin) hb pss_nil) (pss_one (ps_ret (pe_dget hu ho3 (pe_tup hk3) hns)))) fun Z σ H h => by
  obtain ⟨W, env, fp, xf, K0, E, S, ⟨k, ps, keys, d, he, hk, hm, hb, hr⟩, nx, bk, ct, rt⟩ := h
  obtain ⟨ad, M⟩ := matv_of E S he hk
  have tail : ∀ {σ' : L2.St} {W' : Wd} {H' : Hp} {e' : Env} {fp' xf' : List Addr}, Post X.K W H fp pr σ σ' W' H' e' fp' xf' → Has X.K W' H' ad keys d → tRet (tDGet (tVar i) (tTup (tVars js))) Z σ' H' := by
    intro σ' W' H' e' fp' xf' P ⟨kvs, u, h1, h2, h3⟩
    have M' := M.keep (P.t.le S fun a m => .inl m) (P.pr i hi) fun j m => P.pr j (hj j m)
    unfold tRet tDGet
    refine matv_var M' ?_
    refine matv_key M' hl fun p n => ?_
    have hne : p ≠ ad := fun q => by rw [q, h1] at n; cases n
    refine ⟨ad, u, rfl, by rw [← h2]; exact DGet.t ((upd_ne (Ne.symm hne)).trans h1) upd_same, ?_⟩
    have P2 := P.trans (Post.pure (.new (o := .tup (keys.map kV)) n) (P.E.keep P.S (.new n)) (P.S.new n))
    exact rt _ e' (hr e') u σ' W' _ fp' xf' (P2.weak hp) h3
  unfold tSeq tIfS tB tDNotIn
  refine matv_key M hl fun p n => ?_
  have S1 := S.new (o := .tup (keys.map kV)) n
  have t1 : Stp W H [] W (upd H p (.tup (keys.map kV))) := .new n
  have E1 := E.keep S t1
  refine matv_var M ?_
  obtain ⟨g0, ob, hob, kvs, rfl, q2, q3⟩ := S1.vol ad _ _ M.s
  refine ⟨ad, valV kvs keys, rfl, DGet.t hob upd_same, _, rfl, ?_⟩
  cases z : valV kvs keys with
  | none =>
    refine iteT ⟨W, env, fp, xf, d, ad, k, ps, keys, E1, S1, M, hm, hb, fun e' σ' W' H' fp' xf' P hs => tail ((Post.pure t1 E1 S1).trans P) hs⟩
  | some u =>
    refine iteF (tail (.pure t1 E1 S1) ⟨kvs, u, hob, z, ?_⟩)
    have hmem : ∃ p ∈ kvs, p.1 = keys ∧ p.2 = u := by
      unfold valV at z
      obtain ⟨p, hp, e⟩ := Option.map_eq_some_iff.mp z
      exact ⟨p, List.mem_of_find?_eq_some hp, by simpa using List.find?_some hp, e⟩
    obtain ⟨p, hp, e1, e2⟩ := hmem
    obtain ⟨d', w1, w2⟩ := q3 p hp
    rw [e1, hm] at w1
    cases w1
    rw [← e2]
    exact w2
end
/-- x, y = a, b (frozen) -/
def mPar (i j : Nat) (a b : DE) : DS := fun env D => a env fun x => b env fun y => ∃ d e, x = .fz d ∧ y = .fz e ∧ D.nx ((env.set i (some (.fz d))).set j (some (.fz e)))
/-- two in a row -/
def par2 (P : Rs → Rs → Prop) : List Rs → Prop
  | [r, s] => P r s
  | _ => False
theorem par2_inv {P : Rs → Rs → Prop} : ∀ {rs : List Rs}, par2 P rs → ∃ r s, rs = [r, s] ∧ P r s
  | [r, s], h => ⟨r, s, rfl, h⟩
  | [], h => h.elim
  | [_], h => h.elim
  | _ :: _ :: _ :: _, h => h.elim
section
variable {X : Cx} {a b : Expr} {ma mb : DE} {pos : Pos} {pr : List Nat} {x y : Str}
theorem ds_par {i j : Nat} {px py pt : Pos} {kt k2 pt2} (hc : X.calm = true) (hN : X.N.Nodup) (hi : X.N[i]? = some x) (hj : X.N[j]? = some y) (hij : i ≠ j) (ha : PE X a (LP X.K ma)) (hb : PE X b (LP X.K mb))
    (hx : X.env.scope.names.lookup x = some .local := by rfl) (hy : X.env.scope.names.lookup y = some .local := by rfl) (hp : i ∉ pr := by decide) (hp2 : j ∉ pr := by decide)
    (h1 : starEach [a, b] X.env = (false, eval a X.env) :: starEach [b] X.env := by rfl) (h2 : starEach [b] X.env = (false, eval b X.env) :: starEach [] X.env := by rfl)
    (hw : swappedStores [.Tuple [.Name x px, .Name y py] kt pt] (.Tuple [a, b] k2 pt2) X.env = pure (some [x, y]) := by rfl) (hs : swapsWithSole [.Tuple [.Name x px, .Name y py] kt pt] (.Tuple [a, b] k2 pt2) pos.line X.env = pure false := by rfl) :
    PS X (.Assign [.Tuple [.Name x px, .Name y py] kt pt] (.Tuple [a, b] k2 pt2) pos) (LS X.K pr (mPar i j ma mb)) :=
  ps_imp (ps_par hc hN hi hj hij hx hy (da_cons ha (da_cons hb da_nil h2) h1) hw hs) fun D σ H h => by
  obtain ⟨W, env, fp, xf, K0, E, S, hm, nx, bk, ct, rt⟩ := h
  refine LA.next (m := mCons ma (mCons mb mNil)) E S (Q1 := par2 fun r s => ∃ d e, r = .fz d ∧ s = .fz e ∧ K0.nx ((env.set i (some (.fz d))).set j (some (.fz e)))) hm fun rs hr vs W1 H1 g t1 S1 E1 os F => ?_
  obtain ⟨r, s, rfl, d, e, rfl, rfl, hn⟩ := par2_inv hr
  obtain ⟨v, w, rfl, o1, o2⟩ := os.two F
  obtain ⟨fp2, xf2, P2⟩ := Post.store (i := i) (pr := pr) (r := .fz d) (v := v) S1 .refl E1 S1 o1 trivial hp
  obtain ⟨fp3, xf3, P3⟩ := Post.store (i := j) (pr := pr) (r := .fz e) (v := w) P2.S .refl P2.E P2.S o2 trivial hp2
  exact ⟨v, w, rfl, nx _ hn _ W1 H1 fp3 xf3 (((Post.pure t1 E1 S1).trans P2).trans P3)⟩
theorem ds_aug_add {i : Nat} {p : Pos} (hN : X.N.Nodup) (hi : X.N[i]? = some x) (ha : PE X a (LP X.K ma)) (hx : Loc X.env.scope x := by first | exact Or.inl rfl | exact Or.inr rfl) (hp : i ∉ pr := by decide)
    (hf : X.fn x = true ∨ X.env.scope.names.lookup x = some .local := by first | exact .inl rfl | exact .inr rfl | assumption) : PS X (.AugAssign (.Name x p) .Add a pos) (LS X.K pr (mAug i oAddI ma)) := ds_augI (rI0_of iop_add) (fun _ _ _ => trivial) (fun _ _ _ => rfl) hN hi ha hx hp hf
theorem ds_aug_sub {i : Nat} {p : Pos} (hN : X.N.Nodup) (hi : X.N[i]? = some x) (ha : PE X a (LP X.K ma)) (hx : Loc X.env.scope x := by first | exact Or.inl rfl | exact Or.inr rfl) (hp : i ∉ pr := by decide)
    (hf : X.fn x = true ∨ X.env.scope.names.lookup x = some .local := by first | exact .inl rfl | exact .inr rfl | assumption) : PS X (.AugAssign (.Name x p) .Sub a pos) (LS X.K pr (mAug i oSub ma)) := ds_augI (rI0_of iop_sub) (fun _ _ _ => trivial) (fun _ _ _ => rfl) hN hi ha hx hp hf
theorem ds_aug_mul {i : Nat} {p : Pos} (hN : X.N.Nodup) (hi : X.N[i]? = some x) (ha : PE X a (LP X.K ma)) (hx : Loc X.env.scope x := by first | exact Or.inl rfl | exact Or.inr rfl) (hp : i ∉ pr := by decide)
    (hf : X.fn x = true ∨ X.env.scope.names.lookup x = some .local := by first | exact .inl rfl | exact .inr rfl | assumption) : PS X (.AugAssign (.Name x p) .Mult a pos) (LS X.K pr (mAug i oMulI ma)) := ds_augI iop_mul (fun _ _ c => c) (fun _ _ _ => rfl) hN hi ha hx hp hf
end
end R
/-! ## the plain law of cycles -/
namespace R
open PySem
def lastN (c : List Nat) : Nat := pk c (c.length - 1)
/-- where k stands -/
def tgt (ord : List Nat) (k : Nat) : Nat := ord.idxOf k
def cycLoop (t : Nat → Nat) (i : Nat) : Nat → List Nat → List Nat
  | 0, c => c
  | f + 1, c => if t (lastN c) = i then c else cycLoop t i f (c ++ [t (lastN c)])
def cycleOf (t : Nat → Nat) (n i : Nat) : List Nat := cycLoop t i (n - 1) [i]
/-- the cycles of the first indices -/
def cycs (t : Nat → Nat) (n : Nat) : Nat → List (List Nat)
  | 0 => []
  | i + 1 => if i ∈ (cycs t n i).flatten then cycs t n i else cycs t n i ++ [cycleOf t n i]
structure Tg (t : Nat → Nat) (n : Nat) : Prop where
  lt : ∀ x, x < n → t x < n
  inj : ∀ x y, x < n → y < n → t x = t y → x = y
theorem nodup_pk {c : List Nat} (h : c.Nodup) {i j : Nat} (hi : i < c.length) (hj : j < c.length) (e : pk c i = pk c j) : i = j := by
  rw [pk_lt hi, pk_lt hj] at e
  exact (List.getElem_inj h).mp e
theorem mem_pk {c : List Nat} {x : Nat} (h : x ∈ c) : ∃ j, j < c.length ∧ pk c j = x := by
  obtain ⟨j, hj, e⟩ := List.getElem_of_mem h
  exact ⟨j, hj, by rw [pk_lt hj]; exact e⟩
theorem nodup_le {n : Nat} : ∀ {c : List Nat}, c.Nodup → (∀ x ∈ c, x < n) → c.length ≤ n := by
  induction n with
  | zero =>
    intro c _ h
    cases c with
    | nil => exact Nat.le_refl _
    | cons x c => exact absurd (h x List.mem_cons_self) (Nat.not_lt_zero _)
  | succ n ih =>
    intro c nd h
    have h1 := ih (c := c.erase n) (nd.erase n) fun x m => by
      obtain ⟨a, b⟩ := nd.mem_erase_iff.mp m
      have := h x b
      omega
    by_cases m : n ∈ c
    · have := List.length_erase_of_mem m
      omega
    · rw [List.erase_of_not_mem m] at h1
      omega
theorem perm_range : ∀ {n : Nat} {c : List Nat}, c.Nodup → (∀ x, x ∈ c ↔ x < n) → c.Perm (List.range n)
  | 0, c, _, h => by
    cases c with
    | nil => exact .refl _
    | cons x c => exact absurd ((h x).mp List.mem_cons_self) (Nat.not_lt_zero _)
  | n + 1, c, nd, h => by
    have ih := perm_range (n := n) (c := c.erase n) (nd.erase n) fun x => by
      rw [nd.mem_erase_iff, h x]
      omega
    refine (List.perm_cons_erase ((h n).mpr (Nat.lt_succ_self n))).trans ((ih.cons n).trans ?_)
    rw [List.range_succ]
    exact (List.perm_append_comm (l₁ := [n]) (l₂ := List.range n))
theorem tgt_spec {ord : List Nat} {k : Nat} (h : k ∈ ord) : tgt ord k < ord.length ∧ pk ord (tgt ord k) = k := by
  have h1 : ord.idxOf k < ord.length := List.idxOf_lt_length_iff.mpr h
  exact ⟨h1, by rw [tgt, pk_lt h1]; exact List.getElem_idxOf h1⟩
theorem tgt_tg {ord : List Nat} (p : ord.Perm (List.range ord.length)) : Tg (tgt ord) ord.length := by
  have mem : ∀ x, x < ord.length → x ∈ ord := fun x h => p.mem_iff.mpr (List.mem_range.mpr h)
  refine ⟨fun x h => (tgt_spec (mem x h)).1, fun x y hx hy e => ?_⟩
  rw [← (tgt_spec (mem x hx)).2, ← (tgt_spec (mem y hy)).2, e]
/-- the way from i on -/
structure Orb (t : Nat → Nat) (n i : Nat) (c : List Nat) : Prop where
  h0 : 0 < c.length
  hd : pk c 0 = i
  nx : ∀ j, j + 1 < c.length → pk c (j + 1) = t (pk c j)
  nd : c.Nodup
  lt : ∀ x ∈ c, x < n
section
variable {t : Nat → Nat} {n i : Nat} {c : List Nat}
theorem Orb.start (h : i < n) : Orb t n i [i] := ⟨by simp, rfl, fun j hj => by simp at hj, by simp, fun x m => by rw [List.mem_singleton.mp m]; exact h⟩
theorem Orb.len (o : Orb t n i c) : c.length ≤ n := nodup_le o.nd o.lt
theorem Orb.last (o : Orb t n i c) : lastN c ∈ c := pk_mem (by have := o.h0; omega)
theorem Orb.fresh (T : Tg t n) (o : Orb t n i c) (h : t (lastN c) ≠ i) : t (lastN c) ∉ c := by
  intro m
  obtain ⟨j, hj, e⟩ := mem_pk m
  cases j with
  | zero => exact h (by rw [← e]; exact o.hd)
  | succ j =>
    rw [o.nx j hj] at e
    have e2 := T.inj _ _ (o.lt _ (pk_mem (by omega))) (o.lt _ o.last) e
    have h0 := o.h0
    have := nodup_pk o.nd (by omega) (by omega) e2
    omega
theorem Orb.step (T : Tg t n) (o : Orb t n i c) (h : t (lastN c) ≠ i) : Orb t n i (c ++ [t (lastN c)]) := by
  have f := o.fresh T h
  have h0 := o.h0
  refine ⟨by rw [List.length_append]; omega, by rw [pk_app h0]; exact o.hd, fun j hj => ?_, ?_, fun x m => ?_⟩
  · rw [List.length_append, List.length_singleton] at hj
    by_cases q : j + 1 < c.length
    · rw [pk_app q, pk_app (by omega)]
      exact o.nx j q
    · have e : j + 1 = c.length + 0 := by omega
      rw [e, pk_app2 (by simp), pk_app (by omega), show j = c.length - 1 by omega] <;> rfl
  · rw [List.nodup_append]
    exact ⟨o.nd, by simp, fun a m b m2 e => f (by rw [← List.mem_singleton.mp m2, ← e]; exact m)⟩
  · rcases List.mem_append.mp m with m | m
    · exact o.lt x m
    · rw [List.mem_singleton.mp m]
      exact T.lt _ (o.lt _ o.last)
theorem cycLoop_end (h : t (lastN c) = i) : ∀ f, cycLoop t i f c = c
  | 0 => rfl
  | f + 1 => by rw [cycLoop, if_pos h]
/-- a whole cycle -/
structure Cyc (t : Nat → Nat) (n i : Nat) (c : List Nat) : Prop extends Orb t n i c where
  ls : t (lastN c) = i
theorem cycLoop_cyc (T : Tg t n) : ∀ {f : Nat} {c : List Nat}, Orb t n i c → c.length + f = n → Cyc t n i (cycLoop t i f c)
  | 0, c, o, h => by
    refine ⟨o, ?_⟩
    by_cases q : t (lastN c) = i
    · exact q
    · have := (o.step T q).len
      rw [List.length_append, List.length_singleton] at this
      omega
  | f + 1, c, o, h => by
    rw [cycLoop]
    by_cases q : t (lastN c) = i
    · rw [if_pos q]
      exact ⟨o, q⟩
    · rw [if_neg q]
      exact cycLoop_cyc T (o.step T q) (by rw [List.length_append, List.length_singleton]; omega)
theorem cycleOf_cyc (T : Tg t n) (h : i < n) : Cyc t n i (cycleOf t n i) := cycLoop_cyc T (.start h) (by simp; omega)
/-- closed both ways -/
theorem Cyc.cl (o : Cyc t n i c) {x : Nat} (m : x ∈ c) : t x ∈ c := by
  obtain ⟨j, hj, rfl⟩ := mem_pk m
  by_cases q : j + 1 < c.length
  · rw [← o.nx j q]
    exact pk_mem q
  · have e : j = c.length - 1 := by omega
    have := o.ls
    rw [e]
    show t (lastN c) ∈ c
    rw [this, ← o.hd]
    exact pk_mem o.h0
theorem Cyc.back (T : Tg t n) (o : Cyc t n i c) {x : Nat} (hx : x < n) (m : t x ∈ c) : x ∈ c := by
  obtain ⟨j, hj, e⟩ := mem_pk m
  cases j with
  | zero =>
    rw [o.hd, ← o.ls] at e
    have := T.inj _ _ (o.lt _ o.last) hx e
    rw [← this]
    exact o.last
  | succ j =>
    rw [o.nx j hj] at e
    have := T.inj _ _ (o.lt _ (pk_mem (by omega))) hx e
    rw [← this]
    exact pk_mem (by omega)
/-- all of the way from a place that no earlier cycle holds is new -/
theorem Orb.off {S : List Nat} (back : ∀ x, x < n → t x ∈ S → x ∈ S) (o : Orb t n i c) (h : i ∉ S) : ∀ x ∈ c, x ∉ S := by
  have key : ∀ j, j < c.length → pk c j ∉ S := by
    intro j
    induction j with
    | zero => intro _; rw [o.hd]; exact h
    | succ j ih =>
      intro hj m
      rw [o.nx j hj] at m
      exact ih (by omega) (back _ (o.lt _ (pk_mem (by omega))) m)
  intro x m
  obtain ⟨j, hj, rfl⟩ := mem_pk m
  exact key j hj
structure CS (t : Nat → Nat) (n i : Nat) (cs : List (List Nat)) : Prop where
  all : ∀ c ∈ cs, ∃ j, j < i ∧ Cyc t n j c ∧ ∀ x ∈ c, j ≤ x
  nd : cs.flatten.Nodup
  cov : ∀ x, x < i → x ∈ cs.flatten
  st : (cs.map fun c => pk c 0).Pairwise (· < ·)
theorem CS.lt {cs : List (List Nat)} (s : CS t n i cs) {x : Nat} (m : x ∈ cs.flatten) : x < n := by
  obtain ⟨c, hc, mx⟩ := List.mem_flatten.mp m
  obtain ⟨j, _, o, _⟩ := s.all c hc
  exact o.lt x mx
theorem CS.back (T : Tg t n) {cs : List (List Nat)} (s : CS t n i cs) {x : Nat} (hx : x < n) (m : t x ∈ cs.flatten) : x ∈ cs.flatten := by
  obtain ⟨c, hc, mx⟩ := List.mem_flatten.mp m
  obtain ⟨j, _, o, _⟩ := s.all c hc
  exact List.mem_flatten.mpr ⟨c, hc, o.back T hx mx⟩
theorem cycs_ok (T : Tg t n) : ∀ {i : Nat}, i ≤ n → CS t n i (cycs t n i)
  | 0, _ => ⟨fun c m => (by cases m), (by simp [cycs]), fun x h => absurd h (Nat.not_lt_zero _), (by simp [cycs])⟩
  | i + 1, h => by
    have s := cycs_ok T (i := i) (by omega)
    rw [cycs]
    split
    · rename_i m
      refine ⟨fun c hc => ?_, s.nd, fun x hx => ?_, s.st⟩
      · obtain ⟨j, a, b⟩ := s.all c hc
        exact ⟨j, by omega, b⟩
      · by_cases q : x = i
        · rw [q]; exact m
        · exact s.cov x (by omega)
    · rename_i m
      have o := cycleOf_cyc T (show i < n by omega)
      have off := o.toOrb.off (fun x hx => s.back T hx) m
      refine ⟨fun c hc => ?_, ?_, fun x hx => ?_, ?_⟩
      · rcases List.mem_append.mp hc with hc | hc
        · obtain ⟨j, a, b⟩ := s.all c hc
          exact ⟨j, by omega, b⟩
        · rw [List.mem_singleton.mp hc]
          refine ⟨i, by omega, o, fun x mx => ?_⟩
          have := off x mx
          apply Classical.byContradiction
          intro q
          exact this (s.cov x (by omega))
      · rw [List.flatten_append, List.nodup_append]
        refine ⟨s.nd, by simpa using o.nd, fun a ma b mb e => ?_⟩
        rw [List.flatten_singleton] at mb
        exact off b mb (by rw [← e]; exact ma)
      · rw [List.flatten_append, List.flatten_singleton, List.mem_append]
        by_cases q : x = i
        · right
          have w := pk_mem o.h0
          rw [o.hd] at w
          rw [q]
          exact w
        · left
          exact s.cov x (by omega)
      · rw [List.map_append, List.pairwise_append]
        refine ⟨s.st, by simp, fun a ma b mb => ?_⟩
        obtain ⟨c, hc, rfl⟩ := List.mem_map.mp ma
        obtain ⟨j, hj, oc, _⟩ := s.all c hc
        have : b = i := by
          simp at mb
          rw [mb]
          exact o.hd
        show pk c 0 < b
        rw [this, oc.hd]
        exact hj
theorem cycs_perm (T : Tg t n) : (cycs t n n).flatten.Perm (List.range n) := by
  have s := cycs_ok T (Nat.le_refl n)
  exact perm_range s.nd fun x => ⟨s.lt, s.cov x⟩
theorem rot_pk {α : Type} : ∀ {c : List Nat} (h : 0 < c.length), c.drop 1 ++ c.take 1 = (List.range c.length).map (fun j => if j + 1 < c.length then pk c (j + 1) else pk c 0)
  | [], h => by simp at h
  | x :: c, _ => by
    apply List.ext_getElem
    · simp
    · intro j h1 h2
      rw [List.getElem_map, List.getElem_range]
      simp at h2
      by_cases q : j + 1 < (x :: c).length
      · have q2 : j < c.length := by simpa using q
        rw [if_pos q, List.getElem_append_left (by simpa using q2), pk_lt q]
        simp
      · rw [if_neg q]
        have e : j = c.length := by
          have : ¬ j < c.length := by simpa using q
          omega
        rw [List.getElem_append_right (by simp; omega)]
        simp [pk]
/-- where the members of a cycle stand: the cycle turned by one -/
theorem Cyc.rot (o : Cyc t n i c) : c.map t = c.drop 1 ++ c.take 1 := by
  have h0 := o.h0
  rw [rot_pk (α := Nat) h0]
  apply List.ext_getElem
  · simp
  · intro j h1 h2
    rw [List.getElem_map, List.getElem_map, List.getElem_range]
    have hj : j < c.length := by simpa using h1
    rw [← pk_lt hj]
    by_cases q : j + 1 < c.length
    · rw [if_pos q]
      exact (o.nx j q).symm
    · rw [if_neg q, show j = c.length - 1 by omega, o.hd]
      exact o.ls
end
/-! lcm -/
def lcmL (ks : List Nat) : Nat := ks.foldl Nat.lcm 1
theorem lcmL_snoc (ks : List Nat) (k : Nat) : lcmL (ks ++ [k]) = Nat.lcm (lcmL ks) k := by unfold lcmL; rw [List.foldl_append] <;> rfl
def facN : Nat → Nat
  | 0 => 1
  | n + 1 => facN n * (n + 1)
theorem dvd_fac : ∀ {n k : Nat}, 1 ≤ k → k ≤ n → k ∣ facN n
  | 0, k, h1, h2 => absurd h1 (by omega)
  | n + 1, k, h1, h2 => by
    rw [facN]
    by_cases q : k = n + 1
    · rw [q]; exact Nat.dvd_mul_left _ _
    · exact Nat.dvd_trans (dvd_fac h1 (by omega)) (Nat.dvd_mul_right _ _)
theorem lcmL_dvd {m : Nat} : ∀ (ks : List Nat), (∀ k ∈ ks, k ∣ m) → lcmL ks ∣ m := by
  have key : ∀ (ks : List Nat) (a : Nat), a ∣ m → (∀ k ∈ ks, k ∣ m) → ks.foldl Nat.lcm a ∣ m := by
    intro ks
    induction ks with
    | nil => intro a h _; exact h
    | cons k ks ih => intro a h hk; exact ih _ (Nat.lcm_dvd h (hk k List.mem_cons_self)) fun x m => hk x (List.mem_cons_of_mem _ m)
  exact fun ks h => key ks 1 (Nat.one_dvd _) h
theorem lcmL_pos {ks : List Nat} (h : ∀ k ∈ ks, 1 ≤ k) : 1 ≤ lcmL ks := by
  have key : ∀ (ks : List Nat) (a : Nat), 1 ≤ a → (∀ k ∈ ks, 1 ≤ k) → 1 ≤ ks.foldl Nat.lcm a := by
    intro ks
    induction ks with
    | nil => intro a h _; exact h
    | cons k ks ih => intro a h hk; exact ih _ (Nat.lcm_pos h (hk k List.mem_cons_self)) fun x m => hk x (List.mem_cons_of_mem _ m)
  exact key ks 1 (Nat.le_refl _) h
theorem le_two_pow : ∀ {k : Nat}, 1 ≤ k → k ≤ 2 ^ (k - 1)
  | 1, _ => by decide
  | k + 2, _ => by
    have := le_two_pow (k := k + 1) (by omega)
    have e : k + 2 - 1 = (k + 1 - 1) + 1 := by omega
    rw [e, Nat.pow_succ]
    omega
theorem lcmL_le {ks : List Nat} (h : ∀ k ∈ ks, 1 ≤ k) : lcmL ks ≤ 2 ^ ks.sum := by
  have key : ∀ (ks : List Nat) (a e : Nat), a ≤ 2 ^ e → (∀ k ∈ ks, 1 ≤ k) → ks.foldl Nat.lcm a ≤ 2 ^ (e + ks.sum) := by
    intro ks
    induction ks with
    | nil => intro a e h _; simpa using h
    | cons k ks ih =>
      intro a e h hk
      have h1 := hk k List.mem_cons_self
      have h2 : Nat.lcm a k ≤ 2 ^ (e + k) := by
        have q1 : Nat.lcm a k ≤ a * k := by
          by_cases z : a = 0
          · rw [z]; simp
          · exact Nat.le_of_dvd (Nat.mul_pos (by omega) (by omega)) (Nat.lcm_dvd (Nat.dvd_mul_right _ _) (Nat.dvd_mul_left _ _))
        have q2 := le_two_pow h1
        have q3 : 2 ^ (k - 1) ≤ 2 ^ k := Nat.pow_le_pow_right (by omega) (by omega)
        have q4 : a * k ≤ 2 ^ e * 2 ^ k := Nat.mul_le_mul h (by omega)
        rw [Nat.pow_add]
        omega
      have := ih _ _ h2 fun x m => hk x (List.mem_cons_of_mem _ m)
      rw [List.foldl_cons, List.sum_cons, ← Nat.add_assoc]
      exact this
  have := key ks 1 0 (by decide) h
  rw [Nat.zero_add] at this
  exact this
theorem prodL_le {sz : List Nat} (h : ∀ s ∈ sz, 1 ≤ s) : 1 ≤ prodL sz ∧ prodL sz ≤ 2 ^ (sz.sum - sz.length) := by
  have key : ∀ (sz : List Nat) (a e : Nat), 1 ≤ a → a ≤ 2 ^ e → (∀ k ∈ sz, 1 ≤ k) → 1 ≤ sz.foldl (· * ·) a ∧ sz.foldl (· * ·) a ≤ 2 ^ (e + (sz.sum - sz.length)) ∧ sz.length ≤ sz.sum := by
    intro sz
    induction sz with
    | nil => intro a e h0 h _; exact ⟨h0, by simpa using h, Nat.le_refl _⟩
    | cons k sz ih =>
      intro a e h0 h hk
      have h1 := hk k List.mem_cons_self
      have q2 := le_two_pow h1
      have q4 : a * k ≤ 2 ^ (e + (k - 1)) := by rw [Nat.pow_add]; exact Nat.mul_le_mul h q2
      obtain ⟨a1, a2, a3⟩ := ih (a * k) (e + (k - 1)) (Nat.mul_pos h0 h1) q4 fun x m => hk x (List.mem_cons_of_mem _ m)
      refine ⟨a1, ?_, by rw [List.length_cons, List.sum_cons]; omega⟩
      rw [List.sum_cons, List.length_cons]
      have e1 : e + (k - 1) + (sz.sum - sz.length) = e + (k + sz.sum - (sz.length + 1)) := by omega
      rw [← e1]
      exact a2
  obtain ⟨a, b, _⟩ := key sz 1 0 (Nat.le_refl _) (by decide) h
  rw [Nat.zero_add] at b
  exact ⟨a, b⟩
end R
namespace R
open PySem
def rnd (sz fw : List Nat) (n : Nat) : List Nat := (fil sz fw fw.length n).2 ++ (fil sz fw fw.length n).1
theorem rnd_perm {sz fw : List Nat} {n : Nat} (C : Cups sz fw fw.length) (hl : fw.length < sz.length) (hs : 1 ≤ pk sz fw.length) (h : least sz (fw.length + 1) ≤ n) : (rnd sz fw n).Perm (List.range n) := by
  rw [least_succ hl] at h
  have hl1 : 1 ≤ least sz fw.length := by unfold least; omega
  obtain ⟨a, _⟩ := fillN_perm (e := ent sz fw fw.length) (pk sz fw.length) ([], List.range n) (fun k hk => by
    show Pm (ent sz fw fw.length ((List.range n).length - k)) ((List.range n).length - k)
    rw [List.length_range]
    exact ent_perm C (by omega)) (by show pk sz fw.length ≤ (List.range n).length; rw [List.length_range]; omega)
  have a : ((fil sz fw fw.length n).1 ++ (fil sz fw fw.length n).2).Perm (List.range n) := a
  exact List.perm_append_comm.trans a
theorem Tg.of_perm {ord : List Nat} {n : Nat} (p : ord.Perm (List.range n)) : Tg (tgt ord) n := by
  have e : ord.length = n := by rw [p.length_eq, List.length_range]
  subst e
  exact tgt_tg p
/-- what the callers need of the cycles -/
structure CyOk (n : Nat) (cs : List (List Nat)) : Prop where
  len : cs.length ≤ n
  one : ∀ c ∈ cs, 1 ≤ c.length ∧ c.length ≤ n
  sum : (cs.map List.length).sum = n
  st : (cs.map fun c => pk c 0).Pairwise (· < ·)
theorem cycs_cyOk {t : Nat → Nat} {n : Nat} (T : Tg t n) : CyOk n (cycs t n n) := by
  have s := cycs_ok T (Nat.le_refl n)
  have p := cycs_perm T
  refine ⟨?_, fun c hc => ?_, ?_, s.st⟩
  · have nd : ((cycs t n n).map fun c => pk c 0).Nodup := List.nodup_iff_pairwise_ne.mpr (s.st.imp fun h => by omega)
    have := nodup_le (n := n) nd fun x m => by
      obtain ⟨c, hc, rfl⟩ := List.mem_map.mp m
      obtain ⟨j, _, o, _⟩ := s.all c hc
      exact o.lt _ (pk_mem o.h0)
    rw [List.length_map] at this
    exact this
  · obtain ⟨j, _, o, _⟩ := s.all c hc
    exact ⟨o.h0, o.len⟩
  · have := p.length_eq
    rw [List.length_flatten, List.length_range] at this
    exact this
end R
/-! ## taking an item out, moving a value in, append(pop), walking to reverse -/
namespace R
open PySem PySem.Spec PyProof.Rows L2
/-- x = a[k] (an object held alone): it moves to x, in its place stands a value that nothing is known of -/
def mTake (j : Nat) (pl : DP) : DS := fun env D => pl env fun i p => i ≠ j ∧ ∃ t, tree env i p = some t ∧ nwOf t = .nw t ∧ D.nx ((put env i p (.leaf .any)).set j (some (.nw t)))
/-- a.append(x): x moves -/
def mAppV (i j : Nat) : DS := fun env D => i ≠ j ∧ ∃ ts t, env[i]? = some (some (.nw (.lst ts))) ∧ env[j]? = some (some (.nw t)) ∧ ts.length < sizeL ∧ D.nx ((env.set j none).set i (some (.nw (.lst (ts ++ [t])))))
/-- a.append(b.pop(k)) -/
def mAppPop (pl : DP) (j : Nat) (k : DE) : DS := fun env D => pl env fun i p => i ≠ j ∧ ∃ ts us, tree env i p = some (.lst ts) ∧ env[j]? = some (some (.nw (.lst us))) ∧ ts.length < sizeL ∧
  k env fun r => ∃ n m d, r = .fz (.int n) ∧ -1000000 ≤ n ∧ n ≤ 1000000 ∧ ixN' us.length n = some m ∧ us[m]? = some (.leaf d) ∧ D.nx (put (env.set j (some (.nw (.lst (us.eraseIdx m))))) i p (.lst (ts ++ [.leaf d])))
/-- a.extend(b) -/
def mExtend (pl : DP) (b : DE) : DS := fun env D => pl env fun i p => ∃ ts, tree env i p = some (.lst ts) ∧ b env fun r => ∃ ds, r.els true = some ds ∧ ts.length + ds.length ≤ sizeL ∧ D.nx (put env i p (.lst (ts ++ ds.map .leaf)))
/-- for x in a: x.reverse() -/
def mForRev (i j : Nat) : DS := fun env D => i ≠ j ∧ j < env.length ∧ ∃ us : List (List OT), env[i]? = some (some (.nw (.lst (us.map .lst)))) ∧ D.nx ((env.set j none).set i (some (.nw (.lst (us.map fun u => .lst u.reverse)))))
section
variable {X : Cx} {tg a b c : Expr} {ma mb mc mk : DE} {pos : Pos} {ta tb : DT} {st : Stmt} {rest s1 s2 : List Stmt} {m m1 m2 : DS} {pr : List Nat} {pl : DP} {x y : Str} {C : Addr} {es : List Expr}
theorem ds_take {j : Nat} {p : Pos} (hN : X.N.Nodup) (hi : X.N[j]? = some x) (ha : PE X a (LPl X.K pl)) (hx : Loc X.env.scope x := by first | exact Or.inl rfl | exact Or.inr rfl) (hp : j ∉ pr := by decide) (hs : swapsWith a (some (.Name x p)) pos.line X.env = pure false := by rfl)
    (hf : X.fn x = true ∨ X.env.scope.names.lookup x = some .local := by first | exact .inl rfl | exact .inr rfl | assumption) : PS X (.Assign [.Name x p] a pos) (LS X.K pr (mTake j pl)) :=
  ps_imp (ps_set hN hi hx ha hs hf) fun D σ H h => by
  obtain ⟨W, env, fp, xf, K0, E, S, hm, nx, bk, ct, rt⟩ := h
  refine LPl.next E S hm fun i p ⟨ne, t, et, hn0, hn⟩ u W1 H1 t1 S1 E1 P => ?_
  obtain ⟨fs, rest, os, pm, k⟩ := place_ok E1 P et
  obtain ⟨a0, rfl⟩ : ∃ a0, u = .ref a0 := by
    cases os with
    | leaf _ => cases hn0
    | lst _ _ => exact ⟨_, rfl⟩
    | tup _ _ => exact ⟨_, rfl⟩
    | ins _ _ => exact ⟨_, rfl⟩
    | d0 _ => exact ⟨_, rfl⟩
  obtain ⟨fp', E2, p2⟩ := k W1 H1 (.leaf .any) [] (.refl _) (fun a _ o e => e) (.leaf (.any a0))
  have q : (fs ++ fp').Perm fp := (p2.append_left fs).trans pm.symm
  have S2 : Sat X.K W1 H1 ([] ++ (fs ++ fp')) xf := S1.perm q fun _ m => m
  obtain ⟨fp3, xf3, E3, S3, y⟩ := E2.put (i := j) (fr := []) (f := fs) (r := .nw t) (v := .ref a0) S2 os
  refine nx _ hn _ W1 H1 fp3 xf3 ⟨t1.up, E3, S3, fun a m => .inl (q.mem_iff.mp (List.mem_append.mpr (y a m))), fun i2 m => ?_⟩
  rw [List.getElem?_set_ne]
  intro e
  exact hp (by rw [e]; exact m)
theorem ds_appV {i j : Nat} {nx1 nj : Str} {px pj apos p2 : Pos} (hi : PE X (.Name nx1 px) (tVar i)) (hj : PE X (.Name nj pj) (tVar j)) (hst : starEach [.Name nj pj] X.env = (false, eval (.Name nj pj) X.env) :: starEach [] X.env := by rfl)
    (hE : ∀ (t : TE), PE X (.Call (.Attribute (.Name nx1 px) "append" apos) [.Name nj pj] [] p2) t → PS X (.Expr (.Call (.Attribute (.Name nx1 px) "append" apos) [.Name nj pj] [] p2) pos) (tDrop t) := by exact fun _ h => ps_expr h)
    (hB : ∀ (t1 : TE) (t2 : TA), PE X (.Name nx1 px) t1 → PA X [.Name nj pj] t2 → PE X (.Call (.Attribute (.Name nx1 px) "append" apos) [.Name nj pj] [] p2) (tBM X.K "list" rAppend t1 t2) := by exact fun _ _ h1 h2 => pe_bm PySem.F.plainAttrs_list PySem.F.slot_list_append PySem.F.type_list_append mt_append h1 h2) :
    PS X (.Expr (.Call (.Attribute (.Name nx1 px) "append" apos) [.Name nj pj] [] p2) pos) (LS X.K pr (mAppV i j)) := ps_imp (hE _ (hB _ _ hi (pa_cons hj pa_nil hst))) fun D σ H h => by
  obtain ⟨W, env, fp, xf, K0, E, S, ⟨ne, ts, t, ei, ej, hl, hn⟩, nx, bk, ct, rt⟩ := h
  obtain ⟨vj, f, fp1, xf1, evj, ow, E1, S1, p1, x1⟩ := E.take S ej
  have ei1 : (env.set j none)[i]? = some (some (.nw (.lst ts))) := by rw [List.getElem?_set_ne (Ne.symm ne)]; exact ei
  obtain ⟨vi, evi, _⟩ := E1.get ei1 S1
  have P : PlOk X.K W H σ (env.set j none) vi i [] := ⟨.lst ts, vi, .lst ts, ei1, evi, .nil⟩
  obtain ⟨p0, vs0, g0, rfl, hp0, w0, nd0, sub0, kk⟩ := wr_list (pr := pr) E1 S1 P (tree_at ei1 rfl)
  obtain ⟨n1, n2, n3⟩ := List.nodup_append.mp (p1.nodup_iff.mp S.nd)
  have inf : ∀ a ∈ f, a ∈ fp := fun a m => p1.mem_iff.mpr (List.mem_append_left _ m)
  have inr : ∀ a ∈ fp1, a ∈ fp := fun a m => p1.mem_iff.mpr (List.mem_append_right _ m)
  obtain ⟨fp', E3, S3, st, y⟩ := kk (vs0 ++ [vj]) (ts ++ [t]) (g0 ++ f) (w0.snoc ow) (List.nodup_append.mpr ⟨(List.nodup_cons.mp nd0).2, n1, fun a m b m2 e => n3 b m2 a (sub0 a (List.mem_cons_of_mem _ m)) e.symm⟩) fun a m => by
    rcases List.mem_append.mp m with m | m
    · have mf := sub0 a (List.mem_cons_of_mem _ m)
      exact ⟨.inl m, (S1.off a mf).1, (S1.off a mf).2.1⟩
    · exact ⟨.inr ⟨fun q => n3 a m a q rfl, fun q => (S.xof a (x1 a q)).1 (inf a m)⟩, (S.off a (inf a m)).1, (S.off a (inf a m)).2.1⟩
  have ep : put (env.set j none) i [] (.lst (ts ++ [t])) = (env.set j none).set i (some (.nw (.lst (ts ++ [t])))) := put_at ei1
  rw [ep] at E3
  refine ⟨_, evi, .inl ⟨rfl, _, .of hp0⟩, vj, evj, p0, vs0, vj, rfl, rfl, hp0, by rw [← sizeL_eq, w0.len]; exact hl, nx _ hn σ W _ fp' xf1 ⟨Stp.refl.up.trans st fun a m => .inl (inr a m), E3, S3, fun a m => ?_, fun _ _ => rfl⟩⟩
  rcases y a m with q | q
  · exact .inl (inr a q)
  · rcases List.mem_append.mp q with q | q
    · exact .inl (inr a (sub0 a (List.mem_cons_of_mem _ q)))
    · exact .inl (inf a q)
theorem tree_other {env : Env} {i j : Nat} {p : List Nat} {r : Option Rs} (ne : i ≠ j) : tree (env.set j r) i p = tree env i p := by
  unfold tree
  rw [List.getElem?_set_ne (Ne.symm ne)]
theorem ds_appPop {j : Nat} {nj : Str} {pj apos p2 apos3 p4 : Pos} (ha : PE X a (LPl X.K pl)) (hj : PE X (.Name nj pj) (tVar j)) (hk : PE X b (LP X.K mk))
    (hst : starEach [b] X.env = (false, eval b X.env) :: starEach [] X.env := by rfl) (hst2 : starEach [.Call (.Attribute (.Name nj pj) "pop" apos3) [b] [] p4] X.env = (false, eval (.Call (.Attribute (.Name nj pj) "pop" apos3) [b] [] p4) X.env) :: starEach [] X.env := by rfl)
    (hbase : attributeBase (.Name nj pj) "pop" X.env (eval (.Name nj pj) X.env) = eval (.Name nj pj) X.env := by rfl) (hfew : ((backTo p4 (starEach [b] X.env)).all (fun x => !x.1) && (backToKw p4 (keywordEach [] X.env)).all (fun x => x.1.isSome)
      && decide ([b].length + ([] : List Keyword).length + (if ([] : List Keyword).isEmpty then 0 else 1) < 30)) = true := by rfl) (hline : (apos3.endLine == p4.line) = true := by rfl)
    (hE : ∀ (t : TE), PE X (.Call (.Attribute a "append" apos) [.Call (.Attribute (.Name nj pj) "pop" apos3) [b] [] p4] [] p2) t → PS X (.Expr (.Call (.Attribute a "append" apos) [.Call (.Attribute (.Name nj pj) "pop" apos3) [b] [] p4] [] p2) pos) (tDrop t) := by exact fun _ h => ps_expr h)
    (hB : ∀ (t1 : TE) (t2 : TA), PE X a t1 → PA X [.Call (.Attribute (.Name nj pj) "pop" apos3) [b] [] p4] t2 → PE X (.Call (.Attribute a "append" apos) [.Call (.Attribute (.Name nj pj) "pop" apos3) [b] [] p4] [] p2) (tBM X.K "list" rAppend t1 t2) := by exact fun _ _ h1 h2 => pe_bm PySem.F.plainAttrs_list PySem.F.slot_list_append PySem.F.type_list_append mt_append h1 h2) :
    PS X (.Expr (.Call (.Attribute a "append" apos) [.Call (.Attribute (.Name nj pj) "pop" apos3) [b] [] p4] [] p2) pos) (LS X.K pr (mAppPop pl j mk)) :=
  ps_imp (hE _ (hB _ _ ha (pa_cons (pe_bm PySem.F.plainAttrs_list PySem.F.slot_list_pop PySem.F.type_list_pop mt_popAt hj (da_cons hk da_nil hst) hbase hfew hline hst) pa_nil hst2))) fun D σ H h => by
  obtain ⟨W, env, fp, xf, K0, E, S, hm, nx, bk, ct, rt⟩ := h
  refine LPl.next E S hm fun i p ⟨ne, ts, us, et, ej, hl, hq⟩ u W1 H1 t1 S1 E1 P => ?_
  obtain ⟨p0, vs0, g0, rfl, hp0, _⟩ := wr_list (pr := pr) E1 S1 P et
  refine ⟨.inl ⟨rfl, _, .of hp0⟩, ?_⟩
  obtain ⟨vj, evj, _⟩ := E1.get ej S1
  have Pj : PlOk X.K W1 H1 σ env vj j [] := ⟨_, vj, _, ej, evj, .nil⟩
  obtain ⟨pj, vsj, gj, rfl, hpj, _⟩ := wr_list (pr := pr) E1 S1 Pj (tree_at ej rfl)
  refine ⟨_, evj, .inl ⟨rfl, _, .of hpj⟩, ?_⟩
  refine LA.next (m := mCons mk mNil) E1 S1 (Q1 := one1 fun r => ∃ n m d, r = .fz (.int n) ∧ -1000000 ≤ n ∧ n ≤ 1000000 ∧ ixN' us.length n = some m ∧ us[m]? = some (.leaf d) ∧ K0.nx (put (env.set j (some (.nw (.lst (us.eraseIdx m))))) i p (.lst (ts ++ [OT.leaf d])))) hq fun rs hr vs W2 H2 g t2 S2 E2 os G => ?_
  obtain ⟨r, rfl, n, m, d, rfl, b1, b2, em, ed, hn⟩ := one1_inv hr
  obtain ⟨v, rfl, o⟩ := os.one G
  have Pj2 := Pj.keep E1 S1 t2
  have P2 := P.keep E1 S1 t2
  obtain ⟨pj', vsj', gj', e1, hpj2, wj, ndj, subj, kkj⟩ := wr_list (pr := pr) E2 S2 Pj2 (tree_at ej rfl)
  cases e1
  obtain ⟨y, ey, ry⟩ := own_leaf wj ed
  obtain ⟨g', w', sl⟩ := own_erase m wj
  obtain ⟨fp', E3, S3, st, yy⟩ := kkj (vsj'.eraseIdx m) (us.eraseIdx m) g' w' ((List.nodup_cons.mp ndj).2.sublist sl) fun a m => by
    have m2 := sl.subset m
    have mf := subj a (List.mem_cons_of_mem _ m2)
    exact ⟨.inl m2, (S2.off a mf).1, (S2.off a mf).2.1⟩
  have ep : put env j [] (.lst (us.eraseIdx m)) = env.set j (some (.nw (.lst (us.eraseIdx m)))) := put_at ej
  rw [ep] at E3
  have fin : ∀ a ∈ fp', a ∈ fp := fun a m => (yy a m).elim id fun q => subj a (List.mem_cons_of_mem _ (sl.subset q))
  have P3 : PlOk X.K W2 (upd H2 pj (.lst (vsj'.eraseIdx m))) σ (env.set j (some (.nw (.lst (us.eraseIdx m))))) (.ref p0) i p := by
    obtain ⟨t0, v0, s2, he, ev, ap⟩ := P2
    obtain ⟨vj2, fj, fp1, xf1, evj2, owj, Ej, Sj, pj1, _⟩ := E2.take S2 ej
    have he' : (env.set j none)[i]? = some (some (.nw t0)) := by rw [List.getElem?_set_ne (Ne.symm ne)]; exact he
    obtain ⟨f, rest, ow, pmf, _⟩ := Ej.slot he' ev
    have evj3 : vj2 = .ref pj := by rw [evj] at evj2; cases evj2; rfl
    subst evj3
    have mj : pj ∈ fj := by cases owj with | lst _ _ => exact List.mem_cons_self
    have n3 := (List.nodup_append.mp (pj1.nodup_iff.mp S2.nd)).2.2
    refine ⟨t0, v0, s2, by rw [List.getElem?_set_ne (Ne.symm ne)]; exact he, ev, ap.mono ow fun a m o e => (upd_ne fun q => ?_).trans e⟩
    subst q
    exact n3 a mj a (pmf.mem_iff.mpr (List.mem_append_left _ m)) rfl
  obtain ⟨p3, vs3, g3, e3, hp3, w3, nd3, sub3, kk3⟩ := wr_list (pr := pr) E3 S3 P3 (by rw [tree_other ne]; exact et)
  cases e3
  obtain ⟨fp4, E4, S4, st4, y4⟩ := kk3 (vs3 ++ [y]) (ts ++ [.leaf d]) (g3 ++ []) (w3.snoc (.leaf ry)) (by rw [List.append_nil]; exact (List.nodup_cons.mp nd3).2) fun a m => by
    rw [List.append_nil] at m
    have mf := sub3 a (List.mem_cons_of_mem _ m)
    exact ⟨.inl m, (S3.off a mf).1, (S3.off a mf).2.1⟩
  refine ⟨pj, vsj', n, m, y, rfl, by rw [int_of o], hpj2, by omega, by omega, by rw [wj.len, ← seqIx]; exact em, ey, ?_⟩
  refine ⟨p0, vs3, y, rfl, rfl, hp3, by rw [← sizeL_eq, w3.len]; exact hl, nx _ hn σ W2 _ fp4 xf ⟨(((t1.tr0 t2).up).trans st fun a m => .inl m).trans st4 fun a m => .inl (fin a m), E4, S4, fun a m => ?_, fun _ _ => rfl⟩⟩
  rcases y4 a m with q | q
  · exact .inl (fin a q)
  · rw [List.append_nil] at q
    exact .inl (fin a (sub3 a (List.mem_cons_of_mem _ q)))
theorem ds_extend (ha : PE X a (LPl X.K pl)) (hb : PE X b (LP X.K mb)) {apos : Pos} {p2 : Pos} (hst : starEach [b] X.env = (false, eval b X.env) :: starEach [] X.env := by rfl)
    (hE : ∀ (t : TE), PE X (.Call (.Attribute a "extend" apos) [b] [] p2) t → PS X (.Expr (.Call (.Attribute a "extend" apos) [b] [] p2) pos) (tDrop t) := by exact fun _ h => ps_expr h)
    (hB : ∀ (t1 : TE) (t2 : TA), PE X a t1 → PA X [b] t2 → PE X (.Call (.Attribute a "extend" apos) [b] [] p2) (tBM X.K "list" rExtend t1 t2) := by exact fun _ _ h1 h2 => pe_bm PySem.F.plainAttrs_list PySem.F.slot_list_extend PySem.F.type_list_extend mt_extend h1 h2) :
    PS X (.Expr (.Call (.Attribute a "extend" apos) [b] [] p2) pos) (LS X.K pr (mExtend pl mb)) := ps_imp (hE _ (hB _ _ ha (da_cons hb da_nil hst))) fun D σ H h => by
  obtain ⟨W, env, fp, xf, K0, E, S, hm, nx, bk, ct, rt⟩ := h
  refine LPl.next E S hm fun i p ⟨ts, et, hq⟩ u W1 H1 t1 S1 E1 P => ?_
  obtain ⟨p0, vs0, g0, rfl, hp0, _⟩ := wr_list (pr := pr) E1 S1 P et
  refine ⟨.inl ⟨rfl, _, .of hp0⟩, ?_⟩
  refine LA.next (m := mCons mb mNil) E1 S1 (Q1 := one1 fun r => ∃ ds, r.els true = some ds ∧ ts.length + ds.length ≤ sizeL ∧ K0.nx (put env i p (.lst (ts ++ ds.map OT.leaf)))) hq fun rs hr vs W2 H2 g t2 S2 E2 os G => ?_
  obtain ⟨r, rfl, ds, ed, hl, hn⟩ := one1_inv hr
  obtain ⟨v, rfl, o⟩ := os.one G
  have P2 := P.keep E1 S1 t2
  obtain ⟨p1, vs1, g1, e1, hp1, w1, nd1, sub1, kk⟩ := wr_list (pr := pr) E2 S2 P2 et
  cases e1
  obtain ⟨pb, us, rfl, hpb, rs⟩ := els_L ed o S2
  have wapp : ∀ {vs : List V} {ts : List OT} {g : List Addr}, OwnAll X.K W2 H2 vs ts g → OwnAll X.K W2 H2 (vs ++ us) (ts ++ ds.map .leaf) g := by
    intro vs ts g w
    induction ts generalizing vs g with
    | nil => cases w; exact OwnAll.leafs (vs := []) rs
    | cons t ts ih =>
      cases w with
      | cons o1 w1 => exact .cons o1 (ih w1)
  obtain ⟨fp', E3, S3, st, y⟩ := kk (vs1 ++ us) (ts ++ ds.map .leaf) g1 (wapp w1) (List.nodup_cons.mp nd1).2 fun a m => by
    have mf := sub1 a (List.mem_cons_of_mem _ m)
    exact ⟨.inl m, (S2.off a mf).1, (S2.off a mf).2.1⟩
  refine ⟨p0, pb, vs1, us, rfl, rfl, hp1, hpb, by rw [← sizeL_eq, w1.len, rs.len]; exact hl, nx _ hn σ W2 _ fp' xf ⟨((t1.tr0 t2).up).trans st fun a m => .inl m, E3, S3, fun a m => ?_, fun _ _ => rfl⟩⟩
  exact .inl ((y a m).elim id fun q => sub1 a (List.mem_cons_of_mem _ q))
theorem set_same_none {env : Env} {j : Nat} (h : env[j]? = some none) : env.set j none = env := List.set_getElem_self_some h
theorem ds_forRev {i j : Nat} {nx1 nj : Str} {px pj pj2 apos p2 epos : Pos} (hp : PassesOwn (model X.prog X.w) X.A X.env X.xe) (hc : X.calm = true) (hi : PE X (.Name nx1 px) (tVar i)) (hj : PE X (.Name nj pj2) (tVar j)) (hN : X.N.Nodup) (hnj : X.N[j]? = some nj)
    (hx : Loc X.env.scope nj := by first | exact Or.inl rfl | exact Or.inr rfl) (hf : X.fn nj = true ∨ X.env.scope.names.lookup nj = some .local := by first | exact .inl rfl | exact .inr rfl | assumption) (hpr : j ∉ pr := by decide)
    (hbase : attributeBase (.Name nj pj2) "reverse" X.env (eval (.Name nj pj2) X.env) = eval (.Name nj pj2) X.env := by rfl) (hline : (apos.endLine == p2.line) = true := by rfl)
    (hs : swapsWith (.Call (.Attribute (.Name nj pj2) "reverse" apos) [] [] p2) none epos.line X.env = pure false := by rfl) (hfs : ∀ x, foldedSetIterable (.Name nx1 px) X.env x = pure x := by intro _; rfl) :
    PS X (.For (.Name nj pj) (.Name nx1 px) [.Expr (.Call (.Attribute (.Name nj pj2) "reverse" apos) [] [] p2) epos] [] pos) (LS X.K pr (mForRev i j)) :=
  ps_imp (ps_for hp hc (pi_seq hi) (pg_name hN hnj hx hf) (pss_one (ps_expr (pe_bm0 PySem.F.plainAttrs_list PySem.F.slot_list_reverse PySem.F.type_list_reverse mt_reverse hj hbase hline) hs)) hfs) fun D σ H h => by
  obtain ⟨W, env, fp, xf, K0, E, S, ⟨ne, hjl, us, ei, hn⟩, nx, bk, ct, rt⟩ := h
  obtain ⟨vi, evi, _⟩ := E.get ei S
  have Pi : PlOk X.K W H σ env vi i [] := ⟨_, vi, _, ei, evi, .nil⟩
  obtain ⟨p0, vs0, g0, rfl, hp0, w0, _⟩ := wr_list (pr := pr) E S Pi (tree_at ei rfl)
  refine ⟨_, evi, p0, rfl, .inl ⟨⟨_, .of hp0⟩, ?_⟩⟩
  -- the list behind k turns
  have start : ∃ fp1 xf1, EnvOk X.K W H σ (env.set j none) fp1 xf1 ∧ Sat X.K W H fp1 xf1 ∧ ∀ a ∈ fp1, a ∈ fp := by
    obtain ⟨xj, exj⟩ : ∃ xj, σ[j]? = some xj := ⟨σ[j]'(by rw [E.len]; exact hjl), List.getElem?_eq_getElem _⟩
    obtain ⟨f, fp1, xf1, E1, p1, x1, _⟩ := E.clear j xj
    rw [List.set_getElem_self_some exj] at E1
    exact ⟨fp1, xf1, E1, (S.perm p1.symm x1).less, fun a m => p1.mem_iff.mpr (List.mem_append_right _ m)⟩
  obtain ⟨fp1, xf1, E1, S1, sub1⟩ := start
  let lk : Nat → List OT := fun k => (us.take k).map (fun u => OT.lst u.reverse) ++ (us.drop k).map .lst
  have lkl : ∀ k, (lk k).length = us.length := fun k => by
    show ((us.take k).map (fun u => OT.lst u.reverse) ++ (us.drop k).map OT.lst).length = _
    rw [List.length_append, List.length_map, List.length_map, List.length_take, List.length_drop]
    omega
  refine ⟨fun k n σ' H' => k + n = us.length ∧ ∃ fp' xf', EnvOk X.K W H' σ' ((env.set j none).set i (some (.nw (.lst (lk k))))) fp' xf' ∧ Sat X.K W H' fp' xf' ∧ Stp W H fp W H' ∧ (∀ a ∈ fp', a ∈ fp) ∧ σ'[i]? = some (some (.ref p0)) ∧ ∀ l ∈ pr, σ'[l]? = σ[l]?, ⟨us.length, by omega, fp1, xf1, ?_, S1, .refl, sub1, evi, fun _ _ => rfl⟩, fun k n σ' H' ⟨hl, fp', xf', E', S', t', sub', ep, hpr'⟩ => ?_⟩
  · have e0 : lk 0 = us.map .lst := by
      show (us.take 0).map _ ++ (us.drop 0).map OT.lst = _
      rw [List.take_zero, List.drop_zero] <;> rfl
    rw [e0, List.set_getElem_self_some (by rw [List.getElem?_set_ne (Ne.symm ne)]; exact ei)]
    exact E1
  have hel : i < env.length := (List.getElem?_eq_some_iff.mp ei).1
  have eik : ((env.set j none).set i (some (.nw (.lst (lk k)))))[i]? = some (some (.nw (.lst (lk k)))) := List.getElem?_set_self (by rw [List.length_set]; exact hel)
  have Pk : PlOk X.K W H' σ' ((env.set j none).set i (some (.nw (.lst (lk k))))) (.ref p0) i [] := ⟨_, _, _, eik, ep, .nil⟩
  obtain ⟨p1, vs1, g1, e1, hp1, w1, _⟩ := wr_list (pr := pr) E' S' Pk (tree_at eik rfl)
  cases e1
  have vl : vs1.length = us.length := by rw [w1.len, lkl]
  cases n with
  | zero =>
    refine .inl ⟨⟨vs1, .of hp1, by omega⟩, ?_⟩
    have ek : lk k = us.map fun u => .lst u.reverse := by
      show (us.take k).map _ ++ (us.drop k).map OT.lst = _
      rw [List.take_of_length_le (by omega), List.drop_eq_nil_of_le (by omega), List.map_nil, List.append_nil]
    rw [ek] at E'
    exact nx _ hn σ' W H' fp' xf' ⟨t', E', S', fun a m => .inl (sub' a m), hpr'⟩
  | succ n =>
    have hk : k < us.length := by omega
    refine .inr ⟨⟨vs1, vs1[k], .of hp1, List.getElem?_eq_getElem (by omega)⟩, fun σ2 H2 => ∃ fp' xf', EnvOk X.K W H2 σ2 ((env.set j none).set i (some (.nw (.lst (lk (k + 1)))))) fp' xf' ∧ Sat X.K W H2 fp' xf' ∧ Stp W H fp W H2 ∧ (∀ a ∈ fp', a ∈ fp) ∧ σ2[i]? = some (some (.ref p0)) ∧ ∀ l ∈ pr, σ2[l]? = σ[l]?, fun σ2 H2 h => ⟨n, Nat.lt_succ_self n, by omega, h⟩, fun x H2 hy => ?_⟩
    obtain ⟨rfl, hv⟩ := hy
    have exk := hv vs1 (.of hp1)
    -- the loop's name gets the item
    obtain ⟨f, fp2, xf2, E2, p2, x2, _⟩ := E'.clear j (some x)
    have ejk : ((env.set j none).set i (some (.nw (.lst (lk k)))))[j]? = some none := by
      rw [List.getElem?_set_ne ne, List.getElem?_set_self hjl]
    rw [set_same_none ejk] at E2
    have S2 := (S'.perm p2.symm x2).less
    have sub2 : ∀ a ∈ fp2, a ∈ fp := fun a m => sub' a (p2.mem_iff.mpr (List.mem_append_right _ m))
    have hlk : (lk k)[k]? = some (.lst us[k]) := by
      show ((us.take k).map (fun u => OT.lst u.reverse) ++ (us.drop k).map OT.lst)[k]? = _
      rw [List.getElem?_append_right (by rw [List.length_map, List.length_take]; omega), List.length_map, List.length_take, show k - min k us.length = 0 by omega, List.getElem?_map, List.getElem?_drop, Nat.add_zero, List.getElem?_eq_getElem hk] <;> rfl
    have Px : PlOk X.K W H2 (σ'.set j (some x)) ((env.set j none).set i (some (.nw (.lst (lk k))))) x i [k] := ⟨_, _, _, eik, by rw [List.getElem?_set_ne (Ne.symm ne)]; exact ep, .lst hp1 exk hlk .nil⟩
    have etx : tree ((env.set j none).set i (some (.nw (.lst (lk k))))) i [k] = some (.lst us[k]) := tree_at eik (by
      show ((lk k)[k]?).bind _ = _
      rw [hlk]
      rfl)
    obtain ⟨px, vsx, gx, rfl, hpx, wx, ndx, subx, kk⟩ := wr_list (pr := pr) E2 S2 Px etx
    obtain ⟨g', w', pm⟩ := own_rev wx
    obtain ⟨fp3, E3, S3, st3, y3⟩ := kk vsx.reverse us[k].reverse g' w' (pm.nodup_iff.mpr (List.nodup_cons.mp ndx).2) fun a m => by
      have m2 := pm.mem_iff.mp m
      have mf := subx a (List.mem_cons_of_mem _ m2)
      exact ⟨.inl m2, (S2.off a mf).1, (S2.off a mf).2.1⟩
    have eput : put ((env.set j none).set i (some (.nw (.lst (lk k))))) i [k] (.lst us[k].reverse) = (env.set j none).set i (some (.nw (.lst (lk (k + 1))))) := by
      rw [put_at eik, List.set_set]
      have e : (OT.lst (lk k)).put [k] (.lst us[k].reverse) = .lst ((lk k).set k (.lst us[k].reverse)) := put_kid (t := .lst (lk k)) hlk
      rw [e]
      have e2 : (lk k).set k (.lst us[k].reverse) = lk (k + 1) := by
        show ((us.take k).map (fun u => OT.lst u.reverse) ++ (us.drop k).map OT.lst).set k _ = (us.take (k + 1)).map (fun u => OT.lst u.reverse) ++ (us.drop (k + 1)).map OT.lst
        rw [List.set_append_right _ _ (by rw [List.length_map, List.length_take]; omega), List.length_map, List.length_take, show k - min k us.length = 0 by omega, List.drop_eq_getElem_cons hk, List.map_cons, List.set_cons_zero, List.take_succ_eq_append_getElem hk, List.map_append, List.append_assoc]
        rfl
      rw [e2]
    rw [eput] at E3
    refine ⟨.ref px, ?_, .inl ⟨rfl, _, .of hpx⟩, px, vsx, rfl, rfl, hpx, fp3, xf2, E3, S3, t'.trans st3 fun a m => .inl (sub2 a m), fun a m => ?_, by rw [List.getElem?_set_ne (Ne.symm ne)]; exact ep, fun l m => ?_⟩
    · rw [List.getElem?_set_self (by rw [E'.len, List.length_set, List.length_set]; exact hjl)]
    · rcases y3 a m with q | q
      · exact sub2 a q
      · exact sub2 a (subx a (List.mem_cons_of_mem _ (pm.mem_iff.mp q)))
    · rw [List.getElem?_set_ne (fun e => hpr (by rw [e]; exact m))]
      exact hpr' l m
end
end R
/-! ## the plain law of one step of a whole row; a round -/
namespace R
open PySem
/-- the member m enters the first cup of the row -/
def csc : List Nat → List Nat → List (List Nat) → Nat → List Nat → List (List Nat) × List Nat
  | [s], _, c :: cs, m, q => if c.length + 1 < s then ((c ++ [m]) :: cs, q) else ([] :: cs, q ++ (c ++ [m]))
  | s :: s2 :: ss, fw, c :: cs, m, q => if c.length + 1 < s then ((c ++ [m]) :: cs, q) else
      ([] :: (csc (s2 :: ss) (fw.drop 1) cs (pk (c ++ [m]) (pk fw 0)) (q ++ (c ++ [m]).eraseIdx (pk fw 0))).1, (csc (s2 :: ss) (fw.drop 1) cs (pk (c ++ [m]) (pk fw 0)) (q ++ (c ++ [m]).eraseIdx (pk fw 0))).2)
  | _, _, cs, _, q => (cs, q)
/-- cups that are not full -/
inductive Val : List Nat → List (List Nat) → Prop where
  | nil : Val [] []
  | cons {s : Nat} {ss : List Nat} {c : List Nat} {cs : List (List Nat)} : c.length < s → Val ss cs → Val (s :: ss) (c :: cs)
def ctr : List Nat → List (List Nat) → Nat
  | s :: ss, c :: cs => c.length + s * ctr ss cs
  | _, _ => 0
def prR : List Nat → Nat
  | [] => 1
  | s :: ss => s * prR ss
theorem prR_eq (sz : List Nat) : prodL sz = prR sz := by
  have key : ∀ (sz : List Nat) (a : Nat), sz.foldl (· * ·) a = a * prR sz := by
    intro sz
    induction sz with
    | nil => intro a; simp [prR]
    | cons s ss ih => intro a; rw [List.foldl_cons, ih, prR, Nat.mul_assoc]
  unfold prodL
  rw [key, Nat.one_mul]
theorem ctr_lt : ∀ {sz : List Nat} {cs : List (List Nat)}, Val sz cs → ctr sz cs < prR sz
  | _, _, .nil => by simp [ctr, prR]
  | _, _, .cons (s := s) (ss := ss) (cs := cs) h v => by
    have ih := ctr_lt v
    rw [ctr, prR]
    have : s * (ctr ss cs + 1) ≤ s * prR ss := Nat.mul_le_mul_left s ih
    rw [Nat.mul_succ] at this
    omega
/-- one step more, around the round -/
theorem csc_ctr : ∀ {sz fw : List Nat} {cs : List (List Nat)} {m : Nat} {q : List Nat}, sz ≠ [] → Val sz cs → Val sz (csc sz fw cs m q).1 ∧ ctr sz (csc sz fw cs m q).1 = if ctr sz cs + 1 < prR sz then ctr sz cs + 1 else 0
  | [], _, _, _, _, h, _ => absurd rfl h
  | [s], fw, _, m, q, _, .cons (c := c) (cs := cs) h v => by
    cases v
    rw [csc]
    by_cases k : c.length + 1 < s
    · rw [if_pos k]
      refine ⟨.cons (by simpa using k) .nil, ?_⟩
      simp [ctr, prR, k]
    · rw [if_neg k]
      refine ⟨.cons (by simp; omega) .nil, ?_⟩
      simp [ctr, prR, k]
  | s :: s2 :: ss, fw, _, m, q, _, .cons (c := c) (cs := cs) h v => by
    rw [csc]
    obtain ⟨v2, e2⟩ := csc_ctr (sz := s2 :: ss) (fw := fw.drop 1) (cs := cs) (m := pk (c ++ [m]) (pk fw 0)) (q := q ++ (c ++ [m]).eraseIdx (pk fw 0)) (by simp) v
    have lt := ctr_lt v
    by_cases k : c.length + 1 < s
    · rw [if_pos k]
      refine ⟨.cons (by simpa using k) v, ?_⟩
      have : s * (ctr (s2 :: ss) cs + 1) ≤ s * prR (s2 :: ss) := Nat.mul_le_mul_left s lt
      rw [Nat.mul_succ] at this
      rw [ctr, ctr, prR, List.length_append, List.length_singleton, if_pos (by omega)]
      omega
    · rw [if_neg k]
      refine ⟨.cons (by show 0 < s; omega) v2, ?_⟩
      have hs : c.length + 1 = s := by omega
      show 0 + s * ctr (s2 :: ss) _ = _
      have e4 : ctr (s :: s2 :: ss) (c :: cs) = c.length + s * ctr (s2 :: ss) cs := rfl
      have e5 : prR (s :: s2 :: ss) = s * prR (s2 :: ss) := rfl
      rw [e2, e4, e5]
      have e3 : c.length + s * ctr (s2 :: ss) cs + 1 = s * (ctr (s2 :: ss) cs + 1) := by rw [Nat.mul_succ]; omega
      rw [e3]
      by_cases z : ctr (s2 :: ss) cs + 1 < prR (s2 :: ss)
      · rw [if_pos z, if_pos (Nat.mul_lt_mul_of_pos_left z (by omega)), Nat.zero_add]
      · rw [if_neg z, if_neg (by
          intro y
          exact z (Nat.lt_of_mul_lt_mul_left y)), Nat.mul_zero]
def totM (cs : List (List Nat)) : Nat := (cs.map List.length).sum
theorem ctr_zero : ∀ {sz : List Nat} {cs : List (List Nat)}, Val sz cs → (ctr sz cs = 0 ↔ totM cs = 0)
  | _, _, .nil => by simp [ctr, totM]
  | _, _, .cons (s := s) (ss := ss) (c := c) (cs := cs) h v => by
    have ih := ctr_zero v
    show (c.length + s * ctr ss cs = 0) ↔ ((c :: cs).map List.length).sum = 0
    rw [List.map_cons, List.sum_cons]
    show _ ↔ c.length + totM cs = 0
    constructor
    · intro e
      have h0 : c.length = 0 := by omega
      have h1 : s * ctr ss cs = 0 := by omega
      rcases Nat.mul_eq_zero.mp h1 with z | z
      · omega
      · have := ih.mp z
        omega
    · intro e
      have h0 : c.length = 0 := by omega
      have := ih.mpr (by omega)
      rw [this, h0, Nat.mul_zero]
theorem tot_zero : ∀ {cs : List (List Nat)}, totM cs = 0 → cs = List.replicate cs.length []
  | [], _ => rfl
  | c :: cs, h => by
    have h : c.length + totM cs = 0 := h
    rw [List.length_cons, List.replicate_succ, ← tot_zero (cs := cs) (by omega), List.eq_nil_of_length_eq_zero (l := c) (by omega)]
theorem val_len {sz : List Nat} {cs : List (List Nat)} (v : Val sz cs) : cs.length = sz.length := by
  induction v with
  | nil => rfl
  | cons _ _ ih => rw [List.length_cons, List.length_cons, ih]
theorem val_nil : ∀ {sz : List Nat}, (∀ s ∈ sz, 1 ≤ s) → Val sz (List.replicate sz.length [])
  | [], _ => .nil
  | s :: ss, h => .cons (h s List.mem_cons_self) (val_nil fun x m => h x (List.mem_cons_of_mem _ m))
theorem ctr_nil : ∀ (sz : List Nat), ctr sz (List.replicate sz.length []) = 0
  | [] => rfl
  | s :: ss => by
    rw [List.length_cons, List.replicate_succ, ctr, ctr_nil ss]
    rfl
/-- nobody is lost -/
theorem csc_tot : ∀ {sz fw : List Nat} {cs : List (List Nat)} {m : Nat} {q : List Nat}, sz ≠ [] → fw.length + 1 = sz.length → (∀ i, i < fw.length → pk fw i < pk sz i) → Val sz cs → (csc sz fw cs m q).2.length + totM (csc sz fw cs m q).1 = q.length + totM cs + 1
  | [], _, _, _, _, h, _, _, _ => absurd rfl h
  | [s], fw, _, m, q, _, _, _, .cons (c := c) (cs := cs) h v => by
    cases v
    rw [csc]
    split
    · simp [totM]; omega
    · simp [totM]; omega
  | s :: s2 :: ss, fw, _, m, q, _, hf, hi, .cons (c := c) (cs := cs) h v => by
    rw [csc]
    have ih := csc_tot (sz := s2 :: ss) (fw := fw.drop 1) (cs := cs) (m := pk (c ++ [m]) (pk fw 0)) (q := q ++ (c ++ [m]).eraseIdx (pk fw 0)) (by simp) (by rw [List.length_drop]; simp at hf ⊢; omega) (fun i h => by
      rw [List.length_drop] at h
      have := hi (i + 1) (by omega)
      have e1 : pk (fw.drop 1) i = pk fw (i + 1) := by
        rw [pk_lt (by rw [List.length_drop]; omega), pk_lt (by omega), List.getElem_drop]
        congr 1
        omega
      rw [e1]
      exact this) v
    have h0 := hi 0 (by simp at hf; omega)
    have h0 : pk fw 0 < s := h0
    split
    · simp [totM]; omega
    · rename_i k
      have e : ∀ x : List (List Nat), totM ([] :: x) = totM x := fun x => by simp [totM]
      show (csc (s2 :: ss) _ _ _ _).2.length + totM ([] :: (csc (s2 :: ss) _ _ _ _).1) = _
      rw [e, ih, List.length_append, List.length_eraseIdx, List.length_append, List.length_singleton, if_pos (by omega)]
      show _ = q.length + (c.length + totM cs) + 1
      omega
/-- the row's step by the cascade of all its cups -/
theorem csc_casc : ∀ {sz fw : List Nat} {cs : List (List Nat)} {m : Nat} {q : List Nat}, sz ≠ [] → fw.length + 1 = sz.length → Val sz cs →
    ((casc sz (fw ++ [0]) cs m q).2.2 = none → csc sz fw cs m q = ((casc sz (fw ++ [0]) cs m q).1, (casc sz (fw ++ [0]) cs m q).2.1)) ∧
    ∀ m', (casc sz (fw ++ [0]) cs m q).2.2 = some m' → ∃ A row, row.length = pk sz fw.length ∧ m' = pk row 0 ∧ (casc sz (fw ++ [0]) cs m q).2.1 = A ++ row.eraseIdx 0 ∧ csc sz fw cs m q = ((casc sz (fw ++ [0]) cs m q).1, A ++ row)
  | [], _, _, _, _, h, _, _ => absurd rfl h
  | [s], fw, _, m, q, _, hf, .cons (c := c) (cs := cs) h v => by
    cases v
    have : fw = [] := List.eq_nil_of_length_eq_zero (by simpa using hf)
    subst this
    show ((casc [s] [0] [c] m q).2.2 = none → _) ∧ ∀ m', (casc [s] [0] [c] m q).2.2 = some m' → _
    rw [List.nil_append, casc, csc]
    by_cases k : c.length + 1 = s
    · rw [if_pos k, if_neg (by omega)]
      refine ⟨fun e => ?_, fun m' e => ⟨q, c ++ [m], ?_, ?_, ?_, ?_⟩⟩
      · cases e
      · rw [List.length_append, List.length_singleton, k] <;> rfl
      · cases e; rfl
      · rfl
      · rfl
    · rw [if_neg k, if_pos (by omega)]
      exact ⟨fun _ => rfl, fun m' e => by cases e⟩
  | s :: s2 :: ss, fw, _, m, q, _, hf, .cons (c := c) (cs := cs) h v => by
    obtain ⟨f, fw, rfl⟩ : ∃ f fw', fw = f :: fw' := by
      cases fw with
      | nil => simp at hf
      | cons f fw => exact ⟨f, fw, rfl⟩
    obtain ⟨i1, i2⟩ := csc_casc (sz := s2 :: ss) (fw := fw) (cs := cs) (m := pk (c ++ [m]) f) (q := q ++ (c ++ [m]).eraseIdx f) (by simp) (by simpa using hf) v
    show ((casc (s :: s2 :: ss) (f :: (fw ++ [0])) (c :: cs) m q).2.2 = none → _ = ((casc (s :: s2 :: ss) (f :: (fw ++ [0])) (c :: cs) m q).1, _)) ∧ ∀ m', (casc (s :: s2 :: ss) (f :: (fw ++ [0])) (c :: cs) m q).2.2 = some m' → _
    rw [List.cons_append, casc, csc]
    by_cases k : c.length + 1 = s
    · rw [if_pos k, if_neg (by omega)]
      refine ⟨fun e => ?_, fun m' e => ?_⟩
      · have := i1 e
        show ([] :: (csc (s2 :: ss) fw cs (pk (c ++ [m]) f) (q ++ (c ++ [m]).eraseIdx f)).1, (csc (s2 :: ss) fw cs (pk (c ++ [m]) f) (q ++ (c ++ [m]).eraseIdx f)).2) = _
        rw [this]
      · obtain ⟨A, row, a, b, d, g⟩ := i2 m' e
        refine ⟨A, row, a, b, d, ?_⟩
        show ([] :: (csc (s2 :: ss) fw cs (pk (c ++ [m]) f) (q ++ (c ++ [m]).eraseIdx f)).1, (csc (s2 :: ss) fw cs (pk (c ++ [m]) f) (q ++ (c ++ [m]).eraseIdx f)).2) = _
        rw [g]
    · rw [if_neg k, if_pos (by omega)]
      exact ⟨fun _ => rfl, fun m' e => by cases e⟩
/-- a whole round, from its last step -/
theorem round_end {sz fw : List Nat} {q : List Nat} (hl : fw.length + 1 = sz.length) (hs : ∀ i, i < sz.length → 1 ≤ pk sz i) (hi : ∀ i, i < fw.length → pk fw i < pk sz i) (hq : least sz sz.length ≤ q.length) :
    Run sz (fw ++ [0]) (prodL sz) (List.replicate sz.length []) q (pk q (ent sz (fw ++ [0]) sz.length q.length).1) ((ent sz (fw ++ [0]) sz.length q.length).2.map (pk q)) ∧
    ∀ A row, row.length = pk sz fw.length → pk q (ent sz (fw ++ [0]) sz.length q.length).1 = pk row 0 → (ent sz (fw ++ [0]) sz.length q.length).2.map (pk q) = A ++ row.eraseIdx 0 → A ++ row = (rnd sz fw q.length).map (pk q) := by
  have C : Cups sz (fw ++ [0]) sz.length := ⟨Nat.le_refl _, hs, fun i h => by
    by_cases k : i < fw.length
    · rw [pk_app k]; exact hi i k
    · have e : i = fw.length + 0 := by omega
      rw [e, pk_app2 (by simp)]
      exact hs _ (by omega)⟩
  have r := run_block (sz := sz) (fw := fw ++ [0]) C (by rw [List.length_append, List.length_singleton]; omega) hq
  rw [List.take_length, List.take_of_length_le (by rw [List.length_append, List.length_singleton]; omega)] at r
  refine ⟨r, fun A row h1 h2 h3 => ?_⟩
  have e1 : sz.length = fw.length + 1 := by omega
  have ec : ∀ n, ent sz (fw ++ [0]) fw.length n = ent sz fw fw.length n := fun n => ent_congr (fun _ _ => rfl) (fun i h => pk_app h) n
  have ef : fil sz (fw ++ [0]) fw.length q.length = fil sz fw fw.length q.length := by
    unfold fil
    rw [show ent sz (fw ++ [0]) fw.length = ent sz fw fw.length from funext ec]
  have p0 : pk (fw ++ [0]) fw.length = 0 := by
    have := pk_app2 (l := fw) (m := [0]) (i := 0) (by simp)
    rw [Nat.add_zero] at this
    rw [this] <;> rfl
  have ee : ent sz (fw ++ [0]) sz.length q.length = (pk (fil sz fw fw.length q.length).1 0, (fil sz fw fw.length q.length).2 ++ (fil sz fw fw.length q.length).1.eraseIdx 0) := by
    rw [e1]
    show (pk (fil sz (fw ++ [0]) fw.length q.length).1 (pk (fw ++ [0]) fw.length), (fil sz (fw ++ [0]) fw.length q.length).2 ++ (fil sz (fw ++ [0]) fw.length q.length).1.eraseIdx (pk (fw ++ [0]) fw.length)) = _
    rw [ef, p0]
  have hfl : (fil sz fw fw.length q.length).1.length = pk sz fw.length := by
    have C2 : Cups sz fw fw.length := ⟨by omega, fun i h => hs i (by omega), hi⟩
    have hq2 := hq
    rw [e1, least_succ (by omega)] at hq2
    have hl1 : 1 ≤ least sz fw.length := by unfold least; omega
    have := (fillN_perm (e := ent sz fw fw.length) (pk sz fw.length) ([], List.range q.length) (fun k hk => by
      show Pm (ent sz fw fw.length ((List.range q.length).length - k)) ((List.range q.length).length - k)
      rw [List.length_range]
      exact ent_perm C2 (by omega)) (by show pk sz fw.length ≤ (List.range q.length).length; rw [List.length_range]; omega)).2
    have b : (fil sz fw fw.length q.length).1.length = 0 + pk sz fw.length := this
    omega
  rw [ee] at h2 h3
  generalize hI : (fil sz fw fw.length q.length).1 = I at *
  generalize hRr : (fil sz fw fw.length q.length).2 = Rr at *
  have hs0 := hs fw.length (by omega)
  cases I with
  | nil => simp at hfl; omega
  | cons a I =>
    cases row with
    | nil => simp at h1; omega
    | cons b row =>
      have h2 : pk q a = b := h2
      have h3 : (Rr ++ I).map (pk q) = A ++ row := h3
      rw [List.map_append] at h3
      have hlen : (I.map (pk q)).length = row.length := by
        rw [List.length_map]
        simp at hfl h1
        omega
      obtain ⟨x1, x2⟩ := List.append_inj' h3 hlen
      unfold rnd
      rw [hI, hRr, List.map_append, List.map_cons, x1, x2, h2]
end R
/-! ## a call that changes its arguments: moved in, given back -/
namespace R
open PySem PySem.Spec PyProof.Rows L2
/-- an expression that may change what the slots hold -/
abbrev DX := Env → (Rs → Env → Prop) → Prop
def insAll : Env → List Nat → Env → Env
  | e, i :: is, some (.fz d) :: ss => insAll (e.set i (some (.fz d))) is ss
  | e, i :: is, some (.nw t) :: ss => insAll (e.set i (some (.nw t))) is ss
  | e, _ :: is, _ :: ss => insAll e is ss
  | e, _, _ => e
/-- f(names is, arguments ma): the names' objects are lent to be changed -/
def mCallV (n : Nat) (F : Spec) (is : List Nat) (ma : DA) (dv : List D) : DX := fun env Q => ∃ ts e, moveAll env is = some (ts, e) ∧ ma env fun rs => ∃ ds, rs = ds.map .fz ∧ ts.length + ds.length + dv.length = n ∧
  F ((ts.map fun t => some (nwOf t)) ++ (ds ++ dv).map fun d => some (.fz d)) fun r ss' => Q r (insAll e is ss')
def mDropX (a : DX) : DS := fun env D => a env fun _ e => D.nx e
def mRetX (a : DX) : DS := fun env D => a env D.rt
def mAsgX (i : Nat) (a : DX) : DS := fun env D => a env fun r e => ∃ d, r = .fz d ∧ D.nx (e.set i (some (.fz d)))
def mIfX (neg : Bool) (a : DX) (x y : DS) : DS := fun env D => a env fun r e => ∃ b, r = .fz (.bl b) ∧ if (b != neg) = true then x e D else y e D
def LM (K : PySem.W.Frag) (m : DX) : TE := fun σ H Q => ∃ (W : Wd) (env : Env) (fp xf : List Addr) (Q0 : Rs → Env → Prop), EnvOk K W H σ env fp xf ∧ Sat K W H fp xf ∧ m env Q0 ∧
  ∀ r e, Q0 r e → ∀ v W' H' fp' xf', Stp W H fp W' H' → EnvOk K W' H' σ e fp' xf' → Sat K W' H' fp' xf' → (∀ a ∈ fp', a ∈ fp ∨ H a = none) → RetOk K H fp fp' W' H' v r → Q v H'
/-- names, then arguments -/
def tVA (is : List Nat) (t : TA) : TA := fun σ H Q => ∃ vs, VarsAt σ is vs ∧ t σ H fun us H' => Q (vs ++ us) H'
section
variable {K : PySem.W.Frag} {W W1 W2 W' : Wd} {H H1 H2 H' : Hp} {f f1 fp fp1 fp2 xf xf1 xf2 : List Addr} {σ σ1 σ2 : L2.St} {Q : VK} {r : Rs} {v : V} {env env1 env2 : Env}
theorem moved_env : ∀ {vs : List V} {ts : List OT} {g : List Addr}, OwnAll K W H vs ts g → EnvOk K W H (vs.map some) (ts.map fun t => some (nwOf t)) g []
  | _, _, _, .nil => .nil
  | _, .leaf d :: _, _, .cons (.leaf q) w => .fz q (moved_env w)
  | _, .lst _ :: _, _, .cons o w => .nw o (moved_env w)
  | _, .tup _ :: _, _, .cons o w => .nw o (moved_env w)
  | _, .ins _ _ _ :: _, _, .cons o w => .nw o (moved_env w)
  | _, .d0 :: _, _, .cons o w => .nw o (moved_env w)
theorem ins_ok : ∀ {is : List Nat} {vs more : List V} {ss : Env} {e : Env} {fpA fpB xfA xfB : List Addr}, VarsAt σ is vs → EnvOk K W H ((vs ++ more).map some) ss fpB xfB → EnvOk K W H σ e fpA xfA → Sat K W H (fpB ++ fpA) xfA →
    ∃ fp2 xf2, EnvOk K W H σ (insAll e is ss) fp2 xf2 ∧ Sat K W H fp2 xf2 ∧ ∀ a ∈ fp2, a ∈ fpB ∨ a ∈ fpA
  | [], vs, more, ss, e, fpA, fpB, xfA, xfB, hv, E', E, S => by
    refine ⟨fpA, xfA, ?_, S.less, fun a m => .inr m⟩
    cases ss with
    | nil => exact E
    | cons s ss => exact E
  | i :: is, vs, more, ss, e, fpA, fpB, xfA, xfB, ⟨v, us, ev, es, hv⟩, E', E, S => by
    subst ev
    have E' : EnvOk K W H (some v :: (us ++ more).map some) ss fpB xfB := E'
    have ses : σ.set i (some v) = σ := List.set_getElem_self_some es
    cases E' with
    | no E2 =>
      obtain ⟨fp2, xf2, a, b, c⟩ := ins_ok (is := is) hv E2 E S
      exact ⟨fp2, xf2, a, b, c⟩
    | @fz _ d _ _ _ _ q E2 =>
      obtain ⟨fp', xf', E3, S3, y⟩ := E.put (i := i) (fr := fpB) (f := []) (r := .fz d) (v := v) S ⟨rfl, q⟩
      rw [ses] at E3
      obtain ⟨fp2, xf2, a, b, c⟩ := ins_ok hv E2 E3 S3
      exact ⟨fp2, xf2, a, b, fun x m => (c x m).imp id fun m => (y x m).elim (fun z => by cases z) id⟩
    | @nw _ t f _ _ fpB' _ q E2 =>
      have S1 : Sat K W H (fpB' ++ (f ++ fpA)) xfA := S.perm (by
        rw [← List.append_assoc]
        exact List.perm_append_comm.append_right _) fun _ m => m
      obtain ⟨fp', xf', E3, S3, y⟩ := E.put (i := i) (fr := fpB') (f := f) (r := .nw t) (v := v) S1 q
      rw [ses] at E3
      obtain ⟨fp2, xf2, a, b, c⟩ := ins_ok hv E2 E3 S3
      exact ⟨fp2, xf2, a, b, fun x m => (c x m).elim (fun m => .inl (List.mem_append_right _ m)) fun m => (y x m).elim (fun z => .inl (List.mem_append_left _ z)) .inr⟩
    | ex q E2 =>
      obtain ⟨fp2, xf2, a, b, c⟩ := ins_ok (is := is) hv E2 E S
      exact ⟨fp2, xf2, a, b, c⟩
theorem fz_args : ∀ {ds : List D} {vs : List V} {g : List Addr}, ResAll K H fp W' H' vs (ds.map .fz) g → RepAll K W' vs ds ∧ g = []
  | [], _, _, h => by cases h; exact ⟨.nil, rfl⟩
  | d :: ds, _, _, h => by
    cases h with
    | fz a b =>
      obtain ⟨c, e⟩ := fz_args b
      exact ⟨.cons a c, e⟩
end
section
variable {X : Cx} {CX : CXT} {k n : Nat} {f : Addr} {fd : FuncData} {ps : List Str} {F0 : Spec} {dvs : List V} {dv : List D} {ds : List Value} {E : XK} {x nm : Str} {p pos apos : Pos} {e a : Expr} {es : List Expr} {ma : DA} {ta : DT} {pr : List Nat} {is : List Nat} {m m1 m2 : DS} {mx : DX} {s1 s2 : List Stmt} {i : Nat}
theorem dva_nil {t : TA} (h : PA X es t) : PA X es (tVA [] t) := pa_imp h fun σ H Q ⟨vs, e, q⟩ => by
  rw [show vs = [] from e] at q
  exact q
theorem dva_cons {t : TA} (hr : PA X es (tVA is t)) (hv : PE X (.Name nm apos) (tVar i)) (hs : starEach (.Name nm apos :: es) X.env = (false, eval (.Name nm apos) X.env) :: starEach es X.env := by rfl) : PA X (.Name nm apos :: es) (tVA (i :: is) t) :=
  pa_imp (pa_cons hv hr hs) fun σ H Q ⟨vs, ⟨v, us, e, ev, q⟩, k⟩ => by
    subst e
    exact ⟨v, ev, us, q, k⟩
theorem callV_ok {σ : L2.St} {H : Hp} {Q : VK} {vs : List V} {W : Wd} {env : Env} {fp xf : List Addr} {Q0 : Rs → Env → Prop} {ts : List OT} {e0 : Env} (En : EnvOk X.K W H σ env fp xf) (S : Sat X.K W H fp xf) (hmv : moveAll env is = some (ts, e0)) (hd : ∀ W, RepAll X.K W dvs dv)
    (k : ∀ r e, Q0 r e → ∀ v W' H' fp' xf', Stp W H fp W' H' → EnvOk X.K W' H' σ e fp' xf' → Sat X.K W' H' fp' xf' → (∀ a ∈ fp', a ∈ fp ∨ H a = none) → RetOk X.K H fp fp' W' H' v r → Q v H')
    (hma : ma env fun rs => ∃ ds, rs = ds.map .fz ∧ ts.length + ds.length + dv.length = n ∧ F0 ((ts.map fun t => some (nwOf t)) ++ (ds ++ dv).map fun d => some (.fz d)) fun r ss' => Q0 r (insAll e0 is ss')) :
    tVA is (LA X.K ma) σ H fun us H1 => spR X.K n F0 (us ++ dvs) H1 Q E := by
  obtain ⟨vs, g, fp1, xf1, hv, ow, E1, S1, pm, xsub⟩ := move_ok En S hmv
  refine ⟨vs, hv, LA.next En S hma fun rs ⟨dsD, e1, hn, hF⟩ us W1 H1 g1 t1 St1 E2 os G => ?_⟩
  subst e1
  obtain ⟨rus, rfl⟩ := fz_args os
  have le1 := t1.le S fun _ m => by cases m
  have ing : ∀ a ∈ g, a ∈ fp := fun a m => pm.mem_iff.mpr (List.mem_append_left _ m)
  have in1 : ∀ a ∈ fp1, a ∈ fp := fun a m => pm.mem_iff.mpr (List.mem_append_right _ m)
  obtain ⟨n1, n2, n3⟩ := List.nodup_append.mp (pm.nodup_iff.mp S.nd)
  have keep1 : ∀ a, a ∈ fp ∨ a ∈ xf → ∀ o, H a = some o → H1 a = some o := fun a m o e => t1.kp a o e (by simp) (m.elim (fun q => (S.off a q).2.1) fun q => (S.xof a q).2.1)
  have ow1 := ow.mono le1 fun a m => keep1 a (.inl (ing a m))
  have Ea := moved_env ow1
  have Ec := EnvOk.consts (K := X.K) (W := W1) (H := H1) (rus.app (hd W1))
  obtain ⟨xa, Eall, xz⟩ := Ec.app Ea
  have ex0 : xa = [] := by
    cases xa with
    | nil => rfl
    | cons b bs => rcases xz b List.mem_cons_self with q | q <;> cases q
  subst ex0
  rw [List.append_nil] at Eall
  have Eall : EnvOk X.K W1 H1 ((vs ++ us ++ dvs).map some) ((ts.map fun t => some (nwOf t)) ++ (dsD ++ dv).map fun d => some (.fz d)) g [] := by
    have w := Eall
    rw [← List.map_append, ← List.append_assoc] at w
    exact w
  have Sg : Sat X.K W1 H1 g [] := ⟨St1.sub, St1.vol, n1, fun a m => St1.off a (ing a m), fun _ m => by cases m⟩
  have hlen : (vs ++ us ++ dvs).length = n := by
    rw [List.length_append, List.length_append, ow.len, rus.len, (hd W1).len]
    exact hn
  refine ⟨hlen, W1, _, g, [], _, Eall, Sg, hF, fun r ss' hq v W' H' fp' xf' t' E' S' nf ro => ?_⟩
  have E0 : EnvOk X.K W1 H1 σ e0 fp1 xf1 := E1.mono le1 fun a m => keep1 a (m.elim (fun q => .inl (in1 a q)) fun q => .inr (xsub a q))
  have le2 := t'.le Sg fun a m => .inl m
  have offg : ∀ a, a ∈ fp1 ∨ a ∈ xf1 → a ∉ g ∧ W1.S a = none ∧ H1 a ≠ none := fun a m => by
    rcases m with m | m
    · exact ⟨fun q => n3 a q a m rfl, (St1.off a (in1 a m)).2.1, (St1.off a (in1 a m)).2.2⟩
    · exact ⟨fun q => (S.xof a (xsub a m)).1 (ing a q), (St1.xof a (xsub a m)).2.1, (St1.xof a (xsub a m)).2.2⟩
  have E3 : EnvOk X.K W' H' σ e0 fp1 xf1 := E0.mono le2 fun a m o e => t'.kp a o e (offg a m).1 (offg a m).2.1
  have nfp : ∀ a ∈ fp', a ∉ fp1 ∧ a ∉ xf1 := fun a m => by
    refine ⟨fun q => ?_, fun q => ?_⟩
    · rcases nf a m with z | z
      · exact (offg a (.inl q)).1 z
      · exact (offg a (.inl q)).2.2 z
    · rcases nf a m with z | z
      · exact (offg a (.inr q)).1 z
      · exact (offg a (.inr q)).2.2 z
  have wx : ∀ a, a ∈ fp1 ∨ a ∈ xf1 → W'.G a = W1.G a ∧ W'.S a = W1.S a := fun a m => t'.wx a (offg a m).2.2 (offg a m).1
  have S3 : Sat X.K W' H' (fp' ++ fp1) xf1 := by
    refine ⟨S'.sub, S'.vol, List.nodup_append.mpr ⟨S'.nd, n2, fun a m b m2 e => (nfp a m).1 (by rw [e]; exact m2)⟩, fun a m => ?_, fun a m => ⟨fun q => ?_, ?_⟩⟩
    · rcases List.mem_append.mp m with m | m
      · exact S'.off a m
      · obtain ⟨w1, w2⟩ := wx a (.inl m)
        exact ⟨w1.trans (St1.off a (in1 a m)).1, w2.trans (St1.off a (in1 a m)).2.1, t'.al a (offg a (.inl m)).2.2⟩
    · rcases List.mem_append.mp q with q | q
      · exact (nfp a q).2 m
      · exact (S.xof a (xsub a m)).1 (in1 a q)
    · obtain ⟨w1, w2⟩ := wx a (.inr m)
      exact ⟨w2.trans (offg a (.inr m)).2.1, t'.al a (offg a (.inr m)).2.2⟩
  have E' : EnvOk X.K W' H' ((vs ++ (us ++ dvs)).map some) ss' fp' xf' := by rw [← List.append_assoc]; exact E'
  obtain ⟨fp2, xf2, E4, S4, y4⟩ := ins_ok hv E' E3 S3
  have none1 : ∀ a, H1 a = none → H a = none := fun a q => by
    cases z : H a with
    | none => rfl
    | some o => exact absurd q (t1.al a (some_ne z))
  have old : ∀ a ∈ fp', a ∈ fp ∨ H a = none := fun a m => (nf a m).imp (ing a) (none1 a)
  refine k r _ hq v W' H' fp2 xf2 (t1.up.trans t' fun a m => .inl (ing a m)) E4 S4 (fun a m => (y4 a m).elim (old a) fun m => .inl (in1 a m)) ?_
  cases r with
  | fz d => exact ro
  | nw t =>
    obtain ⟨fr, o, nd, z⟩ := ro
    refine ⟨fr, o, nd, fun a m => ⟨(z a m).1.elim (fun q => .inl (none1 a q)) fun q => .inr (ing a q), fun q => ?_, (z a m).2.2⟩⟩
    rcases y4 a q with q | q
    · exact (z a m).2.1 q
    · rcases (z a m).1 with w | w
      · exact (offg a (.inl q)).2.2 w
      · exact (offg a (.inl q)).1 w
  | br t => exact ro
  | ex t => exact ro
/-- the callee as it is called, with what it changes -/
structure CalIO (P : Program) (w : World) (K : PySem.W.Frag) (mg : Str → Option Value) (base : Heap) (x : Str) (n : Nat) (F : Spec) (dv : List D) (k : Nat) : Prop where
  ex : ∃ (f : Addr) (fd : FuncData) (ps : List Str) (ds : List Value) (dvs : List V), FnOk P w K mg base CX0 k f fd ps (spR K n F) ∧ mg x = some (.ref f) ∧ PySem.W.keepIn K (.ref f) = true ∧ Binds K fd ps ds ∧ Vals dvs ds ∧ ∀ W, RepAll K W dvs dv
theorem dm_cal {j : Nat} (c : CalIO X.prog X.w X.K X.mg X.base x n F0 dv k) (hr : Room j X.A) (hk : k ≤ j) (ha : PA X (e :: es) (tVA is (LA X.K ma)))
    (hg : Gl X x := by rfl) (hst : starEach (e :: es) X.env = (false, eval e X.env) :: starEach es X.env := by rfl) (hpl : (backTo pos (starEach es X.env)).any (·.1) = false := by rfl) (hdb : (x == ("__debug__" : Str)) = false := by decide) :
    PE X (.Call (.Name x p) (e :: es) [] pos) (LM X.K (mCallV n F0 is ma dv)) := by
  obtain ⟨f, fd, ps, ds, dvs, F, hm, kp, b, d, r⟩ := c.ex
  refine pe_imp (pe_call F (hr.mono hk) hg hm kp b d (pass0 (X := X)) ha hdb hst hpl) fun σ H Q h => ?_
  obtain ⟨W, env, fp, xf, Q0, En, S, ⟨ts, e0, hmv, hma⟩, kk⟩ := h
  exact callV_ok (vs := []) En S hmv r kk hma
theorem ds_dropX (ha : PE X a (LM X.K mx)) (hs : swapsWith a none pos.line X.env = pure false := by rfl) : PS X (.Expr a pos) (LS X.K pr (mDropX mx)) := ps_imp (ps_expr ha hs) fun D σ H h => by
  obtain ⟨W, env, fp, xf, K0, E, S, hm, nx, bk, ct, rt⟩ := h
  exact ⟨W, env, fp, xf, _, E, S, hm, fun r e hq v W' H' fp' xf' t E' S' nf ro => nx e hq σ W' H' fp' xf' ⟨t, E', S', nf, fun _ _ => rfl⟩⟩
theorem ds_retX (ha : PE X a (LM X.K mx)) : PS X (.Return (some a) pos) (LS X.K pr (mRetX mx)) := ps_imp (ps_ret ha) fun D σ H h => by
  obtain ⟨W, env, fp, xf, K0, E, S, hm, nx, bk, ct, rt⟩ := h
  exact ⟨W, env, fp, xf, _, E, S, hm, fun r e hq v W' H' fp' xf' t E' S' nf ro => rt r e hq v σ W' H' fp' xf' ⟨t, E', S', nf, fun _ _ => rfl⟩ ro⟩
theorem ds_asgX {i : Nat} {p : Pos} (hN : X.N.Nodup) (hi : X.N[i]? = some x) (ha : PE X a (LM X.K mx)) (hx : Loc X.env.scope x := by first | exact Or.inl rfl | exact Or.inr rfl) (hp : i ∉ pr := by decide) (hs : swapsWith a (some (.Name x p)) pos.line X.env = pure false := by rfl)
    (hf : X.fn x = true ∨ X.env.scope.names.lookup x = some .local := by first | exact .inl rfl | exact .inr rfl | assumption) : PS X (.Assign [.Name x p] a pos) (LS X.K pr (mAsgX i mx)) := ps_imp (ps_set hN hi hx ha hs hf) fun D σ H h => by
  obtain ⟨W, env, fp, xf, K0, E, S, hm, nx, bk, ct, rt⟩ := h
  refine ⟨W, env, fp, xf, _, E, S, hm, fun r e ⟨d, hr, hq⟩ v W' H' fp' xf' t E' S' nf ro => ?_⟩
  subst hr
  have P : Post X.K W H fp pr σ σ W' H' e fp' xf' := ⟨t, E', S', nf, fun _ _ => rfl⟩
  obtain ⟨fp2, xf2, P2⟩ := Post.store (i := i) (pr := pr) (r := .fz d) (v := v) S' .refl E' S' ro trivial hp
  exact nx _ hq _ W' H' fp2 xf2 (P.trans P2)
theorem LSs.post {W W' : Wd} {H H' : Hp} {fp fp' xf' : List Addr} {σ : L2.St} {e : Env} {D : Ends} {K0 : DK} (P : Post X.K W H fp pr σ σ W' H' e fp' xf') (hm : m e K0)
    (nx : ∀ e, K0.nx e → ∀ σ' W' H' fp' xf', Post X.K W H fp pr σ σ' W' H' e fp' xf' → D.nx σ' H') (bk : ∀ e, K0.bk e → ∀ σ' W' H' fp' xf', Post X.K W H fp pr σ σ' W' H' e fp' xf' → D.bk σ' H') (ct : ∀ e, K0.ct e → ∀ σ' W' H' fp' xf', Post X.K W H fp pr σ σ' W' H' e fp' xf' → D.ct σ' H')
    (rt : ∀ r e, K0.rt r e → ∀ v σ' W' H' fp' xf', Post X.K W H fp pr σ σ' W' H' e fp' xf' → RetOk X.K H fp fp' W' H' v r → D.rt v H') : LS X.K pr m D σ H' :=
  ⟨W', e, fp', xf', K0, P.E, P.S, hm, fun e q σ' W2 H2 fp2 xf2 P2 => nx e q σ' W2 H2 fp2 xf2 (P.trans P2), fun e q σ' W2 H2 fp2 xf2 P2 => bk e q σ' W2 H2 fp2 xf2 (P.trans P2), fun e q σ' W2 H2 fp2 xf2 P2 => ct e q σ' W2 H2 fp2 xf2 (P.trans P2),
    fun r e q v σ' W2 H2 fp2 xf2 P2 ro => rt r e q v σ' W2 H2 fp2 xf2 (P.trans P2) (ro.back P)⟩
theorem ds_ifX (ha : PE X a (LM X.K mx)) (h1 : PSs X s1 (LS X.K pr m1)) (h2 : PSs X s2 (LS X.K pr m2)) (he : ∀ whole, isTrue a X.env whole = (do let v ← whole; standAt a.pos; holding [v] (truthy v)) := by intro _; rfl) : PS X (.If a s1 s2 pos) (LS X.K pr (mIfX false mx m1 m2)) := ps_imp (ps_if (pt_val ha he) h1 h2) fun D σ H h => by
  obtain ⟨W, env, fp, xf, K0, E, S, hm, nx, bk, ct, rt⟩ := h
  refine ⟨W, env, fp, xf, _, E, S, hm, fun r e ⟨b, hr, hq⟩ v W' H' fp' xf' t E' S' nf ro => ?_⟩
  subst hr
  have P : Post X.K W H fp pr σ σ W' H' e fp' xf' := ⟨t, E', S', nf, fun _ _ => rfl⟩
  have ev : v = .bl b := by cases (show Rep X.K W' v (.bl b) from ro); rfl
  refine ⟨b, ev, ?_⟩
  cases b with
  | true => exact iteT (LSs.post P hq nx bk ct rt)
  | false => exact iteF (LSs.post P hq nx bk ct rt)
theorem ds_ifXn {npos : Pos} (ha : PE X a (LM X.K mx)) (h1 : PSs X s1 (LS X.K pr m1)) (h2 : PSs X s2 (LS X.K pr m2)) (he : ∀ whole, isTrue a X.env whole = (do let v ← whole; standAt a.pos; holding [v] (truthy v)) := by intro _; rfl) : PS X (.If (.UnaryOp .Not a npos) s1 s2 pos) (LS X.K pr (mIfX true mx m1 m2)) := ps_imp (ps_if (pt_not (pt_val ha he)) h1 h2) fun D σ H h => by
  obtain ⟨W, env, fp, xf, K0, E, S, hm, nx, bk, ct, rt⟩ := h
  refine ⟨W, env, fp, xf, _, E, S, hm, fun r e ⟨b, hr, hq⟩ v W' H' fp' xf' t E' S' nf ro => ?_⟩
  subst hr
  have P : Post X.K W H fp pr σ σ W' H' e fp' xf' := ⟨t, E', S', nf, fun _ _ => rfl⟩
  have ev : v = .bl b := by cases (show Rep X.K W' v (.bl b) from ro); rfl
  refine ⟨b, ev, ?_⟩
  cases b with
  | true => exact iteF (LSs.post P hq nx bk ct rt)
  | false => exact iteT (LSs.post P hq nx bk ct rt)
end
end R
/-! ## len(set(texts)), texts walked letter by letter, a letter in a text, xs[::-1], repr of an int, two owned stores at once -/
namespace R
open PySem PySem.Spec PyProof.Rows L2
section
variable {prog : Program} {w : World} {A : Around}
theorem strs_get : ∀ {vs : List Value} {xs : List Str}, PyProof.Rows.StrsAre vs xs → ∀ (i : Nat) (v : Value), vs[i]? = some v → ∃ t, v = .str (xs.getD i Str.empty) t
  | _, _, .nil, i, v, h => by simp at h
  | _, _, .cons n t hr, 0, v, h => ⟨t, by simp at h; rw [← h]; rfl⟩
  | _, _, .cons n t hr, i + 1, v, h => by
    obtain ⟨t2, e2⟩ := strs_get hr i v (by simpa using h)
    exact ⟨t2, by rw [e2]; rfl⟩
/-- the set's filling: the texts are all different -/
theorem fill_loop {Rz : Result → Shared → Prop} {it : Addr} {fpr wrr : List Addr} {Gs : Array GenState → Array GenState → Prop} {m : Nat} {Pv : Nat → Value → Prop} {Sv : Nat → Shared → Prop} (wk : WalksS prog w A.in1 it fpr wrr Gs m Pv Sv) (sa : Addr) (off : sa ∉ fpr) (xs : List Str) (len : xs.length = m) (dif : xs.Nodup) (few : m ≤ 1000)
    (isx : ∀ i v, Pv i v → ∃ t, v = .str (xs.getD i Str.empty) t) : ∀ (todo i : Nat) (st : Shared), m - i = todo → i ≤ m → Sv i st → st.heap.SetOf (PySem.strKind prog w) sa (fun z => decide (z ∈ xs.take i)) i →
      (∀ st2, Moved (sa :: wrr) Gs st st2 → st2.heap.SetOf (PySem.strKind prog w) sa (fun z => decide (z ∈ xs)) m → Rz (.ok (.ret .none)) st2) → codeAny (model prog w) A (.builtin "set.update.loop" ⟨[.ref sa, .ref it], []⟩) Rz st := by
  have nw : sa ∉ wrr := fun q => off (wk.sub _ q)
  have up : ∀ b ∈ wrr, b ∈ sa :: wrr := fun b q => .tail _ q
  have moved : ∀ {a b : Shared} {S : Str → Bool} {c : Nat}, Moved wrr Gs a b → a.heap.SetOf (PySem.strKind prog w) sa S c → b.heap.SetOf (PySem.strKind prog w) sa S c := fun mv ⟨o, es, ep, tb, ho, z⟩ => ⟨o, es, ep, tb, mv.heap sa _ nw ho, z⟩
  intro todo
  induction todo with
  | zero =>
    intro i st h1 h2 here so fin
    obtain rfl : i = m := by omega
    rw [← len, List.take_length, len] at so
    apply codeAny_builtin PyProof.Rows.F.entry_set_update_loop
    rw [Around.under_plainId PyProof.Rows.F.plain_set_update_loop _]
    show wpAny _ A.in1 (pyNext (.ref it) >>= _) _ _ st
    exact wpAny_bind (wk.done st _ _ here fun st2 mv => wpAny_pure (fin st2 (mv.mono up) (moved mv so)))
  | succ todo ih =>
    intro i st h1 h2 here so fin
    have lt : i < m := by omega
    apply codeAny_builtin PyProof.Rows.F.entry_set_update_loop
    rw [Around.under_plainId PyProof.Rows.F.plain_set_update_loop _]
    show wpAny _ A.in1 (pyNext (.ref it) >>= _) _ _ st
    refine wpAny_bind (wk.item i st _ _ lt here fun v st2 hv here2 mv => ?_)
    obtain ⟨t, rfl⟩ := isx i v hv
    have so2 := moved mv so
    show wpAny _ A.in1 (holding [Value.str (xs.getD i Str.empty) t] (setAdd sa (.str (xs.getD i Str.empty) t)) >>= _) _ _ st2
    unfold setAdd
    refine wpAny_bind (wpAny_holding (wpAny_holding (wpAny_bind ((PySem.strKind prog w).pyHash (k := xs.getD i Str.empty) (strKind_is _ _ _ _) ?_))))
    refine wpAny_setAddHashed_of (knd := PySem.strKind prog w) (s := { st2 with toks := st2.toks + 1 }) (strKind_is _ _ _ _) rfl so2 (by unfold scanBound; omega) fun hp same so3 => ?_
    have hi : i < xs.length := by omega
    have gd : xs.getD i Str.empty = xs[i] := by rw [List.getD_eq_getElem?_getD, List.getElem?_eq_getElem hi] <;> rfl
    have newx : xs[i] ∉ xs.take i := fun q => by
      obtain ⟨j, hj, e⟩ := List.getElem_of_mem q
      rw [List.getElem_take] at e
      rw [List.length_take] at hj
      have := (List.getElem_inj dif).mp e
      omega
    have so4 : hp.SetOf (PySem.strKind prog w) sa (fun z => decide (z ∈ xs.take (i + 1))) (i + 1) := SetOf_congr so3 (fun z => by
      rw [gd, List.take_succ_eq_append_getElem hi, ← Bool.decide_or]
      exact decide_eq_decide.mpr (by rw [List.mem_append, List.mem_singleton])) (by
      rw [gd, decide_eq_false newx]
      rfl)
    refine wpAny_pure ⟨plainId_quiet PyProof.Rows.F.plain_set_update_loop _, ih (i + 1) _ (by omega) lt (wk.frame _ st2 _ _ here2 (Nat.le_succ _) fun b q o e => ?_) so4 fun st3 mv3 so5 => fin st3 (Moved.trans wk.gtrans ((mv.mono up).then_heap (Nat.le_succ _) fun b o q e => ?_) mv3) so5⟩
    · rw [same.2 b fun z => off (z ▸ q)]
      exact e
    · rw [same.2 b fun z => q (z ▸ List.mem_cons_self)]
      exact e
/-- set(a list of different texts) -/
theorem set_strs {st : Shared} {E : Value → Shared → Prop} {la : Addr} {its : Array Value} {xs : List Str} {Q : Value → Shared → Prop} (calm : A.handled = none) (isl : st.heap.IsList la its) (tx : PyProof.Rows.StrsAre its.toList xs) (dif : xs.Nodup) (few : xs.length ≤ 1000)
    (fin : ∀ (hp : Heap) (tk : Nat), hp.SetOf (PySem.strKind prog w) st.heap.objs.size (fun z => decide (z ∈ xs)) xs.length → (∀ b o, b < st.heap.objs.size → st.heap.get? b = some o → hp.get? b = some o) → Q (.ref st.heap.objs.size) { st with heap := hp, toks := tk }) :
    wpAny (model prog w) A (call (.type "set") [.ref la]) Q E st := by
  obtain ⟨c, tl, hmro⟩ := PySem.F.called_set.mro
  have m1 := PySem.F.called_set.made
  have m2 := PySem.F.called_set.sub
  have m3 := PySem.F.called_set.notType
  have m4 := PySem.F.called_set.canCreate
  have m5 := PySem.F.typeCall_set_1 (.ref la)
  refine wpAny_call (codeAny_of_tree (show wpAny _ _ (callAny (.type "set") _) _ _ _ from wpAny_pure ⟨Code.quiet_builtin _ (by decide +kernel), codeAny_builtin PySem.F.entry_type_call ?_⟩))
  rw [Around.under_plain (weight_type_call_type "set" [.ref la] []) rfl]
  repeat (any_goals (first | assumption | wp_step))
  -- the new set
  refine codeAny_mono (code_set_new_1 (.ref la) (E := E) (Q₁ := fun ob s1 => ob = .ref st.heap.objs.size ∧ ∃ b : Bool, s1 = { st with heap := st.heap.push { cls := .type "set", dict := none, data := .set #[] 0 (.fresh 0 0 b) } }) fun b => ⟨rfl, b, rfl⟩) fun r s1 hr => ?_
  match r, hr with
  | .error _, hr => exact hr
  | .ok .next, hr => exact hr.elim
  | .ok .brk, hr => exact hr.elim
  | .ok .cont, hr => exact hr.elim
  | .ok (.ret ob), ⟨eo, b, es⟩ =>
    subst eo es
    generalize hob : ({ cls := .type "set", dict := none, data := .set #[] 0 (.fresh 0 0 b) } : Obj) = nob
    have at0 : (st.heap.push nob).get? st.heap.objs.size = some nob := Heap.get?_push_size _ (by rw [← hob] <;> rfl)
    have ty0 : Shared.TypeIs { st with heap := st.heap.push nob } (.ref st.heap.objs.size) "set" := ⟨_, at0, by rw [← hob] <;> rfl⟩
    have i1 := PySem.F.called_set.init.lookup
    have i2 := PySem.F.called_set.init.bind (.ref st.heap.objs.size)
    repeat (any_goals (first | assumption | wp_step))
    refine codeAny_mono (codeAny_call_builtin (R := wants (fun r s2 => r = .none ∧ ∃ hp tk, s2 = { st with heap := hp, toks := tk } ∧ hp.SetOf (PySem.strKind prog w) st.heap.objs.size (fun z => decide (z ∈ xs)) xs.length ∧
      (∀ b o, b < st.heap.objs.size → st.heap.get? b = some o → hp.get? b = some o)) E) PySem.F.called_set.init.plain PySem.F.entry_set_init (check_set_init_1 ty0 ?_)) fun r s2 hr => ?_
    · obtain ⟨⟨oc, od, odt, osl⟩, get, ec, nn, ed⟩ := isl
      simp only at ec ed
      subst ec ed
      subst hob
      have get2 : (st.heap.push { cls := .type "set", dict := none, data := .set #[] 0 (.fresh 0 0 b) }).get? la = some { cls := .type "list", dict := od, data := .seq its nn, slots := osl } := Heap.get?_push_of_some _ get
      have isl2 : (st.heap.push { cls := .type "set", dict := none, data := .set #[] 0 (.fresh 0 0 b) }).IsList la its := ⟨_, get2, rfl, nn, rfl⟩
      have s1 := PySem.F.sub_list_set
      have s2 := PySem.F.sub_list_frozenset
      have s3 : (Value.type "list" == Value.type "dict") = false := by decide
      unfold Builtin.«set.__init__» noKeywords Builtin.Frozenset.updateFrom
      generalize hit : pyIter = PI
      wp_walk
      subst hit
      refine wpAny_pyIter_list isl2 (wpAny_bind (wpAny_runValue ?_))
      have low : la < st.heap.objs.size := Heap.lt_size get
      have calm3 : A.in1.in1.in1.handled = none := by simp [calm]
      have ne1 : la ≠ (st.heap.push { cls := .type "set", dict := none, data := .set #[] 0 (.fresh 0 0 b) }).objs.size := by
        rw [Heap.size_push]
        exact fun e => Nat.lt_irrefl _ (Nat.lt_of_lt_of_le low (Nat.le_trans (Nat.le_succ _) (Nat.le_of_eq e.symm)))
      have off : st.heap.objs.size ∉ [(st.heap.push { cls := .type "set", dict := none, data := .set #[] 0 (.fresh 0 0 b) }).objs.size, la] := by
        rw [Heap.size_push]
        intro q
        rcases List.mem_cons.mp q with e | q
        · exact Nat.lt_irrefl _ (Nat.lt_of_lt_of_le (Nat.lt_succ_self _) (Nat.le_of_eq e.symm))
        · exact Nat.lt_irrefl _ (Nat.lt_of_lt_of_le low (Nat.le_of_eq (List.mem_singleton.mp q)))
      have sz : xs.length = its.size := by rw [← StrsAre.len_eq tx, Array.length_toList]
      refine fill_loop ((Walks.list calm3 _ la ne1 its).toS) st.heap.objs.size off xs sz dif (by omega) (fun i v hv => strs_get tx i v (by rw [Array.getElem?_toList]; exact hv)) (its.size - 0) 0 _ (by omega) (Nat.zero_le _) ⟨⟨_, Heap.get?_push_size _ rfl, rfl, rfl⟩, (isl2.push _)⟩ ?_ ?_
      · have g3 : ((st.heap.push { cls := .type "set", dict := none, data := .set #[] 0 (.fresh 0 0 b) }).push { cls := .type "list_iterator", data := .fields #[.ref la, .int 0 0] }).get? st.heap.objs.size = some { cls := .type "set", dict := none, data := .set #[] 0 (.fresh 0 0 b) } := Heap.get?_push_of_some _ at0
        exact SetOf_congr ((PyProof.Rows.setObjOf_fresh (knd := PySem.strKind prog w) b).setOf g3 (by unfold scanBound; omega)) (fun z => by simp) rfl
      · intro st2 mv so
        obtain ⟨h2, g2, d2, t2, o2⟩ := st2
        have e1 : g2 = st.gens := mv.gens
        have e2 : d2 = st.drawn := mv.drawn
        have e3 : o2 = st.os := mv.os
        subst e1 e2 e3
        show wpAny _ _ _ _ _ _
        refine wpAny_pure (show wpAny _ _ (ret Value.none) _ _ _ from wpAny_pure ⟨rfl, h2, t2, rfl, by rw [sz]; exact so, fun b o q e => ?_⟩)
        refine mv.heap b o (fun z => ?_) (Heap.get?_push_of_some _ (Heap.get?_push_of_some _ e))
        rcases List.mem_cons.mp z with e | z
        · exact Nat.lt_irrefl _ (Nat.lt_of_lt_of_le q (Nat.le_of_eq e.symm))
        · have e := List.mem_singleton.mp z
          rw [Heap.size_push] at e
          exact Nat.lt_irrefl _ (Nat.lt_of_lt_of_le q (Nat.le_trans (Nat.le_succ _) (Nat.le_of_eq e.symm)))
    · match r, hr with
      | .error _, hr => exact hr
      | .ok .next, hr => exact hr.elim
      | .ok .brk, hr => exact hr.elim
      | .ok .cont, hr => exact hr.elim
      | .ok (.ret _), ⟨e1, hp, tk, e2, so, kp⟩ =>
        subst e1 e2
        repeat (any_goals (first | assumption | wp_step))
        exact fin _ _ so kp
end
end R
/-! ## further rules for texts and lists -/
namespace R
open PySem PySem.Spec PyProof.Rows L2
def mLenSet (a : DE) : DE := fun env Q => a env fun x => ∃ ds xs, x.ffz.els true = some ds ∧ allOf D.str? ds = some xs ∧ xs.Nodup ∧ xs.length ≤ 1000 ∧ Q (.fz (.int xs.length))
/-- a text, letter by letter -/
def mItS (a : DE) : DI := fun env Q => a env fun x => ∃ z, x.ffz = .fz (.str z) ∧ Q true (z.cps.toList.map fun c => Rs.fz (.str ⟨#[c]⟩))
/-- a letter in a text -/
def oInS (neg : Bool) (x y : Rs) (Q : Rs → Prop) : Prop := ∃ (c : Nat) (z : Str), x = .fz (.str ⟨#[c]⟩) ∧ y = .fz (.str z) ∧ Q (.fz (.bl (decide (c ∈ z.cps.toList) != neg)))
def oRev (r : Rs) (Q : Rs → Prop) : Prop := ∃ ds, r.els true = some ds ∧ Q (.nw (.lst (ds.reverse.map .leaf)))
def oRepr : List Rs → (Rs → Prop) → Prop
  | [.fz (.int i)], Q => i.natAbs.log2 < 1920 ∧ Q (.fz (.str (toString i)))
  | _, _ => False
/-- x, y = a, b (held alone or frozen) -/
def mPar2 (i j : Nat) (a b : DE) : DS := fun env D => a env fun x => b env fun y => x.own ∧ y.own ∧ D.nx ((env.set i (some x)).set j (some y))
section
variable {X : Cx} {tg a b c : Expr} {x y : Str} {ma mb mc : DE} {pos : Pos} {mr : DA} {pr : List Nat} {pl : DP}
theorem RepAll.rev {K : PySem.W.Frag} {W : Wd} : ∀ {vs : List V} {ds : List D}, RepAll K W vs ds → RepAll K W vs.reverse ds.reverse
  | _, _, .nil => .nil
  | _, _, .cons q r => by
    rw [List.reverse_cons, List.reverse_cons]
    exact RepAll.app (RepAll.rev r) (.cons q .nil)
def tLenS (K : PySem.W.Frag) (ta : TE) : TE := fun σ H Q => ta σ H fun x H1 => ∃ (l : Addr) (xs : List Str), x = .ref l ∧ SqL K H1 l (xs.map V.str) ∧ xs.Nodup ∧ xs.length ≤ 1000 ∧ Q (.int (xs.length : Nat)) H1
theorem pe_lenS {ta : TE} {p p2 q : Pos} (hc : X.calm = true) (hg : Gl X "len") (hm : X.mg "len" = none) (hg2 : Gl X "set") (hm2 : X.mg "set" = none) (ha : PE X a ta) (na : starEach [a] X.env = (false, eval a X.env) :: starEach [] X.env) :
    PE X (.Call (.Name "len" p) [.Call (.Name "set" p2) [a] [] q] [] pos) (tLenS X.K ta) := by
  refine ⟨fun pins s σ H Q I h => Call_ (ld_blt I hg hm boot_len (PyProof.Rows.callWith_builtin1 (PyProof.Rows.args_cons (Call_ (ld_blt I hg2 hm2 boot_set (PyProof.Rows.callWith_type1 (PyProof.Rows.args_cons (thn (ha.run pins s σ H _ I h) fun v s1 ⟨z, H1, I1, r1, q1⟩ => PyProof.Rows.args_nil ?_) na) na rfl))) rfl) rfl rfl))⟩
  obtain ⟨la, ws, rfl, hq, hnd, few, q2⟩ := q1
  cases r1
  obtain ⟨its, rv, isl, _⟩ := I1.list hq
  have tx : PyProof.Rows.StrsAre its ws := strsAre_of rv
  refine set_strs (I1.ok.hd hc) isl.isList (by simpa using tx) hnd few fun hp tk so kp => PyProof.Rows.args_nil ?_
  obtain ⟨o, es, ep, t, ho, hex, hd, _, _, _, hf, hn⟩ := so
  have I2 : Inv X pins σ H1 { s1 with heap := hp, toks := tk } := I1.kept fun b o e => kp b o (Heap.lt_size e) e
  exact call_len_set ho hex hd hf (by rw [hn] <;> omega) ⟨.int ws.length, H1, I2.tok _, ⟨_, by rw [hn]⟩, q2⟩
theorem dp_lenSet {p p2 q : Pos} (hc : X.calm = true) (hm : X.mg "len" = none) (hm2 : X.mg "set" = none) (ha : PE X a (LP X.K ma)) (hg : Gl X "len" := by rfl) (hg2 : Gl X "set" := by rfl) (na : starEach [a] X.env = (false, eval a X.env) :: starEach [] X.env := by rfl) :
    PE X (.Call (.Name "len" p) [.Call (.Name "set" p2) [a] [] q] [] pos) (LP X.K (mLenSet ma)) := pe_imp (pe_lenS hc hg hm hg2 hm2 ha na) fun σ H Q h => by
  obtain ⟨W, env, fp, xf, Q0, E, S, hm, k⟩ := h
  refine LP.next E S hm fun r ⟨ds, xs, e1, e2, nd, few, hq⟩ v W1' H1 t1' S1' E1' o' => ?_
  obtain ⟨W1, t1, S1, _, o⟩ := ffz_ok S t1' S1' o'
  obtain ⟨p, us, rfl, g, rr⟩ := els_L e1 o S1
  have e3 := allOf_strs e2 rr
  subst e3
  exact ⟨p, xs, rfl, .of g, nd, few, k _ hq _ W1 H1 t1 S1 (.int _)⟩
theorem di_str (ha : PE X a (LP X.K ma)) : PI X tg a (LI X.K (mItS ma)) := pi_imp (pi_str ha) fun σ H R h => by
  obtain ⟨W, env, fp, xf, Q0, E, S, hm, k⟩ := h
  refine LP.next E S hm fun r ⟨z, e1, hq⟩ v W1' H1 t1' S1' E1' o' => ?_
  obtain ⟨W1, t1, S1, _, o⟩ := ffz_ok S t1' S1' o'
  rw [e1] at o
  refine ⟨z, str_of o, k _ _ hq _ W1 H1 t1 S1 fun f _ _ W' H' fp' xf' t l S' y => ⟨fun i hi => ?_, fun i hi => ?_, fun i u H'' r hy hx => ?_⟩⟩
  · rw [List.length_map] at hi
    exact (by simpa using hi : z.cps.size ≤ i)
  · rw [List.length_map] at hi
    exact (by simpa using hi : i < z.cps.size)
  · obtain ⟨rfl, c, hc, rfl⟩ := hy
    rw [List.getElem?_map, Array.getElem?_toList, hc] at hx
    cases hx
    exact ⟨.refl, S', Rep.str _⟩
theorem r_inS {σ : L2.St} {H : Hp} {Q : VK} {neg : Bool} {r2 : R2} (hr2 : ∀ c z H Q, Q (.bl (decide (c ∈ z.cps.toList) != neg)) H → r2 (.str ⟨#[c]⟩) (.str z) H Q) (h : LP X.K (mOp (oInS neg) ma mb) σ H Q) : tOp r2 (LP X.K ma) (LP X.K mb) σ H Q :=
  h.two fun W fp xf Q0 r1 r2 v1 v2 W2 H2 hr O o1 o2 => by
    obtain ⟨c, z, rfl, rfl, q⟩ := hr
    rw [str_of o1, str_of o2]
    exact hr2 c z H2 Q (O.fin q (.bl _))
theorem dp_inS (ha : PE X a (LP X.K ma)) (hb : PE X b (LP X.K mb)) (hm : behindInMarks .In b = false := by rfl) : PE X (.Compare a [.In] [b] pos) (LP X.K (mOp (oInS false) ma mb)) := pe_imp (pe_cmpR op_in_sign ha hb hm) fun _ _ _ h =>
  r_inS (fun c z H Q q => ⟨c, z, rfl, rfl, by rw [Bool.bne_false] at q; exact q⟩) h
theorem dp_revL {k : Nat} {p1 p2 p3 : Pos} (ha : PE X a (LP X.K ma)) : PE X (.Subscript a (.Slice none none (some (.UnaryOp .USub (.Constant (.int 1) k p1) p2)) p3) pos) (LP X.K (mUn oRev ma)) := pe_imp (pe_revL ha) fun σ H Q h =>
  h.one fun W fp xf Q0 r1 v1 W2 H2 hr O o1 => by
    obtain ⟨ds, e, q⟩ := hr
    obtain ⟨p, vs, rfl, g, rs⟩ := els_L e o1 O.S2
    exact ⟨p, vs, rfl, .of g, fun l n => O.newL q rs.rev l n⟩
theorem dp_repr {p : Pos} (hm : X.mg "repr" = none) (ha : PA X [a] (LA X.K mr)) (hg : Gl X "repr" := by rfl) (hs : starEach [a] X.env = (false, eval a X.env) :: starEach [] X.env := by rfl) : PE X (.Call (.Name "repr" p) [a] [] pos) (LP X.K (mB oRepr mr)) :=
  dp_callB SkE.call_repr_int (fun H Q W fp xf Q0 rs vs W2 H2 g hr O os F => by
    unfold oRepr at hr
    split at hr
    · obtain ⟨v, rfl, o⟩ := os.one F
      exact ⟨_, congrArg (fun z => [z]) (int_of o), hr.1, O.fin hr.2 (.str _)⟩
    · exact hr.elim) hm (by decide +kernel) ha hg (hs := hs)
theorem own_cells {K : PySem.W.Frag} {H H1 : Hp} {fp : List Addr} {W1 : Wd} {v : V} {r : Rs} {g : List Addr} (o : ResAll K H fp W1 H1 [v] [r] g) (h : r.own) : ∀ fq, SlotOk K W1 H1 fq v r g := fun fq => by
  cases r with
  | fz d => cases o with | fz q z => cases z; exact ⟨rfl, q⟩
  | nw t => cases o with | nw q z => cases z; rw [List.append_nil]; exact q
  | br t => exact h.elim
  | ex t => exact h.elim
theorem ds_par2 {i j : Nat} {px py pt : Pos} {kt k2 pt2} (hc : X.calm = true) (hN : X.N.Nodup) (hi : X.N[i]? = some x) (hj : X.N[j]? = some y) (hij : i ≠ j) (ha : PE X a (LP X.K ma)) (hb : PE X b (LP X.K mb))
    (hx : X.env.scope.names.lookup x = some .local := by rfl) (hy : X.env.scope.names.lookup y = some .local := by rfl) (hp : i ∉ pr := by decide) (hp2 : j ∉ pr := by decide)
    (h1 : starEach [a, b] X.env = (false, eval a X.env) :: starEach [b] X.env := by rfl) (h2 : starEach [b] X.env = (false, eval b X.env) :: starEach [] X.env := by rfl)
    (hw : swappedStores [.Tuple [.Name x px, .Name y py] kt pt] (.Tuple [a, b] k2 pt2) X.env = pure (some [x, y]) := by rfl) (hs : swapsWithSole [.Tuple [.Name x px, .Name y py] kt pt] (.Tuple [a, b] k2 pt2) pos.line X.env = pure false := by rfl) :
    PS X (.Assign [.Tuple [.Name x px, .Name y py] kt pt] (.Tuple [a, b] k2 pt2) pos) (LS X.K pr (mPar2 i j ma mb)) :=
  ps_imp (ps_par hc hN hi hj hij hx hy (da_cons ha (da_cons hb da_nil h2) h1) hw hs) fun D σ H h => by
  obtain ⟨W, env, fp, xf, K0, E, S, hm, nx, bk, ct, rt⟩ := h
  refine LA.next (m := mCons ma (mCons mb mNil)) E S (Q1 := par2 fun r s => r.own ∧ s.own ∧ K0.nx ((env.set i (some r)).set j (some s))) hm fun rs hr vs W1 H1 g t1 S1 E1 os F => ?_
  obtain ⟨r, s, rfl, o1, o2, hn⟩ := par2_inv hr
  obtain ⟨v, us, f1, g2, rfl, rfl, a1, os2⟩ := os.head
  obtain ⟨w, us2, f2, g3, rfl, rfl, a2, os3⟩ := os2.head
  obtain ⟨rfl, rfl⟩ := os3.nil_inv
  rw [List.append_nil] at F os
  obtain ⟨n1, n2, n3⟩ := List.nodup_append.mp F.1
  have new : ∀ z, z ∈ f1 ∨ z ∈ f2 → H z = none ∧ W1.G z = none ∧ W1.S z = none := fun z m => F.2 z (List.mem_append.mpr m)
  have al : ∀ z, z ∈ f1 ∨ z ∈ f2 → H1 z ≠ none := fun z m => os.cells z (List.mem_append.mpr m)
  have nfp : ∀ z, z ∈ f1 ∨ z ∈ f2 → z ∉ fp ∧ z ∉ xf := fun z m => ⟨fun q => (S.off z q).2.2 (new z m).1, fun q => (S.xof z q).2.2 (new z m).1⟩
  have S2 : Sat X.K W1 H1 (f2 ++ (f1 ++ fp)) xf := by
    refine ⟨S1.sub, S1.vol, List.nodup_append.mpr ⟨n2, List.nodup_append.mpr ⟨n1, S1.nd, fun z m z' m' e => (nfp z (.inl m)).1 (by rw [e]; exact m')⟩, fun z m z' m' e => ?_⟩, fun z m => ?_, fun z m => ⟨fun q => ?_, (S1.xof z m).2⟩⟩
    · subst e
      rcases List.mem_append.mp m' with q | q
      · exact n3 z q z m rfl
      · exact (nfp z (.inr m)).1 q
    · rcases List.mem_append.mp m with m | m
      · exact ⟨(new z (.inr m)).2.1, (new z (.inr m)).2.2, al z (.inr m)⟩
      · rcases List.mem_append.mp m with m | m
        · exact ⟨(new z (.inl m)).2.1, (new z (.inl m)).2.2, al z (.inl m)⟩
        · exact S1.off z m
    · rcases List.mem_append.mp q with q | q
      · exact (nfp z (.inr q)).2 m
      · rcases List.mem_append.mp q with q | q
        · exact (nfp z (.inl q)).2 m
        · exact (S1.xof z m).1 q
  obtain ⟨fp3, xf3, E3, S3, y3⟩ := E1.put (i := i) (fr := f2) (f := f1) (r := r) (v := v) S2 (own_cells a1 o1 _)
  obtain ⟨fp4, xf4, E4, S4, y4⟩ := E3.put (i := j) (fr := []) (f := f2) (r := s) (v := w) S3 (own_cells a2 o2 _)
  refine ⟨v, w, rfl, nx _ hn _ W1 H1 fp4 xf4 ⟨t1.up, E4, S4, fun z m => ?_, fun k m => ?_⟩⟩
  · rcases y4 z m with q | q
    · exact .inr (new z (.inr q)).1
    · rcases y3 z q with q | q
      · exact .inr (new z (.inl q)).1
      · exact .inl q
  · rw [List.getElem?_set_ne (fun e => hp2 (by rw [e]; exact m)), List.getElem?_set_ne (fun e => hp (by rw [e]; exact m))]
end
end R
/-! ## states of names: the plain laws -/
namespace R
open PySem
/-- the members of a state -/
def memb (q : List Nat) (cs : List (List Nat)) : List Nat := q ++ cs.flatten
theorem totM_flat (cs : List (List Nat)) : cs.flatten.length = totM cs := by
  induction cs with
  | nil => rfl
  | cons c cs ih =>
    have : totM (c :: cs) = c.length + totM cs := by simp [totM]
    rw [List.flatten_cons, List.length_append, ih, this]
theorem perm_erase {l : List Nat} {i : Nat} (h : i < l.length) : (l.eraseIdx i ++ [pk l i]).Perm l := by
  rw [pk_lt h, List.eraseIdx_eq_take_drop_succ, List.append_assoc]
  have e : l = l.take i ++ ([l[i]] ++ l.drop (i + 1)) := by
    rw [List.singleton_append, ← List.drop_eq_getElem_cons h, List.take_append_drop]
  exact (List.perm_append_comm.append_left (l.take i)).trans (.of_eq e.symm)
/-- a step permutes the members -/
theorem csc_perm : ∀ {sz fw : List Nat} {cs : List (List Nat)} {m : Nat} {q : List Nat}, sz ≠ [] → fw.length + 1 = sz.length → (∀ i, i < fw.length → pk fw i < pk sz i) → Val sz cs → (memb (csc sz fw cs m q).2 (csc sz fw cs m q).1).Perm (m :: memb q cs)
  | [], _, _, _, _, h, _, _, _ => absurd rfl h
  | [s], fw, _, m, q, _, _, _, .cons (c := c) (cs := cs) h v => by
    cases v
    rw [csc]
    split
    · show (q ++ ((c ++ [m]) ++ [])).Perm (m :: (q ++ (c ++ [])))
      rw [List.append_nil, List.append_nil, ← List.append_assoc]
      exact List.perm_append_comm (l₂ := [m])
    · show (q ++ (c ++ [m]) ++ []).Perm (m :: (q ++ (c ++ [])))
      rw [List.append_nil, List.append_nil, ← List.append_assoc]
      exact List.perm_append_comm (l₂ := [m])
  | s :: s2 :: ss, fw, _, m, q, _, hf, hi, .cons (c := c) (cs := cs) h v => by
    rw [csc]
    have h0 : pk fw 0 < s := hi 0 (by simp at hf; omega)
    split
    · show (q ++ ((c ++ [m]) ++ cs.flatten)).Perm (m :: (q ++ (c ++ cs.flatten)))
      rw [List.append_assoc, ← List.append_assoc q, ← List.append_assoc q]
      exact List.perm_middle
    · rename_i k
      have ih := csc_perm (sz := s2 :: ss) (fw := fw.drop 1) (cs := cs) (m := pk (c ++ [m]) (pk fw 0)) (q := q ++ (c ++ [m]).eraseIdx (pk fw 0)) (by simp) (by rw [List.length_drop]; simp at hf ⊢; omega) (fun i h => by
        rw [List.length_drop] at h
        have := hi (i + 1) (by omega)
        have e1 : pk (fw.drop 1) i = pk fw (i + 1) := by
          rw [pk_lt (by rw [List.length_drop]; omega), pk_lt (by omega), List.getElem_drop]
          congr 1
          omega
        rw [e1]
        exact this) v
      show (memb (csc (s2 :: ss) _ _ _ _).2 (csc (s2 :: ss) _ _ _ _).1).Perm (m :: (q ++ (c ++ cs.flatten)))
      refine ih.trans ?_
      have hl : pk fw 0 < (c ++ [m]).length := by rw [List.length_append, List.length_singleton]; omega
      have e := perm_erase hl
      show (pk (c ++ [m]) (pk fw 0) :: ((q ++ (c ++ [m]).eraseIdx (pk fw 0)) ++ cs.flatten)).Perm _
      have a : (pk (c ++ [m]) (pk fw 0) :: ((q ++ (c ++ [m]).eraseIdx (pk fw 0)) ++ cs.flatten)).Perm (q ++ ((c ++ [m]).eraseIdx (pk fw 0) ++ [pk (c ++ [m]) (pk fw 0)]) ++ cs.flatten) := by
        rw [← List.append_assoc q, List.append_assoc _ [_] cs.flatten]
        exact (List.perm_middle (l₁ := q ++ (c ++ [m]).eraseIdx (pk fw 0)) (l₂ := cs.flatten)).symm
      refine a.trans (((e.append_left q).append_right cs.flatten).trans ?_)
      show (q ++ (c ++ [m]) ++ cs.flatten).Perm (m :: (q ++ (c ++ cs.flatten)))
      rw [← List.append_assoc q, List.append_assoc _ [m], ← List.append_assoc q]
      exact List.perm_middle
/-- the last cup's members, if it empties -/
def cgr : List Nat → List Nat → List (List Nat) → Nat → Option (List Nat)
  | [s], _, c :: _, m => if c.length + 1 < s then none else some (c ++ [m])
  | s :: s2 :: ss, fw, c :: cs, m => if c.length + 1 < s then none else cgr (s2 :: ss) (fw.drop 1) cs (pk (c ++ [m]) (pk fw 0))
  | _, _, _, _ => none
theorem val_tot : ∀ {sz : List Nat} {cs : List (List Nat)}, Val sz cs → totM cs + sz.length ≤ sz.sum
  | _, _, .nil => by simp [totM]
  | _, _, .cons (s := s) (ss := ss) (c := c) (cs := cs) h v => by
    have ih := val_tot v
    have e : totM (c :: cs) = c.length + totM cs := by simp [totM]
    rw [e, List.length_cons, List.sum_cons]
    omega
theorem val_sum : ∀ {sz : List Nat} {cs : List (List Nat)}, Val sz cs → ∀ s ∈ sz, 1 ≤ s
  | _, _, .nil => by simp
  | _, _, .cons (s := s) (ss := ss) (c := c) (cs := cs) h v => by
    intro x m
    rcases List.mem_cons.mp m with rfl | m
    · omega
    · exact val_sum v x m
/-! counters as sums -/
def cLen (cs : List (List Nat)) (k : Nat) : Nat := (cs.getD k []).length
theorem ctr_sum : ∀ {sz : List Nat} {cs : List (List Nat)}, Val sz cs → ctr sz cs = ((List.range cs.length).map fun k => cLen cs k * prodL (sz.take k)).sum := by
  have key : ∀ {sz : List Nat} {cs : List (List Nat)}, Val sz cs → ∀ a, a * ctr sz cs = ((List.range cs.length).map fun k => cLen cs k * (a * prR (sz.take k))).sum := by
    intro sz cs v
    induction v with
    | nil => intro a; simp [ctr]
    | cons h v ih =>
      rename_i s ss c cs
      intro a
      rw [List.length_cons, List.range_succ_eq_map, List.map_cons, List.sum_cons, List.map_map]
      have e := ih (a * s)
      have e1 : ctr (s :: ss) (c :: cs) = c.length + s * ctr ss cs := rfl
      rw [e1, Nat.mul_add, ← Nat.mul_assoc, e]
      have e2 : cLen (c :: cs) 0 = c.length := rfl
      rw [e2, List.take_zero, show prR [] = 1 from rfl, Nat.mul_one, Nat.mul_comm]
      congr 2
      apply List.map_congr_left
      intro k hk
      show cLen cs k * (a * s * prR (ss.take k)) = cLen cs k * (a * (s * prR (ss.take k)))
      rw [Nat.mul_assoc a s]
  intro sz cs v
  have := key v 1
  rw [Nat.one_mul] at this
  rw [this]
  congr 1
  apply List.map_congr_left
  intro k hk
  rw [Nat.one_mul, prR_eq]
/-! names of letters -/
def lval (l : List Nat) : Nat := l.foldl (fun a c => 26 * a + (c - 96)) 0
theorem lval_cons (c : Nat) (l : List Nat) : lval (c :: l) = (c - 96) * 26 ^ l.length + lval l := by
  have key : ∀ (l : List Nat) (a : Nat), l.foldl (fun a c => 26 * a + (c - 96)) a = a * 26 ^ l.length + lval l := by
    intro l
    induction l with
    | nil => intro a; simp [lval]
    | cons c l ih =>
      intro a
      have e1 : lval (c :: l) = l.foldl (fun a c => 26 * a + (c - 96)) (26 * 0 + (c - 96)) := rfl
      rw [List.foldl_cons, ih, e1, ih (26 * 0 + (c - 96)), List.length_cons, Nat.pow_succ, Nat.add_mul, Nat.mul_zero, Nat.zero_add]
      have : 26 * a * 26 ^ l.length = a * (26 ^ l.length * 26) := by rw [Nat.mul_comm 26 a, Nat.mul_assoc, Nat.mul_comm 26]
      omega
  have e1 : lval (c :: l) = l.foldl (fun a c => 26 * a + (c - 96)) (26 * 0 + (c - 96)) := rfl
  rw [e1, key, Nat.mul_zero, Nat.zero_add]
theorem lval_ge : ∀ {l : List Nat}, (∀ c ∈ l, 97 ≤ c) → 26 ^ l.length ≤ 26 * lval l + 1
  | [], _ => by simp [lval]
  | c :: l, h => by
    have ih := lval_ge (l := l) fun x m => h x (List.mem_cons_of_mem _ m)
    have h1 := h c List.mem_cons_self
    rw [lval_cons, List.length_cons, Nat.pow_succ]
    have : 1 * 26 ^ l.length ≤ (c - 96) * 26 ^ l.length := Nat.mul_le_mul_right _ (by omega)
    omega
/-- as many of each: places of a stride -/
theorem stride_inj {n s a b : Nat} (hg : Nat.gcd s n = 1) (ha : a < n) (hb : b < n) (h : (a * s) % n = (b * s) % n) : a = b := by
  have key : ∀ {a b : Nat}, a ≤ b → b < n → (a * s) % n = (b * s) % n → a = b := by
    intro a b hab hb h
    have d : n ∣ b * s - a * s := Nat.dvd_of_mod_eq_zero (Nat.sub_mod_eq_zero_of_mod_eq h.symm)
    rw [← Nat.sub_mul] at d
    have c : Nat.Coprime n s := by rw [Nat.coprime_comm]; exact hg
    have d2 : n ∣ b - a := c.dvd_of_dvd_mul_right d
    rcases Nat.eq_zero_or_pos (b - a) with z | z
    · omega
    · have := Nat.le_of_dvd z d2
      omega
  rcases Nat.le_total a b with q | q
  · exact key q hb h
  · exact (key q ha h.symm).symm
theorem stride_cop {n s : Nat} (hn : n ≤ 40) (h0 : 1 ≤ n) (hs : s ∈ [3, 7, 11]) (hd : n % s ≠ 0) : Nat.gcd s n = 1 := by
  have key : ∀ n : Fin 41, ∀ s ∈ [3, 7, 11], n.val % s ≠ 0 → Nat.gcd s n.val = 1 := by decide +kernel
  exact key ⟨n, by omega⟩ s hs hd
/-! a whole round of counters -/
def marks (n c i : Nat) : List Nat := (List.range n).map fun p => if (p + n - c) % n < i then 1 else 0
theorem marks_zero (n c : Nat) : marks n c 0 = List.replicate n 0 := by
  unfold marks
  have : (fun p => if (p + n - c) % n < 0 then 1 else 0) = fun _ : Nat => 0 := by
    funext p
    rw [if_neg (Nat.not_lt_zero _)]
  rw [this, List.map_const', List.length_range]
theorem marks_full {n c : Nat} : marks n c n = List.replicate n 1 := by
  unfold marks
  rw [show List.replicate n 1 = (List.range n).map fun _ => 1 from by rw [List.map_const', List.length_range]]
  apply List.map_congr_left
  intro p hp
  have := List.mem_range.mp hp
  rw [if_pos (Nat.mod_lt _ (by omega))]
theorem marks_at {n c i : Nat} (hc : c < n) (hi : i < n) : (marks n c i)[(c + i) % n]? = some 0 := by
  have hm := Nat.mod_lt (c + i) (show 0 < n by omega)
  unfold marks
  rw [List.getElem?_map, List.getElem?_range hm]
  have : ((c + i) % n + n - c) % n = i := by
    by_cases z : c + i < n
    · rw [Nat.mod_eq_of_lt z, show c + i + n - c = i + n from by omega, Nat.add_mod_right, Nat.mod_eq_of_lt hi]
    · have e : (c + i) % n = c + i - n := by rw [Nat.mod_eq_sub_mod (by omega), Nat.mod_eq_of_lt (by omega)]
      rw [e, show c + i - n + n - c = i from by omega, Nat.mod_eq_of_lt hi]
  show some (if _ then _ else _) = _
  rw [this, if_neg (Nat.lt_irrefl _)]
theorem marks_set {n c i : Nat} (hc : c < n) (hi : i < n) : (marks n c i).set ((c + i) % n) 1 = marks n c (i + 1) := by
  have hm := Nat.mod_lt (c + i) (show 0 < n by omega)
  apply List.ext_getElem
  · simp [marks]
  · intro p h1 h2
    have hp : p < n := by simpa [marks] using h2
    rw [List.getElem_set]
    simp only [marks, List.getElem_map, List.getElem_range]
    have key : ((p + n - c) % n = i) ↔ (c + i) % n = p := by
      by_cases z : c + i < n
      · rw [Nat.mod_eq_of_lt z]
        by_cases y : c ≤ p
        · rw [show p + n - c = (p - c) + n from by omega, Nat.add_mod_right, Nat.mod_eq_of_lt (by omega)]
          omega
        · rw [Nat.mod_eq_of_lt (a := p + n - c) (by omega)]
          omega
      · have e : (c + i) % n = c + i - n := by rw [Nat.mod_eq_sub_mod (by omega), Nat.mod_eq_of_lt (by omega)]
        rw [e]
        by_cases y : c ≤ p
        · rw [show p + n - c = (p - c) + n from by omega, Nat.add_mod_right, Nat.mod_eq_of_lt (by omega)]
          omega
        · rw [Nat.mod_eq_of_lt (a := p + n - c) (by omega)]
          omega
    by_cases e : (c + i) % n = p
    · rw [if_pos e, if_pos (by rw [key.mpr e]; omega)]
    · rw [if_neg e]
      have : (p + n - c) % n ≠ i := fun z => e (key.mp z)
      by_cases y : (p + n - c) % n < i
      · rw [if_pos y, if_pos (by omega)]
      · rw [if_neg y, if_neg (by omega)]
end R
/-! ## zip of a list and a tuple -/
namespace R
open PySem PySem.Spec PyProof.Rows L2
def ItzM (K : PySem.W.Frag) (a b : Addr) : It :=
  ⟨fun i H => ∃ (xs ys : List V) (x y : V), SqL K H a xs ∧ SqT K H b ys ∧ xs[i]? = some x ∧ ys[i]? = some y,
    fun i H v H' => ∃ T x y, v = .ref T ∧ H T = none ∧ H' = upd H T (.tup [x, y]) ∧ (∀ xs, SqL K H a xs → xs[i]? = some x) ∧ ∀ ys, SqT K H b ys → ys[i]? = some y,
    fun i H => ∃ xs ys : List V, SqL K H a xs ∧ SqT K H b ys ∧ (xs.length ≤ i ∨ ys.length ≤ i)⟩
/-- an iterator at its end -/
theorem draws_listEnd {prog : Program} {w : World} {A : Around} (hh : A.handled = none) {it l : Addr} (hne : l ≠ it) {items : Array Value} {i : Nat} (e : items[i]? = none) :
    Draws prog w A it [it, l] i (fun _ _ => True) (fun k h => k = i ∧ h.IsListIter it l k ∧ h.IsList l items) where
  live := fun _ _ st => let ⟨o, ho, _⟩ := st.2.1; ⟨o, ho⟩
  frame := fun _ _ _ st hk => ⟨st.1, st.2.1.at fun o e => hk it (by simp) o e, st.2.2.at fun o e => hk l (by simp) o e⟩
  item := fun k s Q E hi st hQ => absurd st.1 (Nat.ne_of_lt hi)
  done := fun s Q E st hE => wpAny_nextOf_list_end hh st.2.1 st.2.2 e hE
theorem draws_tupleEnd {prog : Program} {w : World} {A : Around} (hh : A.handled = none) {it l : Addr} (hne : l ≠ it) {items : Array Value} {i : Nat} (e : items[i]? = none) :
    Draws prog w A it [it, l] i (fun _ _ => True) (fun k h => k = i ∧ h.IsTupleIter it l k ∧ h.IsTuple l items) where
  live := fun _ _ st => let ⟨o, ho, _⟩ := st.2.1; ⟨o, ho⟩
  frame := fun _ _ _ st hk => ⟨st.1, st.2.1.at fun o e => hk it (by simp) o e, st.2.2.at fun o e => hk l (by simp) o e⟩
  item := fun k s Q E hi st hQ => absurd st.1 (Nat.ne_of_lt hi)
  done := fun s Q E st hE => wpAny_nextOf_tuple_end hh st.2.1 st.2.2 e hE
theorem turn_zipM {P : Program} {w : World} {K : PySem.W.Frag} {elts : List Expr} {kk : Nat} {tpos : Pos} {a b z TI TO i1 i2 : Addr} (D : ZipSep2 z TI TO i1 i2 [i1, a] [i2, b]) (h1a : a ≠ i1) (h2b : b ≠ i2) (h12 : i1 ≠ i2) :
    Turn P w K (.Tuple elts kk tpos) (ItzM K a b) [z, TI, TO, i1, i2] z (fun i h => IsZip h z TI TO .none ∧ IsTupOf2 h TI (.ref i1) (.ref i2) ∧ (∃ x y, IsTupOf2 h TO x y) ∧ h.IsListIter i1 a i ∧ h.IsTupleIter i2 b i) where
  mem := by simp
  obj := fun i h st c hc => by
    obtain ⟨hz, hTI, ⟨x, y, hTO⟩, ⟨o1, e1, _, d1⟩, ⟨o2, e2, _, d2⟩⟩ := st
    have e' : c = z ∨ c = TI ∨ c = TO ∨ c = i1 ∨ c = i2 := by simpa using hc
    rcases e' with q | q | q | q | q
    · rw [q]; exact ⟨_, hz, fun v q => nomatch q⟩
    · rw [q]; exact ⟨_, hTI, fun v q => nomatch q⟩
    · rw [q]; exact ⟨_, hTO, fun v q => nomatch q⟩
    · rw [q]; exact ⟨o1, e1, fun v q => by rw [d1] at q; cases q⟩
    · rw [q]; exact ⟨o2, e2, fun v q => by rw [d2] at q; cases q⟩
  keep := fun i h h' st k => by
    obtain ⟨hz, hTI, ⟨x, y, hTO⟩, h1, h2⟩ := st
    exact ⟨k z (by simp) _ hz, k TI (by simp) _ hTI, ⟨x, y, k TO (by simp) _ hTO⟩, h1.at fun o q => k i1 (by simp) o q, h2.at fun o q => k i2 (by simp) o q⟩
  item := by
    intro X hP hw hK hc i pins s σ H E I hf st hg
    subst hP hw hK
    obtain ⟨hz, hTI, ⟨x0, y0, hTO⟩, h1, h2⟩ := st
    obtain ⟨xs, ys, x, y, hqx, hqy, hx, hy⟩ := hg
    obtain ⟨its, rv, p, _⟩ := I.list hqx
    obtain ⟨its2, rv2, p2, _⟩ := I.tuple hqy
    obtain ⟨u, hu, ru⟩ := rv.get hx
    obtain ⟨u2, hu2, ru2⟩ := rv2.get hy
    have hzl : z < s.heap.objs.size := Heap.lt_size hz
    have calm : X.A.in1.handled = none := by simp [I.ok.hd hc]
    have b1 := (List.getElem?_eq_some_iff.mp hu).1
    have b2 := (List.getElem?_eq_some_iff.mp hu2).1
    refine wpAny_pyNext_zipD2_item (i := i) D (.list calm i1 a h1a its.toArray) (.tuple calm i2 b h2b its2.toArray) hz hTI hTO ⟨h1, p.isList⟩ ⟨h2, p2⟩ (by simpa using b1) (by simpa using b2) fun x1 x2 h' tk y1 y2 z' TO' st1' st2' hT hsz hk => ?_
    have y1 : its[i]? = some x1 := by simpa using y1
    have y2 : its2[i]? = some x2 := by simpa using y2
    rw [hu] at y1
    rw [hu2] at y2
    cases y1
    cases y2
    refine ⟨_, rfl, wpAny_letOwnedTupleGo_zip (s := { s with heap := h', toks := tk }) z' fun h'' z'' sb => ?_⟩
    have hT2 : h''.get? s.heap.objs.size = some { cls := .type "tuple", data := .seq #[u, u2] } := (sb.2 _ (Nat.ne_of_gt hzl)).trans hT
    have new : ObjOk X.prog X.w (upd H s.heap.objs.size (.tup [x, y])) h'' s.heap.objs.size (.tup [x, y]) :=
      ⟨by show 2 ≤ sizeLine; decide, [u, u2], .cons ru (.cons ru2 .nil), ⟨_, hT2, rfl, _, rfl⟩⟩
    have I1 : Inv X pins σ (upd H s.heap.objs.size (.tup [x, y])) { s with heap := h'', toks := tk } :=
      I.turnedNew (t' := tk) (ch := [z, TI, TO, i1, i2]) (fun c o hb q => (sb.2 c (fun q' => hb (by simp [q']))).trans (hk c o (fun q' => hb (by simp [q'])) (fun q' => hb (by simp [q'])) (fun q' => hb (by simp [q'])) (fun q' => hb (by simp [q'])) q)) hf (Nat.le_refl _) new
    have Ti : TI ≠ z ∧ TI ≠ TO ∧ TI ≠ i1 ∧ TI ≠ i2 := ⟨D.TIz, D.TITO, D.TIi1, D.TIi2⟩
    refine ⟨.ref s.heap.objs.size, _, I1, rfl, ⟨_, x, y, rfl, I.hok.fresh (Nat.le_refl _), rfl, fun l hl => by rw [I.list_inj hl hqx]; exact hx, fun l hl => by rw [I.tuple_inj hl hqy]; exact hy⟩, ⟨z'', ?_, ⟨u, u2, ?_⟩, ?_, ?_⟩, fun c hcm => ?_⟩
    · exact (sb.2 _ D.TIz).trans (hk _ _ D.TIz D.TITO D.TIi1 D.TIi2 hTI)
    · exact (sb.2 _ D.TOz).trans TO'
    · exact st1'.1.at fun o q => (sb.2 _ D.zi1.symm).trans q
    · exact st2'.1.at fun o q => (sb.2 _ D.zi2.symm).trans q
    · have hlt : c < s.heap.objs.size := by
        have e' : c = z ∨ c = TI ∨ c = TO ∨ c = i1 ∨ c = i2 := by simpa using hcm
        rcases e' with q | q | q | q | q
        · rw [q]; exact hzl
        · rw [q]; exact Heap.lt_size hTI
        · rw [q]; exact Heap.lt_size hTO
        · rw [q]; obtain ⟨_, e1, _⟩ := h1; exact Heap.lt_size e1
        · rw [q]; obtain ⟨_, e2, _⟩ := h2; exact Heap.lt_size e2
      rw [upd_ne (Nat.ne_of_lt hlt)]
      exact (hf c hcm).1
  done := by
    intro X hP hw hK hc i pins s σ H E I hf st hg
    subst hP hw hK
    obtain ⟨hz, hTI, ⟨x0, y0, hTO⟩, h1, h2⟩ := st
    obtain ⟨xs, ys, hqx, hqy, hend⟩ := hg
    obtain ⟨its, rv, p, _⟩ := I.list hqx
    obtain ⟨its2, rv2, p2, _⟩ := I.tuple hqy
    have e1 := rv.length
    have e2 := rv2.length
    have calm : X.A.in1.handled = none := by simp [I.ok.hd hc]
    have fin : ∀ (h' : Heap) (tk : Tok), (∀ c o, c ≠ z → c ≠ TO → c ≠ i1 → c ≠ i2 → s.heap.get? c = some o → h'.get? c = some o) → (none : Option Value) = none ∧ Inv X pins σ H { s with heap := h', toks := tk } := fun h' tk hk => ⟨rfl, I.turnedL (t' := tk) (ch := [z, TI, TO, i1, i2]) (fun c o hb q =>
      hk c o (fun q' => hb (by simp [q'])) (fun q' => hb (by simp [q'])) (fun q' => hb (by simp [q'])) (fun q' => hb (by simp [q'])) q) hf⟩
    by_cases c1 : its.length ≤ i
    · by_cases c2 : its2.length ≤ i
      · exact wpAny_pyNext_zipD2_end (i := i) D (draws_listEnd calm h1a (by simp; omega)) (draws_tupleEnd calm h2b (by simp; omega)) hz hTI hTO ⟨rfl, h1, p.isList⟩ ⟨rfl, h2, p2⟩ (Nat.le_refl _) (Nat.le_refl _) (.inl rfl) fin
      · exact wpAny_pyNext_zipD2_end (i := i) D (draws_listEnd calm h1a (by simp; omega)) (.tuple calm i2 b h2b its2.toArray) hz hTI hTO ⟨rfl, h1, p.isList⟩ ⟨h2, p2⟩ (Nat.le_refl _) (by simp; omega) (.inl rfl) fin
    · have c2 : its2.length ≤ i := by omega
      exact wpAny_pyNext_zipD2_end (i := i) D (.list calm i1 a h1a its.toArray) (draws_tupleEnd calm h2b (by simp; omega)) hz hTI hTO ⟨h1, p.isList⟩ ⟨rfl, h2, p2⟩ (by simp; omega) (Nat.le_refl _) (.inr rfl) fin
  self := fun A i s Q E st h => wpAny_pyIter_zip st.1 h
def iZipM (K : PySem.W.Frag) (ta : TA) : TI := fun σ H R => ta σ H fun vs H1 => ∃ a b xs ys, vs = [.ref a, .ref b] ∧ SqL K H1 a xs ∧ SqT K H1 b ys ∧ R (ItzM K a b) H1
theorem pi_zipM {X : Cx} {e e2 : Expr} {ta : TA} {p pos tpos : Pos} {elts : List Expr} {kk : Nat} (hg : Gl X "zip") (hm : X.mg "zip" = none) (ha : PA X [e, e2] ta)
    (hs : starEach [e, e2] X.env = (false, eval e X.env) :: starEach [e2] X.env := by rfl) (hpl : (backTo pos (starEach [e2] X.env)).any (·.1) = false := by rfl) :
    PI X (.Tuple elts kk tpos) (.Call (.Name "zip" p) [e, e2] [] pos) (iZipM X.K ta) := by
  refine ⟨fun pins s σ H R I h => ?_⟩
  refine Call_ (ld_blt I hg hm PyProof.Rows.boot_zip (PyProof.Rows.callWith_type1 (thn (ha.run pos pins s σ H _ I h) fun us s1 ⟨vs, H1, I1, r1, q1⟩ => ?_) hs hpl))
  obtain ⟨a, b, xs, ys, ex, hqx, hqy, q⟩ := q1
  subst ex
  cases r1 with
  | cons r rr =>
    cases rr with
    | cons r' rr =>
      cases rr
      cases r
      cases r'
      have fresh5 : ∀ c, c ∈ [s1.heap.objs.size + 4, s1.heap.objs.size + 2, s1.heap.objs.size + 3, s1.heap.objs.size, s1.heap.objs.size + 1] → FpOk X pins H1 c := fun c hcm => by
        have hle : s1.heap.objs.size ≤ c := by
          simp only [List.mem_cons, List.not_mem_nil, or_false] at hcm
          rcases hcm with z | z | z | z | z
          · rw [z]; exact Nat.le_add_right _ _
          · rw [z]; exact Nat.le_add_right _ _
          · rw [z]; exact Nat.le_add_right _ _
          · rw [z]; exact Nat.le_refl _
          · rw [z]; exact Nat.le_add_right _ _
        exact I1.fpOk hle (I1.hok.fresh hle)
      obtain ⟨its, rv, p1, _⟩ := I1.list hqx
      obtain ⟨its2, rv2, p2, _⟩ := I1.tuple hqy
      obtain ⟨o2, ho2, _⟩ := id p2
      have la : a < s1.heap.objs.size := p1.lt
      have lb : b < s1.heap.objs.size := Heap.lt_size ho2
      refine zip_begins2 (begins_list a its.toArray) (begins_tuple b its2.toArray) p1.isList p2 fun h' hz hTI hTO g1 g2 hsz hk => wpAny_pyIter_zip hz ?_
      have I2 : Inv X pins σ H1 { s1 with heap := h' } := I1.kept (t' := s1.toks) hk
      have D := zip_sep2 (N := s1.heap.objs.size) (fp1 := [a]) (fp2 := [b]) (by intro c m; rw [List.mem_singleton.mp m]; exact la) (by intro c m; rw [List.mem_singleton.mp m]; exact lb)
      exact ⟨s1.heap.objs.size + 4, [s1.heap.objs.size + 4, s1.heap.objs.size + 2, s1.heap.objs.size + 3, s1.heap.objs.size, s1.heap.objs.size + 1], _, _, H1, rfl, I2, turn_zipM D (Nat.ne_of_lt la) (Nat.ne_of_lt (Nat.lt_succ_of_lt lb)) (Nat.ne_of_lt (Nat.lt_succ_self _)), ⟨hz, hTI, ⟨_, _, hTO⟩, ⟨_, g1, rfl, rfl⟩, ⟨_, g2, rfl, rfl⟩⟩, fresh5, q⟩
/-- zip of a list and a frozen tuple -/
def zipX (ts : List OT) (es : List D) : List Rs := (List.range (min ts.length es.length)).map fun (i : Nat) => Rs.ex (.tup [ts.getD i .d0, .leaf (es.getD i .non)])
def mItZM (a b : DE) : DI := fun env Q => a env fun r => b env fun s => ∃ es, s.ffz = .fz (.tup es) ∧ ((∃ ds, r.ffz.els true = some ds ∧ Q r.ffz.stays (zipR ds es)) ∨ ∃ ts, r.ffz = .ex (.lst ts) ∧ Q true (zipX ts es))
section
variable {X : Cx} {a b : Expr} {ma mb : DE} {pos tpos : Pos} {elts : List Expr} {kk : Nat}
theorem di_zipM {p : Pos} (hm : X.mg "zip" = none) (ha : PE X a (LP X.K ma)) (hb : PE X b (LP X.K mb)) (hg : Gl X "zip" := by rfl) (hs : starEach [a, b] X.env = (false, eval a X.env) :: starEach [b] X.env := by rfl) (hs2 : starEach [b] X.env = (false, eval b X.env) :: starEach [] X.env := by rfl)
    (hpl : (backTo pos (starEach [b] X.env)).any (·.1) = false := by rfl) : PI X (.Tuple elts kk tpos) (.Call (.Name "zip" p) [a, b] [] pos) (LI X.K (mItZM ma mb)) :=
  pi_imp (pi_zipM hg hm (da_cons ha (da_cons hb da_nil hs2) hs) hs hpl) fun σ H R h => by
  obtain ⟨W, env, fp, xf, Q0, E, S, hm, k⟩ := h
  refine LA.next (m := mCons ma (mCons mb mNil)) E S (Q1 := two2 fun r s => ∃ es, s.ffz = .fz (.tup es) ∧ ((∃ ds, r.ffz.els true = some ds ∧ Q0 r.ffz.stays (zipR ds es)) ∨ ∃ ts, r.ffz = .ex (.lst ts) ∧ Q0 true (zipX ts es))) hm fun rs hr vs W1' H1 g t1' S1' E1' os F => ?_
  obtain ⟨r, s, rfl, es, ek2, hq⟩ := two2_inv hr
  obtain ⟨W1, g', t1, S1, _, _, o4, F4, _, _⟩ := os.ffz (.refl _) rfl S t1' S1' F.1 F.2
  obtain ⟨v, u, rfl, o, o2⟩ := o4.two F4
  obtain ⟨p2, us, rfl, hl2, hr2, st2⟩ : ∃ (p2 : Addr) (us : List V), u = .ref p2 ∧ SqT X.K H1 p2 us ∧ RepAll X.K W1 us es ∧ ∀ W' H' fp' xf', W1.Le W' → Sat X.K W' H' fp' xf' → SqT X.K H' p2 us ∧ RepAll X.K W' us es := by
    rw [ek2] at o2
    cases (show Rep X.K W1 u (.tup es) from o2) with
    | tup g w => exact ⟨_, _, rfl, .of (S1.sub _ _ g), w, fun W' H' fp' xf' l S => ⟨.of (S.sub _ _ (l.g _ _ g)), w.mono l⟩⟩
  rcases hq with ⟨ds, ek, hq⟩ | ⟨ts, ek, hq⟩
  · obtain ⟨p, vs, rfl, hl, hr1, st⟩ := list_stay o ek S1
    have ll : (zipR ds es).length = min vs.length us.length := by unfold zipR; rw [List.length_map, List.length_range, hr1.len, hr2.len]
    refine ⟨p, p2, vs, us, rfl, hl, hl2, k _ _ hq _ W1 H1 t1 S1 fun f hf hs W' H' fp' xf' t l S' y => ?_⟩
    obtain ⟨q1, q2⟩ := st f hf hs W' H' fp' xf' t l S'
    obtain ⟨q3, q4⟩ := st2 W' H' fp' xf' l S'
    refine ⟨fun i hi => ⟨vs, us, q1, q3, by omega⟩, fun i hi => ⟨vs, us, vs[i]'(by omega), us[i]'(by omega), q1, q3, List.getElem?_eq_getElem (by omega), List.getElem?_eq_getElem (by omega)⟩, fun i x H'' c hy hx => ?_⟩
    obtain ⟨T, x0, y0, rfl, hn, rfl, hv, hu⟩ := hy
    rw [range_map_get hx]
    exact pair_ok S' hn (q2.get (hv vs q1)) (q4.get (hu us q3))
  · rw [ek] at o
    obtain ⟨f0, ow, z⟩ := o
    cases ow with
    | @lst p vs _ f1 hp w =>
      have ll : (zipX ts es).length = min vs.length us.length := by unfold zipX; rw [List.length_map, List.length_range, w.len, hr2.len]
      refine ⟨p, p2, vs, us, rfl, .of hp, hl2, k _ _ hq _ W1 H1 t1 S1 fun f hf hs W' H' fp' xf' t l S' y => ?_⟩
      obtain ⟨q3, q4⟩ := st2 W' H' fp' xf' l S'
      have keep : ∀ c ∈ p :: f1, ∀ o, H1 c = some o → H' c = some o := fun c m o e => t.kp _ _ e (fun q => (z c m).2 (hs _ q)) (z c m).1
      have q1 : SqL X.K H' p vs := .of (keep _ List.mem_cons_self _ hp)
      refine ⟨fun i hi => ⟨vs, us, q1, q3, by omega⟩, fun i hi => ⟨vs, us, vs[i]'(by omega), us[i]'(by omega), q1, q3, List.getElem?_eq_getElem (by omega), List.getElem?_eq_getElem (by omega)⟩, fun i x H'' c hy hx => ?_⟩
      obtain ⟨T, x0, y0, rfl, hn, rfl, hv, hu⟩ := hy
      have hi : i < ts.length := by
        have := (List.getElem?_eq_some_iff.mp (hv vs q1)).1
        rw [w.len] at this
        exact this
      rw [range_map_get hx]
      obtain ⟨u', h, e1, o1, s1⟩ := w.get (List.getElem?_eq_getElem hi)
      rw [hv vs q1] at e1
      cases e1
      have o1' : Own X.K W' H' x0 ts[i] h := o1.mono l fun a m o e => keep a (List.mem_cons_of_mem _ (s1 a m)) o e
      have al := o1'.alloc
      have o1'' : Own X.K W' (upd H' T (.tup [x0, y0])) x0 ts[i] h := o1'.mono (Wd.Le.refl W') fun a m o e => by
        rw [upd_ne (fun q => al a m (by rw [q]; exact hn))]
        exact e
      have hz : ∀ c ∈ h, W'.S c = none ∧ c ∉ fp' := fun c m => by
        have m1 := List.mem_cons_of_mem p (s1 c m)
        obtain ⟨z1, z2⟩ := z c m1
        have alive := Own.alloc (.lst hp w) c m1
        have ws := t.wx c alive (fun q => z2 (hs _ q))
        refine ⟨by rw [ws.2]; exact z1, fun q => ?_⟩
        rcases y c q with q | q
        · exact z2 q
        · exact alive q
      refine ⟨.new hn, S'.new hn, T :: (h ++ ([] ++ [])), .tup upd_same (.cons ?_ (.cons (.leaf (q4.get (hu us q3))) .nil)), fun c m => ?_⟩
      · rw [List.getD_eq_getElem?_getD, List.getElem?_eq_getElem hi]
        exact o1''
      · rcases List.mem_cons.mp m with rfl | m
        · exact ⟨(S'.free hn).2, fun q => (S'.off _ q).2.2 hn⟩
        · rw [List.append_nil, List.append_nil] at m
          exact hz c m
end
end R
/-! ## sum(lists, []) -/
namespace R
open PySem PySem.Spec PyProof.Rows L2
section
variable {prog : Program} {w : World} {A : Around}
theorem args_sum2 (a b : Value) : argsOk "sum" ⟨[a, b], []⟩ := by unfold argsOk; kernel_rfl
theorem flat_take {α : Type} {ps : List (List α)} {i : Nat} (h : i < ps.length) : (ps.take (i + 1)).flatten = (ps.take i).flatten ++ ps[i] := by
  rw [List.take_add_one, List.getElem?_eq_getElem h, List.flatten_append]
  show _ ++ (ps[i] ++ []) = _
  rw [List.append_nil]
theorem flat_take_le {α : Type} {ps : List (List α)} {i : Nat} : (ps.take i).flatten.length ≤ ps.flatten.length := by
  have e : ps.flatten = (ps.take i).flatten ++ (ps.drop i).flatten := by rw [← List.flatten_append, List.take_append_drop]
  rw [e, List.length_append]
  omega
theorem cat_lists {E : Value → Shared → Prop} {st : Shared} {l b : Addr} {vs ws : List Value} {Q : Value → Shared → Prop} (hl : st.heap.IsList l vs.toArray) (hb : st.heap.IsList b ws.toArray)
    (h : Q (.ref st.heap.objs.size) { st with heap := st.heap.push { cls := .type "list", data := .seq (vs ++ ws).toArray } }) (hsz : vs.length + ws.length ≤ sizeLine) : wpAny (model prog w) A (binaryOp .Add (.ref l) (.ref b)) Q E st := by
  obtain ⟨⟨c1, d1, x1, s1⟩, o1, e1, n1, f1⟩ := hl
  obtain ⟨⟨c2, d2, x2, s2⟩, o2, e2, n2, f2⟩ := hb
  simp only at e1 f1 e2 f2
  subst e1 f1 e2 f2
  refine concat_meets ⟨_, o1, rfl⟩ ⟨_, o2, rfl⟩ noFill_list_add seq_list_add PySem.F.slot_list_add PySem.F.entry_list_add (PySem.F.args_list_add_2 _ _) (list_addW l b vs.toArray ws.toArray n1 n2 d1 d2 s1 s2 (by simpa using hsz)) ⟨o1, o2, ?_⟩
  rw [show vs.toArray ++ ws.toArray = (vs ++ ws).toArray by simp]
  exact h
theorem sum_lists_loop {Rz : Result → Shared → Prop} (calm : A.in1.handled = none) {it la S : Addr} {its : Array Value} {h0 : Heap} {ps : List (List Value)} (N : Nat) (hla : la < N) (hit : N ≤ it) (hSN : N ≤ S) (hSit : S ≠ it) (h0l : h0.IsList la its)
    (hlen : ps.length = its.size) (hparts : ∀ j, (hj : j < ps.length) → ∃ p, its[j]? = some (.ref p) ∧ p < N ∧ h0.IsList p ps[j].toArray) (hb : ps.flatten.length ≤ sizeLine) :
    ∀ (todo i : Nat) (st : Shared) (T : Addr) (c : Nat), its.size - i = todo → i ≤ its.size → st.heap.IsListIter it la i → (∀ b o, b < N → h0.get? b = some o → st.heap.get? b = some o) →
      IsL st.heap S #[.ref T] c → st.heap.IsList T (ps.take i).flatten.toArray → T ≠ S → T ≠ it → (0 < i → N ≤ T ∧ ∃ n, IsL st.heap T (ps.take i).flatten.toArray n) →
      (∀ h' tk T', h'.IsList T' ps.flatten.toArray → (∀ b o, b < N → h0.get? b = some o → h'.get? b = some o) → (0 < its.size → N ≤ T' ∧ ∃ n, IsL h' T' ps.flatten.toArray n) → Rz (.ok (.ret (.ref T'))) { st with heap := h', toks := tk }) →
      codeAny (model prog w) A (.builtin "sum.loop" ⟨[.ref it, .ref S, rawInt 2, rawInt 0], []⟩) Rz st := by
  intro todo
  induction todo with
  | zero =>
    intro i st T c h1 h2 here kept hS hT tS tit hTN fin
    obtain rfl : i = its.size := by omega
    refine codeAny_builtin F.entry_sum_loop ?_
    rw [Around.under_plainId F.plain_sum_loop _]
    show wpAny _ A.in1 (seqItems? (.ref S) >>= _) _ _ st
    refine wpAny_bind (wpAny_seqItems hS rfl ?_)
    show wpAny _ A.in1 (tryCatch (pyNext (.ref it)) _ >>= _) _ _ st
    obtain ⟨ol, ho, hr⟩ := h0l
    have hl : st.heap.IsList la its := ⟨ol, kept _ _ hla ho, hr⟩
    rw [← hlen, List.take_length] at hT
    rw [← hlen, List.take_length] at hTN
    refine wpAny_bind (wpAny_tryCatch (wpAny_pyNext_list_end calm here hl (by simp) fun h' hs' => ?_))
    exact wpAny_pure (fin h' st.toks T (hT.extBut hs' tit) (fun b o hb e => hs' _ _ (Nat.ne_of_lt (Nat.lt_of_lt_of_le hb hit)) (kept b o hb e)) fun z => by
      rw [← hlen] at z
      obtain ⟨a, n, b⟩ := hTN z
      exact ⟨a, n, hs' _ _ tit b⟩)
  | succ todo ih =>
    intro i st T c h1 h2 here kept hS hT tS tit hTN fin
    have lt : i < its.size := by omega
    refine codeAny_builtin F.entry_sum_loop ?_
    rw [Around.under_plainId F.plain_sum_loop _]
    show wpAny _ A.in1 (seqItems? (.ref S) >>= _) _ _ st
    refine wpAny_bind (wpAny_seqItems hS rfl ?_)
    show wpAny _ A.in1 (tryCatch (pyNext (.ref it)) _ >>= _) _ _ st
    have hl : st.heap.IsList la its := by
      obtain ⟨ol, ho, hr⟩ := h0l
      exact ⟨ol, kept _ _ hla ho, hr⟩
    obtain ⟨p, ep, hp, lp⟩ := hparts i (by omega)
    refine wpAny_bind (wpAny_tryCatch (wpAny_pyNext_list_item here hl ep fun h' here' same => ?_))
    have k1 : ∀ b o, b ≠ it → st.heap.get? b = some o → h'.get? b = some o := fun b o ne e => (same.2 b ne).trans e
    have hS1 : IsL h' S #[.ref T] c := k1 _ _ hSit hS
    have hT1 : h'.IsList T (ps.take i).flatten.toArray := hT.at fun o e => k1 _ _ tit e
    have hp1 : h'.IsList p ps[i].toArray := lp.at fun o e => k1 _ _ (Nat.ne_of_lt (Nat.lt_of_lt_of_le hp hit)) (kept _ _ hp e)
    have hbi := flat_take_le (ps := ps) (i := i + 1)
    rw [flat_take (by omega)] at hbi
    show wpAny _ A.in1 ((holding [Value.ref p] (binaryOp .Add (.ref T) (.ref p))).attempt >>= _) _ _ _
    refine wpAny_bind (wpAny_attempt (wpAny_holding (cat_lists hT1 hp1 ?_ (by rw [← List.length_append]; omega))))
    have e1 : (ps.take i).flatten ++ ps[i] = (ps.take (i + 1)).flatten := by rw [flat_take (by omega)]
    rw [e1]
    have lS := Heap.lt_size hS1
    obtain ⟨oi, hoi, _⟩ := id here'
    have lI := Heap.lt_size hoi
    have hS2 : IsL (h'.push { cls := .type "list", data := .seq (ps.take (i + 1)).flatten.toArray }) S #[.ref T] c := Heap.get?_push_of_some _ hS1
    have hT2 : (h'.push { cls := .type "list", data := .seq (ps.take (i + 1)).flatten.toArray }).IsList h'.objs.size (ps.take (i + 1)).flatten.toArray := ⟨_, Heap.get?_push_size _ rfl, rfl, _, rfl⟩
    show wpAny _ A.in1 (updateSeq S (fun _ => #[.ref h'.objs.size]) >>= _) _ _ _
    refine wpAny_bind (wpAny_updateSeq hS2 rfl ?_)
    have hS3 := Heap.get?_update_self (Obj.mapSeq fun _ => #[Value.ref h'.objs.size]) hS2 rfl
    refine wpAny_bind (wpAny_letGo ?_)
    refine wpAny_bind (wpAny_updateSeq hS3 rfl (wpAny_pure ⟨plainId_quiet F.plain_sum_loop _, ?_⟩))
    have hS4 := Heap.get?_update_self (Obj.mapSeq fun _ => #[Value.ref h'.objs.size]) hS3 rfl
    have k2 : ∀ b o, b ≠ S → (h'.push { cls := .type "list", data := .seq (ps.take (i + 1)).flatten.toArray }).get? b = some o → (((h'.push { cls := .type "list", data := .seq (ps.take (i + 1)).flatten.toArray }).update S (Obj.mapSeq fun _ => #[Value.ref h'.objs.size])).update S (Obj.mapSeq fun _ => #[Value.ref h'.objs.size])).get? b = some o := fun b o ne e =>
      (Heap.get?_update_other _ _ ne.symm).trans ((Heap.get?_update_other _ _ ne.symm).trans e)
    refine ih (i + 1) _ h'.objs.size _ (by omega) (by omega) ?_ ?_ hS4 ?_ ?_ ?_ (fun _ => ?_) ?_
    · exact here'.at fun o e => k2 _ _ hSit.symm (Heap.get?_push_of_some _ e)
    · exact fun b o hb e => k2 _ _ (Nat.ne_of_lt (Nat.lt_of_lt_of_le hb hSN)) (Heap.get?_push_of_some _ (k1 _ _ (Nat.ne_of_lt (Nat.lt_of_lt_of_le hb hit)) (kept b o hb e)))
    · exact hT2.at fun o e => k2 _ _ (Nat.ne_of_gt lS) e
    · exact Nat.ne_of_gt lS
    · exact Nat.ne_of_gt lI
    · exact ⟨Nat.le_of_lt (Nat.lt_of_le_of_lt hit lI), 0, k2 _ _ (Nat.ne_of_gt lS) (Heap.get?_push_size _ rfl)⟩
    · intro h2 tk T' a b c
      exact fin h2 tk T' a b c
/-- sum(a list of lists, a new list) -/
theorem sum_lists {st : Shared} {E : Value → Shared → Prop} {la l : Addr} {its : Array Value} {ps : List (List Value)} {Q : Value → Shared → Prop} (calm : A.handled = none) (isl : st.heap.IsList la its) (hl : st.heap.IsList l #[])
    (hlen : ps.length = its.size) (hparts : ∀ j, (hj : j < ps.length) → ∃ p, its[j]? = some (.ref p) ∧ st.heap.IsList p ps[j].toArray) (hb : ps.flatten.length ≤ sizeLine) (ne : ps ≠ [])
    (fin : ∀ (hp : Heap) (tk : Nat) (T n : Nat), IsL hp T ps.flatten.toArray n → (∀ b o, st.heap.get? b = some o → hp.get? b = some o) → st.heap.objs.size ≤ T → Q (.ref T) { st with heap := hp, toks := tk }) :
    wpAny (model prog w) A (call (.builtin "sum") [.ref la, .ref l]) Q E st := by
  refine call_function_tree F.kind_sum F.plain_sum F.entry_sum (args_sum2 _ _) ?_
  unfold Builtin.«sum»
  simp only [List.length_cons, List.length_nil]
  rw [if_neg (by decide)]
  refine wpAny_bind (wpAny_of_eq (show Builtin.Builtins.bindParams "sum" ["start"] 0 ⟨[.ref l], []⟩ = pure [some (.ref l)] from rfl) ?_)
  refine wpAny_bind (wpAny_pyIter_list isl ?_)
  refine wpAny_bind (wpAny_pure ?_)
  have hl1 : (st.heap.push { cls := .type "list_iterator", data := .fields #[.ref la, .int 0 0] }).IsList l #[] := hl.push _
  have ty : Shared.TypeIs { st with heap := st.heap.push { cls := .type "list_iterator", data := .fields #[.ref la, .int 0 0] } } (.ref l) "list" := hl1.typeIs
  simp only [List.forIn_cons, List.forIn_nil]
  refine wpAny_bind (wpAny_bind (wpAny_bind (wpAny_isInstance (b := false) ty PySem.F.sub_list_str ?_)))
  simp only [Bool.false_eq_true, if_false]
  refine wpAny_pure (wpAny_bind (wpAny_bind (wpAny_isInstance (b := false) ty PySem.F.sub_list_bytes ?_)))
  simp only [Bool.false_eq_true, if_false]
  refine wpAny_pure (wpAny_bind (wpAny_bind (wpAny_isInstance (b := false) ty PySem.F.sub_list_bytearray ?_)))
  simp only [Bool.false_eq_true, if_false]
  refine wpAny_pure (wpAny_pure ?_)
  refine wpAny_bind (wpAny_newObj_type ?_)
  have s1 : (st.heap.push { cls := .type "list_iterator", data := .fields #[.ref la, .int 0 0] }).objs.size = st.heap.objs.size + 1 := Heap.size_push ..
  obtain ⟨ob, hob, _⟩ := id hl
  have ll : l < st.heap.objs.size := Heap.lt_size hob
  obtain ⟨oa, ha, hra⟩ := id isl
  have lla : la < st.heap.objs.size := Heap.lt_size ha
  refine wpAny_pure ⟨plainId_quiet F.plain_sum_loop _, sum_lists_loop (it := st.heap.objs.size) (la := la) (S := (st.heap.push { cls := .type "list_iterator", data := .fields #[.ref la, .int 0 0] }).objs.size) (h0 := st.heap) (ps := ps) (by simp [calm]) st.heap.objs.size lla (Nat.le_refl _) (by rw [s1]; exact Nat.le_succ _) (by rw [s1]; exact Nat.succ_ne_self _) isl hlen
    (fun j hj => by
      obtain ⟨p, a, b⟩ := hparts j hj
      obtain ⟨op, hop, _⟩ := id b
      exact ⟨p, a, Heap.lt_size hop, b⟩) hb its.size 0 _ l 0 (by omega) (Nat.zero_le _) ?_ ?_ ?_ ?_ ?_ ?_ (fun z => absurd z (Nat.lt_irrefl 0)) ?_⟩
  · exact ⟨_, Heap.get?_push_of_some _ (Heap.get?_push_size _ rfl), rfl, rfl⟩
  · exact fun b o _ e => Heap.get?_push_of_some _ (Heap.get?_push_of_some _ e)
  · exact Heap.get?_push_size _ rfl
  · rw [List.take_zero]
    exact hl1.push _
  · rw [s1]
    exact Nat.ne_of_lt (Nat.lt_succ_of_lt ll)
  · exact Nat.ne_of_lt ll
  · intro hp tk T a b c
    have h0 : 0 < its.size := by
      rw [← hlen]
      exact List.length_pos_iff.mpr ne
    obtain ⟨c1, n, c2⟩ := c h0
    exact fin hp tk T n c2 (fun b' o e => b b' o (Heap.lt_size e) e) c1
end
end R
namespace R
open PySem PySem.Spec PyProof.Rows L2
/-- sum(lists, []) -/
def oSumL : List Rs → (Rs → Prop) → Prop
  | [.fz (.lst ds), .fz (.lst [])], Q => ∃ ess : List (List D), ds = ess.map .lst ∧ ess ≠ [] ∧ ess.flatten.length ≤ sizeL ∧ Q (.nw (.lst (ess.flatten.map .leaf)))
  | _, _ => False
def rSumLL (K : PySem.W.Frag) : List V → Hp → VK → Prop := fun xs H Q => ∃ (p l : Addr) (qs : List (Addr × List V)), xs = [.ref p, .ref l] ∧ SqL K H p (qs.map fun q => .ref q.1) ∧ (∀ q ∈ qs, SqL K H q.1 q.2) ∧ SqL K H l [] ∧ qs ≠ [] ∧ (qs.map (·.2)).flatten.length ≤ sizeLine ∧
  ∀ T, H T = none → Q (.ref T) (upd H T (.lst (qs.map (·.2)).flatten))
theorem parts_of {X : Cx} {pins : List (Addr × Obj)} {σ : L2.St} {H : Hp} {s : Shared} (I : Inv X pins σ H s) : ∀ {qs : List (Addr × List V)}, (∀ q ∈ qs, SqL X.K H q.1 q.2) →
    ∃ ps : List (List Value), ps.length = qs.length ∧ Vals (qs.map (·.2)).flatten ps.flatten ∧ ∀ j, (hj : j < ps.length) → ∃ q, qs[j]? = some q ∧ s.heap.IsList q.1 ps[j].toArray
  | [], _ => ⟨[], rfl, .nil, fun j hj => absurd hj (Nat.not_lt_zero j)⟩
  | q :: qs, h => by
    obtain ⟨its, rv, isl, _⟩ := I.list (h q List.mem_cons_self)
    obtain ⟨ps, l, v, k⟩ := parts_of I (qs := qs) fun q m => h q (List.mem_cons_of_mem _ m)
    refine ⟨its :: ps, by rw [List.length_cons, List.length_cons, l], rv.append v, fun j hj => ?_⟩
    cases j with
    | zero => exact ⟨q, rfl, isl.isList⟩
    | succ j => exact k j (by simpa using hj)
theorem call_sumL {X : Cx} (hc : X.calm = true) : CallR X (.builtin "sum") (rSumLL X.K) := by
  intro pins s σ H xs us Q I r h
  obtain ⟨p, l, qs, rfl, hp, hqs, hl, hne, hsz, hQ⟩ := h
  cases r with
  | cons r1 r =>
    cases r with
    | cons r2 r =>
      cases r
      cases r1
      cases r2
      obtain ⟨its, rv, isl, _⟩ := I.list hp
      obtain ⟨its2, rv2, isl2, _⟩ := I.list hl
      cases rv2
      obtain ⟨ps, hpl, hv, hk⟩ := parts_of I hqs
      have hlen := rv.length
      rw [List.length_map] at hlen
      refine sum_lists (I.ok.hd hc) isl.isList isl2.isList (ps := ps) (by rw [hpl, hlen, List.size_toArray]) (fun j hj => ?_) (by rw [← hv.length]; exact hsz) (fun z => hne (List.eq_nil_of_length_eq_zero (by rw [← hpl, z] <;> rfl))) fun hp tk T n e kp up => ?_
      · obtain ⟨q, eq, lq⟩ := hk j hj
        obtain ⟨u, eu, ru⟩ := rv.get (i := j) (x := .ref q.1) (by rw [List.getElem?_map, eq] <;> rfl)
        cases ru
        exact ⟨q.1, by rw [List.getElem?_toArray]; exact eu, lq⟩
      · exact ⟨.ref T, upd H T (.lst (qs.map (·.2)).flatten), I.laid (t' := tk) (fun b u e => kp b u e) up ⟨hsz, _, n, hv, e⟩, rfl, hQ T (I.hok.fresh up)⟩
section
variable {K : PySem.W.Frag} {W : Wd} {H : Hp}
theorem reps_lists {fp xf : List Addr} (S : Sat K W H fp xf) : ∀ {vs : List V} {ess : List (List D)}, RepAll K W vs (ess.map .lst) → ∃ qs : List (Addr × List V), vs = qs.map (fun q => .ref q.1) ∧ qs.length = ess.length ∧ (∀ q ∈ qs, SqL K H q.1 q.2) ∧ RepAll K W (qs.map (·.2)).flatten ess.flatten
  | _, [], h => by
    cases h
    exact ⟨[], rfl, rfl, by simp, .nil⟩
  | _, e :: ess, h => by
    cases h with
    | cons a b =>
      obtain ⟨qs, e1, e2, e3, e4⟩ := reps_lists S b
      cases a with
      | lst g w => exact ⟨(_, _) :: qs, by rw [List.map_cons, e1], by rw [List.length_cons, List.length_cons, e2], fun q m => by
          rcases List.mem_cons.mp m with rfl | m
          · exact .of (S.sub _ _ g)
          · exact e3 q m, RepAll.app w e4⟩
end
section
variable {X : Cx} {a b : Expr} {pos : Pos} {mr : DA}
theorem dp_sumL {p : Pos} (hc : X.calm = true) (hm : X.mg "sum" = none) (ha : PA X [a, b] (LA X.K mr)) (hg : Gl X "sum" := by rfl) (hs : starEach [a, b] X.env = (false, eval a X.env) :: starEach [b] X.env := by rfl)
    (hpl : (backTo pos (starEach [b] X.env)).any (·.1) = false := by rfl) : PE X (.Call (.Name "sum" p) [a, b] [] pos) (LP X.K (mB oSumL mr)) :=
  dp_callB (call_sumL hc) (fun H Q W fp xf Q0 rs vs W2 H2 g hr O os F => by
    unfold oSumL at hr
    split at hr
    · rename_i ds
      obtain ⟨ess, rfl, hne, hl, q⟩ := hr
      obtain ⟨v, u, rfl, o1, o2⟩ := os.two F
      cases (show Rep X.K W2 v (.lst (ess.map .lst)) from o1) with
      | lst g1 w1 =>
        cases (show Rep X.K W2 u (.lst []) from o2) with
        | lst g2 w2 =>
          cases w2
          obtain ⟨qs, e1, e2, e3, e4⟩ := reps_lists O.S2 w1
          subst e1
          exact ⟨_, _, qs, rfl, .of (O.S2.sub _ _ g1), e3, .of (O.S2.sub _ _ g2), fun z => hne (List.eq_nil_of_length_eq_zero (by rw [← e2, z] <;> rfl)), by rw [e4.len, ← sizeL_eq]; exact hl, fun T n => O.newL q e4 T n⟩
    · exact hr.elim) hm (by decide +kernel) ha hg (hs := hs) (hpl := hpl)
end
end R
/-! ## a slice of a list whose items are held alone: it borrows them -/
namespace R
open PySem PySem.Spec PyProof.Rows L2
/-- xs[lo:hi], to be looked at alone -/
def mSlB (a : DE) (lo hi : DO) : DE := fun env Q => a env fun x => lo env fun l => hi env fun h => ∃ ts, (x = .br (.lst ts) ∨ x = .ex (.lst ts)) ∧ Q (.br (.lst (cut' ts l h)))
section
variable {K : PySem.W.Frag} {W : Wd} {H : Hp}
theorem OwnAll.take : ∀ (n : Nat) {vs : List V} {ts : List OT} {f : List Addr}, OwnAll K W H vs ts f → ∃ g, OwnAll K W H (vs.take n) (ts.take n) g ∧ ∀ a ∈ g, a ∈ f
  | 0, _, _, _, _ => ⟨[], .nil, fun _ m => by cases m⟩
  | n + 1, _, _, _, .nil => ⟨[], .nil, fun _ m => by cases m⟩
  | n + 1, _, _, _, .cons a b => by
    obtain ⟨g, o, z⟩ := OwnAll.take n b
    refine ⟨_, .cons a o, fun c m => ?_⟩
    rcases List.mem_append.mp m with m | m
    · exact List.mem_append_left _ m
    · exact List.mem_append_right _ (z c m)
theorem OwnAll.drop : ∀ (n : Nat) {vs : List V} {ts : List OT} {f : List Addr}, OwnAll K W H vs ts f → ∃ g, OwnAll K W H (vs.drop n) (ts.drop n) g ∧ ∀ a ∈ g, a ∈ f
  | 0, _, _, _, h => ⟨_, h, fun _ m => m⟩
  | n + 1, _, _, _, .nil => ⟨[], .nil, fun _ m => by cases m⟩
  | n + 1, _, _, _, .cons a b => by
    obtain ⟨g, o, z⟩ := OwnAll.drop n b
    exact ⟨_, o, fun c m => List.mem_append_right _ (z c m)⟩
theorem OwnAll.cut {vs : List V} {ts : List OT} {f : List Addr} (h : OwnAll K W H vs ts f) (lo hi : Option Int) : ∃ g, OwnAll K W H (cutV vs lo hi) (cut' ts lo hi) g ∧ ∀ a ∈ g, a ∈ f := by
  have e := h.len
  obtain ⟨g1, o1, z1⟩ := h.drop (HT.sIx vs.length 0 lo)
  obtain ⟨g2, o2, z2⟩ := o1.take (HT.sIx vs.length vs.length hi - HT.sIx vs.length 0 lo)
  refine ⟨g2, ?_, fun a m => z1 a (z2 a m)⟩
  unfold cutV cut'
  rw [← e]
  exact o2
end
section
variable {X : Cx} {a : Expr} {lo hi : Option Expr} {ma : DE} {ml mh : DO} {pos : Pos}
theorem dp_slB {p2 : Pos} (he : PE X a (LP X.K ma)) (hl : PO X lo (LO X.K ml)) (hu : PO X hi (LO X.K mh)) : PE X (.Subscript a (.Slice lo hi none p2) pos) (LP X.K (mSlB ma ml mh)) := pe_imp (pe_slice (r := rSlL X.K) sl_list he hl hu) fun σ H Q h => by
  obtain ⟨W, env, fp, xf, Q0, E, S, hm, k⟩ := h
  refine ⟨W, env, fp, xf, _, E, S, hm, fun r1 h1 v1 W1 H1 t1 S1 o1 => ?_⟩
  refine ⟨W1, env, fp, xf, _, E.keep S t1, S1, h1, fun l hl W2 H2 t2 S2 => ?_⟩
  refine ⟨W2, env, fp, xf, _, (E.keep S t1).keep S1 t2, S2, hl, fun u hu W3 H3 t3 S3 => ?_⟩
  have o3 := (o1.keep t2 (t2.le S1 fun _ m => by cases m)).keep t3 (t3.le S2 fun _ m => by cases m)
  obtain ⟨ts, hx, q⟩ := hu
  have key : ∃ f, Own X.K W3 H3 v1 (.lst ts) f ∧ ∀ a ∈ f, W3.S a = none := by
    rcases hx with rfl | rfl
    · exact o3
    · obtain ⟨f, ow, z⟩ := o3
      exact ⟨f, ow, fun a m => (z a m).1⟩
  obtain ⟨f, ow, z⟩ := key
  cases ow with
  | @lst p0 vs0 _ f0 hp w =>
    refine ⟨_, _, rfl, .of hp, fun p n => ?_⟩
    obtain ⟨g, w2, z2⟩ := w.cut l u
    have al := w2.alloc
    have w3 := w2.mono (H' := upd H3 p (.lst (cutV vs0 l u))) (Wd.Le.refl W3) fun a m o e => by
      rw [upd_ne (fun q => al a m (by rw [q]; exact n))]
      exact e
    refine k _ q _ W3 _ (((t1.tr0 t2).tr0 t3).tr0 (.new n)) (S3.new n) ⟨_, .lst upd_same w3, fun a m => ?_⟩
    rcases List.mem_cons.mp m with rfl | m
    · exact (S3.free n).2
    · exact z a (List.mem_cons_of_mem _ (z2 a m))
end
end R
namespace Cl
open PySem PySem.Spec PyProof.Rows L2 R
def topS (i : Nat) : Stmt := PySem.Challenge.pw_cupladder_k03_single_steps.main.body.getD i (.Pass ⟨0, 0, 0, 0⟩)
abbrev s_is_integer : Stmt := topS 9
abbrev N_is_integer : List PySem.Str := ["value", "minimum"]
abbrev P_is_integer : List PySem.Str := ["value", "minimum"]
theorem sc_is_integer : FnScope N_is_integer P_is_integer (defScope s_is_integer) := ⟨rfl, rfl, rfl, by decide +kernel, rfl, by decide +kernel, by decide +kernel⟩
abbrev s_are_sizes : Stmt := topS 10
abbrev N_are_sizes : List PySem.Str := ["value", "size"]
abbrev P_are_sizes : List PySem.Str := ["value"]
theorem sc_are_sizes : FnScope N_are_sizes P_are_sizes (defScope s_are_sizes) := ⟨rfl, rfl, rfl, by decide +kernel, rfl, by decide +kernel, by decide +kernel⟩
abbrev s_are_forward_indices : Stmt := topS 11
abbrev N_are_forward_indices : List PySem.Str := ["value", "sizes", "index", "size"]
abbrev P_are_forward_indices : List PySem.Str := ["value", "sizes"]
theorem sc_are_forward_indices : FnScope N_are_forward_indices P_are_forward_indices (defScope s_are_forward_indices) := ⟨rfl, rfl, rfl, by decide +kernel, rfl, by decide +kernel, by decide +kernel⟩
abbrev s_CupRow_init : Stmt := inClass (topS 12) 0
abbrev N_CupRow_init : List PySem.Str := ["self", "sizes", "forward", "indices", "size"]
abbrev P_CupRow_init : List PySem.Str := ["self", "sizes", "forward"]
theorem sc_CupRow_init : FnScope N_CupRow_init P_CupRow_init (defScope s_CupRow_init) := ⟨rfl, rfl, rfl, by decide +kernel, rfl, by decide +kernel, by decide +kernel⟩
abbrev s_CupRow_min_members : Stmt := inClass (topS 12) 5
abbrev N_CupRow_min_members : List PySem.Str := ["self"]
abbrev P_CupRow_min_members : List PySem.Str := ["self"]
theorem sc_CupRow_min_members : FnScope N_CupRow_min_members P_CupRow_min_members (defScope s_CupRow_min_members) := ⟨rfl, rfl, rfl, by decide +kernel, rfl, by decide +kernel, by decide +kernel⟩
abbrev s_require_cups : Stmt := topS 13
abbrev N_require_cups : List PySem.Str := ["value"]
abbrev P_require_cups : List PySem.Str := ["value"]
theorem sc_require_cups : FnScope N_require_cups P_require_cups (defScope s_require_cups) := ⟨rfl, rfl, rfl, by decide +kernel, rfl, by decide +kernel, by decide +kernel⟩
abbrev s_is_name : Stmt := topS 18
abbrev N_is_name : List PySem.Str := ["value", "letter"]
abbrev P_is_name : List PySem.Str := ["value"]
theorem sc_is_name : FnScope N_is_name P_is_name (defScope s_is_name) := ⟨rfl, rfl, rfl, by decide +kernel, rfl, by decide +kernel, by decide +kernel⟩
abbrev s_is_name_list : Stmt := topS 19
abbrev N_is_name_list : List PySem.Str := ["value", "name"]
abbrev P_is_name_list : List PySem.Str := ["value"]
theorem sc_is_name_list : FnScope N_is_name_list P_is_name_list (defScope s_is_name_list) := ⟨rfl, rfl, rfl, by decide +kernel, rfl, by decide +kernel, by decide +kernel⟩
abbrev s_all_members : Stmt := topS 20
abbrev N_all_members : List PySem.Str := ["queue", "contents", "members", "row"]
abbrev P_all_members : List PySem.Str := ["queue", "contents"]
theorem sc_all_members : FnScope N_all_members P_all_members (defScope s_all_members) := ⟨rfl, rfl, rfl, by decide +kernel, rfl, by decide +kernel, by decide +kernel⟩
abbrev s_copy_state : Stmt := topS 21
abbrev N_copy_state : List PySem.Str := ["queue", "contents", "row"]
abbrev P_copy_state : List PySem.Str := ["queue", "contents"]
theorem sc_copy_state : FnScope N_copy_state P_copy_state (defScope s_copy_state) := ⟨rfl, rfl, rfl, by decide +kernel, rfl, by decide +kernel, by decide +kernel⟩
abbrev s_is_state : Stmt := topS 22
abbrev N_is_state : List PySem.Str := ["cups", "value", "queue", "contents", "members", "row", "size"]
abbrev P_is_state : List PySem.Str := ["cups", "value"]
theorem sc_is_state : FnScope N_is_state P_is_state (defScope s_is_state) := ⟨rfl, rfl, rfl, by decide +kernel, rfl, by decide +kernel, by decide +kernel⟩
abbrev s_require_state : Stmt := topS 23
abbrev N_require_state : List PySem.Str := ["cups", "value"]
abbrev P_require_state : List PySem.Str := ["cups", "value"]
theorem sc_require_state : FnScope N_require_state P_require_state (defScope s_require_state) := ⟨rfl, rfl, rfl, by decide +kernel, rfl, by decide +kernel, by decide +kernel⟩
abbrev s_empty_full_cups : Stmt := topS 24
abbrev N_empty_full_cups : List PySem.Str := ["cups", "queue", "contents", "cup", "row"]
abbrev P_empty_full_cups : List PySem.Str := ["cups", "queue", "contents", "cup"]
theorem sc_empty_full_cups : FnScope N_empty_full_cups P_empty_full_cups (defScope s_empty_full_cups) := ⟨rfl, rfl, rfl, by decide +kernel, rfl, by decide +kernel, by decide +kernel⟩
abbrev s_apply_step : Stmt := topS 25
abbrev N_apply_step : List PySem.Str := ["cups", "queue", "contents"]
abbrev P_apply_step : List PySem.Str := ["cups", "queue", "contents"]
theorem sc_apply_step : FnScope N_apply_step P_apply_step (defScope s_apply_step) := ⟨rfl, rfl, rfl, by decide +kernel, rfl, by decide +kernel, by decide +kernel⟩
abbrev s_next_state : Stmt := topS 26
abbrev N_next_state : List PySem.Str := ["cups", "state", "queue", "contents"]
abbrev P_next_state : List PySem.Str := ["cups", "state"]
theorem sc_next_state : FnScope N_next_state P_next_state (defScope s_next_state) := ⟨rfl, rfl, rfl, by decide +kernel, rfl, by decide +kernel, by decide +kernel⟩
abbrev s_law_script_value : Stmt := topS 28
abbrev N_law_script_value : List PySem.Str := ["_law_script", "_law_k"]
abbrev P_law_script_value : List PySem.Str := ["_law_script", "_law_k"]
theorem sc_law_script_value : FnScope N_law_script_value P_law_script_value (defScope s_law_script_value) := ⟨rfl, rfl, rfl, by decide +kernel, rfl, by decide +kernel, by decide +kernel⟩
abbrev s_law_mix : Stmt := topS 29
abbrev N_law_mix : List PySem.Str := ["_law_cell", "_law_k", "_law_low"]
abbrev P_law_mix : List PySem.Str := ["_law_cell", "_law_k"]
theorem sc_law_mix : FnScope N_law_mix P_law_mix (defScope s_law_mix) := ⟨rfl, rfl, rfl, by decide +kernel, rfl, by decide +kernel, by decide +kernel⟩
abbrev s_law_draw_source : Stmt := topS 30
abbrev N_law_draw_source : List PySem.Str := ["_law_script", "_law_k", "_law_cell"]
abbrev P_law_draw_source : List PySem.Str := ["_law_script", "_law_k"]
theorem sc_law_draw_source : FnScope N_law_draw_source P_law_draw_source (defScope s_law_draw_source) := ⟨rfl, rfl, rfl, by decide +kernel, rfl, by decide +kernel, by decide +kernel⟩
abbrev s_law_draw : Stmt := topS 31
abbrev N_law_draw : List PySem.Str := ["_law_source", "_law_count", "_law_result"]
abbrev P_law_draw : List PySem.Str := ["_law_source", "_law_count"]
theorem sc_law_draw : FnScope N_law_draw P_law_draw (defScope s_law_draw) := ⟨rfl, rfl, rfl, by decide +kernel, rfl, by decide +kernel, by decide +kernel⟩
abbrev s_law_name_for : Stmt := topS 32
abbrev N_law_name_for : List PySem.Str := ["_law_number", "_law_result"]
abbrev P_law_name_for : List PySem.Str := ["_law_number"]
theorem sc_law_name_for : FnScope N_law_name_for P_law_name_for (defScope s_law_name_for) := ⟨rfl, rfl, rfl, by decide +kernel, rfl, by decide +kernel, by decide +kernel⟩
abbrev s_law_draw_names : Stmt := topS 33
abbrev N_law_draw_names : List PySem.Str := ["_law_source", "_law_count", "_law_first", "_law_stride", "_law_at"]
abbrev P_law_draw_names : List PySem.Str := ["_law_source", "_law_count"]
theorem sc_law_draw_names : FnScope N_law_draw_names P_law_draw_names (defScope s_law_draw_names) := ⟨rfl, rfl, rfl, by decide +kernel, rfl, by decide +kernel, by decide +kernel⟩
abbrev s_law_draw_cups : Stmt := topS 34
abbrev N_law_draw_cups : List PySem.Str := ["_law_source", "_law_max_cups", "_law_top", "_law_budget", "_law_sizes", "_law_remaining", "_law_k", "_law_size", "_law_choice"]
abbrev P_law_draw_cups : List PySem.Str := ["_law_source", "_law_max_cups", "_law_top", "_law_budget"]
theorem sc_law_draw_cups : FnScope N_law_draw_cups P_law_draw_cups (defScope s_law_draw_cups) := ⟨rfl, rfl, rfl, by decide +kernel, rfl, by decide +kernel, by decide +kernel⟩
abbrev s_law_min_members : Stmt := topS 35
abbrev N_law_min_members : List PySem.Str := ["_law_sizes", "_law_size"]
abbrev P_law_min_members : List PySem.Str := ["_law_sizes"]
theorem sc_law_min_members : FnScope N_law_min_members P_law_min_members (defScope s_law_min_members) := ⟨rfl, rfl, rfl, by decide +kernel, rfl, by decide +kernel, by decide +kernel⟩
abbrev s_law_draw_state : Stmt := topS 36
abbrev N_law_draw_state : List PySem.Str := ["_law_source", "_law_sizes", "_law_more", "_law_least", "_law_names", "_law_turn", "_law_remaining", "_law_contents", "_law_empty", "_law_size", "_law_count"]
abbrev P_law_draw_state : List PySem.Str := ["_law_source", "_law_sizes", "_law_more"]
theorem sc_law_draw_state : FnScope N_law_draw_state P_law_draw_state (defScope s_law_draw_state) := ⟨rfl, rfl, rfl, by decide +kernel, rfl, by decide +kernel, by decide +kernel⟩
abbrev s_law_empty_cups : Stmt := topS 37
abbrev N_law_empty_cups : List PySem.Str := ["_law_sizes", "_law_indices", "_law_queue", "_law_contents", "_law_cup", "_law_items"]
abbrev P_law_empty_cups : List PySem.Str := ["_law_sizes", "_law_indices", "_law_queue", "_law_contents", "_law_cup"]
theorem sc_law_empty_cups : FnScope N_law_empty_cups P_law_empty_cups (defScope s_law_empty_cups) := ⟨rfl, rfl, rfl, by decide +kernel, rfl, by decide +kernel, by decide +kernel⟩
abbrev s_law_step : Stmt := topS 38
abbrev N_law_step : List PySem.Str := ["_law_sizes", "_law_indices", "_law_state", "_law_queue", "_law_contents"]
abbrev P_law_step : List PySem.Str := ["_law_sizes", "_law_indices", "_law_state"]
theorem sc_law_step : FnScope N_law_step P_law_step (defScope s_law_step) := ⟨rfl, rfl, rfl, by decide +kernel, rfl, by decide +kernel, by decide +kernel⟩
abbrev s_law_lists_are_separate : Stmt := topS 39
abbrev N_law_lists_are_separate : List PySem.Str := ["_law_actual", "_law_expected", "_law_at"]
abbrev P_law_lists_are_separate : List PySem.Str := ["_law_actual", "_law_expected"]
theorem sc_law_lists_are_separate : FnScope N_law_lists_are_separate P_law_lists_are_separate (defScope s_law_lists_are_separate) := ⟨rfl, rfl, rfl, by decide +kernel, rfl, by decide +kernel, by decide +kernel⟩
abbrev s_law_check : Stmt := topS 40
abbrev N_law_check : List PySem.Str := ["_law_cups", "_law_sizes", "_law_indices", "_law_state", "_law_count", "_law_k", "_law_expected", "_law_argument", "_law_turn", "_law_actual", "_law_items"]
abbrev P_law_check : List PySem.Str := ["_law_cups", "_law_sizes", "_law_indices", "_law_state", "_law_count"]
theorem sc_law_check : FnScope N_law_check P_law_check (defScope s_law_check) := ⟨rfl, rfl, rfl, by decide +kernel, rfl, by decide +kernel, by decide +kernel⟩
abbrev s_law_check_shared_list : Stmt := topS 41
abbrev N_law_check_shared_list : List PySem.Str := ["_law_cups", "_law_sizes", "_law_indices", "_law_state", "_law_queue", "_law_contents", "_law_expected", "_law_size"]
abbrev P_law_check_shared_list : List PySem.Str := ["_law_cups", "_law_sizes", "_law_indices", "_law_state"]
theorem sc_law_check_shared_list : FnScope N_law_check_shared_list P_law_check_shared_list (defScope s_law_check_shared_list) := ⟨rfl, rfl, rfl, by decide +kernel, rfl, by decide +kernel, by decide +kernel⟩
abbrev s_law : Stmt := topS 42
abbrev N_law : List PySem.Str := ["_law_script", "_law_k", "_law_source", "_law_sizes", "_law_indices", "_law_state", "_law_cups"]
abbrev P_law : List PySem.Str := ["_law_script"]
theorem sc_law : FnScope N_law P_law (defScope s_law) := ⟨rfl, rfl, rfl, by decide +kernel, rfl, by decide +kernel, by decide +kernel⟩
structure Cs where
  CupLadderError : Nat
  InvalidCups : Nat
  InvalidState : Nat
  CupRow : Nat
structure Tt (K : PySem.W.Frag) (mg : PySem.Str → Option Value) (cs : Cs) : Prop where
  b_all : mg "all" = none
  b_bool : mg "bool" = none
  b_int : mg "int" = none
  b_isinstance : mg "isinstance" = none
  b_len : mg "len" = none
  b_list : mg "list" = none
  b_max : mg "max" = none
  b_min : mg "min" = none
  b_range : mg "range" = none
  b_set : mg "set" = none
  b_str : mg "str" = none
  b_sum : mg "sum" = none
  b_tuple : mg "tuple" = none
  b_zip : mg "zip" = none
  c_LETTERS : ∃ t, mg "LETTERS" = some (.str "abcdefghijklmnopqrstuvwxyz" t)
  c_MAX_CUPS : ∃ t, mg "MAX_CUPS" = some (.int 30 t)
  c_MAX_EXTRA : ∃ t, mg "MAX_EXTRA" = some (.int 30 t)
  c_MAX_LETTERS : ∃ t, mg "MAX_LETTERS" = some (.int 8 t)
  c_MAX_MEMBERS : ∃ t, mg "MAX_MEMBERS" = some (.int 40 t)
  c_MAX_SIZE : ∃ t, mg "MAX_SIZE" = some (.int 9 t)
  g_CupRow : mg "CupRow" = some (.ref cs.CupRow)
  is_CupRow : IsC K cs.CupRow
  k_CupRow : Cls K cs.CupRow
  n_CupRow_forward_tuple : NoAttr K cs.CupRow "forward_tuple"
  n_CupRow_size_tuple : NoAttr K cs.CupRow "size_tuple"
  n_CupRow_weights : NoAttr K cs.CupRow "weights"
/-! ### what the defs promise -/
def scrD (ns : List Int) : R.D := .rol (ns.map .int)
/-- a row of cups -/
structure Row (sz fw : List Nat) : Prop where
  l0 : 0 < sz.length
  l1 : sz.length ≤ 30
  s1 : ∀ s ∈ sz, 1 ≤ s ∧ s ≤ 9
  sm : sz.sum ≤ sz.length + 30
  fl : fw.length + 1 = sz.length
  fi : ∀ i, i < fw.length → pk fw i < pk sz i
theorem Row.cups {sz fw : List Nat} (h : Row sz fw) {c : Nat} (hc : c ≤ fw.length) : Cups sz fw c :=
  ⟨by have := h.fl; omega, fun i hi => (h.s1 _ (pk_mem (by have := h.fl; omega))).1, fun i hi => h.fi i (by omega)⟩
def wts (sz : List Nat) : List Nat := (List.range (sz.length + 1)).map fun c => prodL (sz.take c)
def cupN : List PySem.Str := ["size_tuple", "forward_tuple", "weights"]
def cupT (cs : Cs) (sz fw : List Nat) : OT := .ins cs.CupRow cupN [.leaf (nT sz), .leaf (nT fw), .lst ((wts sz).map fun n => .leaf (nI n))]
def cupD (cs : Cs) (sz fw : List Nat) : R.D := .ins cs.CupRow cupN [nT sz, nT fw, nL (wts sz)]
theorem cup_fz (cs : Cs) (sz fw : List Nat) : Fz (cupT cs sz fw) (cupD cs sz fw) := by
  unfold cupT
  rw [leafs_nI]
  exact .ins (.cons (.leaf _) (.cons (.leaf _) (.cons (.lst (FzAll.leafs _)) .nil)))
abbrev fz (d : R.D) : Option Rs := some (.fz d)
def F_is_integer (_ : Cs) : Spec1 := fun ss Q => ∃ i m : Int, ss = [fz (.int i), fz (.int m)] ∧ Q (.fz (.bl (decide (m ≤ i))))
def F_are_sizes (_ : Cs) : Spec1 := fun ss Q => ∃ sz : List Nat, ss = [fz (nL sz)] ∧ 0 < sz.length ∧ sz.length ≤ 30 ∧ (∀ s ∈ sz, 1 ≤ s ∧ s ≤ 9) ∧ sz.sum ≤ sz.length + 30 ∧ Q (.fz (.bl true))
def F_are_forward_indices (_ : Cs) : Spec1 := fun ss Q => ∃ sz fw, Row sz fw ∧ ss = [fz (nL fw), fz (nL sz)] ∧ Q (.fz (.bl true))
def F_CupRow_init (cs : Cs) : R.Spec := fun ss Q => ∃ sz fw x, Row sz fw ∧ ss = [some (.nw (.ins cs.CupRow [] [])), fz (nL sz), fz x] ∧ (x = nL fw ∨ (x = .non ∧ fw = List.replicate (sz.length - 1) 0)) ∧ Q (.fz .non) [some (.nw (cupT cs sz fw)), none, none]
def F_require_cups (cs : Cs) : Spec1 := fun ss Q => ∃ sz fw, ss = [fz (cupD cs sz fw)] ∧ Q (.fz .non)
def F_law_cell_at (_ : Cs) : Spec1 := fun ss Q => ∃ ns k, ss = [fz (scrD ns), fz (nI k)] ∧ ∀ x : Int, Q (.fz (.int x))
def F_law_mixed (_ : Cs) : Spec1 := fun ss Q => ∃ a b : Int, ss = [fz (.int a), fz (.int b)] ∧ ∀ x : Int, Q (.fz (.int x))
def F_law_source (_ : Cs) : Spec1 := fun ss Q => ∃ ns k, ss = [fz (scrD ns), fz (nI k)] ∧ Q (.fz (.vol 0 []))
def F_law_draw (_ : Cs) : Spec1 := fun ss Q => ∃ ps b, ss = [fz (.vol 0 ps), fz (.int b)] ∧ 0 < b ∧ b < 2 ^ 200 ∧ ∀ x : Int, 0 ≤ x → x < b → Q (.fz (.int x))
def F_law_pick (_ : Cs) : Spec1 := fun ss Q => ∃ ps ds, ss = [fz (.vol 0 ps), fz (.lst ds)] ∧ ds ≠ [] ∧ ds.length < 1000 ∧ ∀ d ∈ ds, Q (.fz d)
def F_CupRow_eq (_ : Cs) : Spec1 := fun _ _ => False
def F_CupRow_sizes (_ : Cs) : Spec1 := fun _ _ => False


/-! ### common lemmas -/
def F_CupRow_min_members (cs : Cs) : Spec1 := fun ss Q => ∃ sz fw, Row sz fw ∧ ss = [fz (cupD cs sz fw)] ∧ Q (.fz (nI (least sz (fw.length + 1))))
def F_CupRow_round_length (cs : Cs) : Spec1 := fun ss Q => ∃ sz fw, ss = [fz (cupD cs sz fw)] ∧ Q (.fz (nI (prodL sz)))
theorem Row.leastN {sz fw : List Nat} (h : Row sz fw) : ((sz.sum : Nat) : Int) - (sz.length : Nat) + 1 = (least sz (fw.length + 1) : Nat) ∧ 1 ≤ least sz (fw.length + 1) ∧ least sz (fw.length + 1) ≤ 31 := by
  have e := sum_pred (l := sz) fun s hs => (h.s1 s hs).1
  have e2 : least sz (fw.length + 1) = (sz.map (· - 1)).sum + 1 := by
    unfold least
    rw [List.take_of_length_le (by have := h.fl; omega)]
  have := h.sm
  omega
theorem nc_min : List.contains cupN "min_members" = false := by decide
theorem nc_len : List.contains cupN "round_length" = false := by decide
theorem wts_last (sz : List Nat) : at' ((wts sz).map nI) (-1) = some (nI (prodL sz)) := by
  unfold wts
  rw [List.range_succ, List.map_append, List.map_append, List.map_singleton, List.map_singleton, List.take_length]
  exact at_last
theorem b1 {Z : List Rs → (Rs → Prop) → Prop} {a : DE} {env : R.Env} {Q : Rs → Prop} (h : a env fun x => Z [x.ffz] Q) : mB Z (mCons a mNil) env Q := h
theorem kids_nwT (ds : List R.D) (Q : Bool → List Rs → Prop) (h : Q true (ds.map .fz)) : ∃ ts, (Rs.nw (.tup (ds.map .leaf))).ffz.t.kids = some ts ∧ Q (Rs.nw (.tup (ds.map .leaf))).ffz.stays (ts.map (Rs.kid (Rs.nw (.tup (ds.map .leaf))).ffz)) := by
  rw [ffz_tup]
  exact ⟨_, rfl, by rw [kid_leafs]; exact h⟩
theorem it_nwT {e : DE} {env : R.Env} {Q : Bool → List Rs → Prop} {C : List R.D → Prop} (h : ∀ P : Rs → Prop, (∀ ds, C ds → P (.nw (.tup (ds.map .leaf)))) → e env P) (q : ∀ ds, C ds → Q true (ds.map .fz)) : mItL e env Q :=
  h (fun r => ∃ ts, r.ffz.t.kids = some ts ∧ Q r.ffz.stays (ts.map (Rs.kid r.ffz))) fun ds c => kids_nwT ds Q (q ds c)
theorem get_nL {cs : List (List Nat)} {k : Nat} {r : Rs} (h : ((cs.map nL).map Rs.fz)[k]? = some r) : ∃ hk : k < cs.length, r = .fz (nL cs[k]) := by
  rw [List.map_map, List.getElem?_map] at h
  have hk : k < cs.length := by
    apply Classical.byContradiction
    intro z
    rw [List.getElem?_eq_none (by omega)] at h
    cases h
  rw [List.getElem?_eq_getElem hk] at h
  cases h
  exact ⟨hk, rfl⟩
/-- a comprehension whose items are numbers -/
theorem lc_nums {it : DI} {g : DG} {e : DE} {ws : List Nat} {env : R.Env} {Q : Rs → Prop} (xs : List Rs) (out : List Nat) (hit : ∀ Q' : Bool → List Rs → Prop, Q' true xs → it env Q') (hl : xs.length = out.length) (hs : out.length ≤ sizeL)
    (step : ∀ k r, xs[k]? = some r → ∀ P : Rs → Prop, P (.fz (nI (pk out k))) → g (R.Env.wipe (R.Env.lent env) ws) r.arg fun e1 => e1.length = env.length ∧ e e1 P) (q : Q (.nw (.lst ((out.map nI).map .leaf)))) : mLc it g mYes e ws env Q := by
  refine lc_any xs true (fun k => .leaf (nI (pk out k))) hit (by rw [hl]; exact hs) (fun k r hr => ?_) ?_
  · exact step k r hr _ ⟨_, rfl, item_snoc⟩
  · rw [hl, range_map_pk out fun k => OT.leaf (nI k), leafs_nI]
    exact q
/-- a row of cups, without its bounds of sizes -/
structure Rw (sz fw : List Nat) : Prop where
  l1 : sz.length ≤ 30
  fl : fw.length + 1 = sz.length
  fi : ∀ i, i < fw.length → pk fw i < pk sz i
theorem drop_pk {l : List Nat} {j : Nat} (h : j < l.length) : l.drop j = pk l j :: l.drop (j + 1) := by rw [pk_lt h]; exact List.drop_eq_getElem_cons h
theorem drop_pk1 {l : List Nat} {j : Nat} : pk (l.drop j) 0 = pk l j := by
  unfold pk
  rw [List.getD_eq_getElem?_getD, List.getD_eq_getElem?_getD, List.getElem?_drop, Nat.add_zero]
theorem rw_drop {l : List Nat} {j : Nat} : (l.drop j).drop 1 = l.drop (j + 1) := by rw [List.drop_drop]
theorem mAnd_of {t u : DT} {env : R.Env} {P : Bool → Prop} (c d : Bool) (ht : ∀ P : Bool → Prop, P c → t env P) (hu : c = true → ∀ P : Bool → Prop, P d → u env P) (h : P (c && d)) : mAnd t u env P := ht _ (by
  cases c with
  | true => rw [if_pos rfl]; exact hu rfl _ h
  | false => rw [if_neg Bool.false_ne_true]; exact h)
theorem w_add_bn {a b : List R.D} {Q : Rs → Prop} (hl : a.length + b.length ≤ sizeL) (h : Q (.nw (.lst ((a ++ b).map .leaf)))) : oAdd (Rs.br (.lst (a.map .leaf))) (Rs.nw (.lst (b.map .leaf))).ffz Q := by
  rw [ffz_lst]
  exact .inl ⟨a, b, leaves_map a, rfl, hl, h⟩
/-- all([..]) of true items -/
theorem all_lc {it : DI} {gg : DG} {e : DE} {ws : List Nat} {env : R.Env} {Q : Rs → Prop} (xs : List Rs) (hit : ∀ Q' : Bool → List Rs → Prop, Q' true xs → it env Q') (hs : xs.length ≤ sizeL)
    (step : ∀ (k : Nat) (r : Rs), xs[k]? = some r → ∀ P : Rs → Prop, P (.fz (.bl true)) → gg (R.Env.wipe (R.Env.lent env) ws) r.arg fun e1 => e1.length = env.length ∧ e e1 P) (h : Q (.fz (.bl true))) : mB oAll (mCons (mLc it gg mYes e ws) mNil) env Q := by
  show mLc it gg mYes e ws env fun x => oAll [x.ffz] Q
  refine lc_any xs true (fun _ => .leaf (.bl true)) hit hs (fun k r hr => step k r hr _ ⟨_, rfl, item_snoc⟩) ?_
  have e : (List.range xs.length).map (fun _ => OT.leaf (.bl true)) = ((List.replicate xs.length true).map R.D.bl).map OT.leaf := by
    rw [List.map_const', List.length_range, List.map_replicate, List.map_replicate]
  rw [e]
  show oAll [(Rs.nw (.lst (((List.replicate xs.length true).map R.D.bl).map OT.leaf))).ffz] Q
  rw [ffz_lst]
  refine ⟨_, _, rfl, bls_of _, ?_⟩
  rw [all_true]
  exact h
/-- a comprehension whose items are frozen -/
theorem lc_ds {it : DI} {gg : DG} {e : DE} {ws : List Nat} {env : R.Env} {Q : Rs → Prop} (xs : List Rs) (out : Nat → R.D) (hit : ∀ Q' : Bool → List Rs → Prop, Q' true xs → it env Q') (hs : xs.length ≤ sizeL)
    (step : ∀ (k : Nat) (r : Rs), xs[k]? = some r → ∀ P : Rs → Prop, P (.fz (out k)) → gg (R.Env.wipe (R.Env.lent env) ws) r.arg fun e1 => e1.length = env.length ∧ e e1 P) (q : Q (.nw (.lst (((List.range xs.length).map out).map .leaf)))) : mLc it gg mYes e ws env Q := by
  refine lc_any xs true (fun k => .leaf (out k)) hit hs (fun k r hr => step k r hr _ ⟨_, rfl, item_snoc⟩) ?_
  rw [show (List.range xs.length).map (fun k => OT.leaf (out k)) = ((List.range xs.length).map out).map .leaf from by rw [List.map_map] <;> rfl]
  exact q
theorem mAndV_tt {a b : DE} {env : R.Env} {Q : Rs → Prop} (h1 : ∀ P : Rs → Prop, P (.fz (.bl true)) → a env P) (h2 : b env Q) : mAndV a b env Q := h1 _ (by show (if true = true then _ else _); rw [if_pos rfl]; exact h2)
theorem mNot_tt {t : DT} {env : R.Env} {P : Bool → Prop} (h : ∀ P : Bool → Prop, P true → t env P) (q : P false) : mNot t env P := h _ q
theorem mCh_tt {f gg : Int → Int → Bool} {a b c : DE} {env : R.Env} {Q : Rs → Prop} {i j k : Int} (ha : ∀ P : Rs → Prop, P (.fz (.int i)) → a env P) (hb : ∀ P : Rs → Prop, P (.fz (.int j)) → b env P) (hc : ∀ P : Rs → Prop, P (.fz (.int k)) → c env P) (h1 : f i j = true) (h2 : gg j k = true)
    (q : Q (.fz (.bl true))) : mCh f gg a b c env Q := ha _ (hb _ ⟨i, j, rfl, rfl, by rw [if_pos h1]; exact hc _ ⟨k, rfl, by rw [h2]; exact q⟩⟩)
theorem mT_tt {a : DE} {env : R.Env} {P : Bool → Prop} {b : Bool} (h : ∀ Q : Rs → Prop, Q (.fz (.bl b)) → a env Q) (q : P b) : mT a env P := h _ q
theorem w_add_ff {a b : List R.D} {Q : Rs → Prop} (hl : a.length + b.length ≤ sizeL) (h : Q (.nw (.lst ((a ++ b).map .leaf)))) : oAdd (.fz (.lst a)) (.fz (.lst b)) Q := .inl ⟨_, _, rfl, rfl, hl, h⟩
theorem w_sl {ds : List R.D} {lo hi : Option Int} {Q : Rs → Prop} (h : Q (.nw (.lst ((cut' ds lo hi).map .leaf)))) : oSl (.fz (.lst ds)) lo hi Q := ⟨ds, rfl, h⟩
theorem ffz_lst1 (a : List R.D) : (Rs.nw (.lst [.lst (a.map .leaf)])).ffz = .fz (.lst [.lst a]) := by
  show (match (OT.lst [.lst (a.map .leaf)]).fzd with | some d => Rs.fz d | none => _) = _
  rw [OT.fzd, fzdAll, fzdAll, fzd_lst] <;> rfl
theorem cutA {α : Type} (xs : List α) (c : Nat) : cut' xs none (some (c : Int)) = xs.take c := by
  by_cases h : c ≤ xs.length
  · exact cut_take h
  · simp only [cut', sIx', List.drop_zero, Nat.sub_zero]
    rw [if_neg (by omega), Int.toNat_natCast, Nat.min_eq_right (by omega), List.take_length, List.take_of_length_le (by omega)]
theorem cutB {α : Type} (xs : List α) (c : Nat) : cut' xs (some (c : Int)) none = xs.drop c := by
  by_cases h : c ≤ xs.length
  · exact cut_from h
  · simp only [cut', sIx']
    rw [if_neg (by omega), Int.toNat_natCast, Nat.min_eq_right (by omega), List.drop_length, List.take_nil, List.drop_eq_nil_of_le (by omega)]

/-! ### states of names -/
def nS (g : Nat → PySem.Str) (n : Nat) : R.D := .str (g n)
def sL (g : Nat → PySem.Str) (l : List Nat) : R.D := .lst (l.map (nS g))
def sC (g : Nat → PySem.Str) (cs : List (List Nat)) : R.D := .lst (cs.map (sL g))
def ownS (g : Nat → PySem.Str) (cs : List (List Nat)) : List OT := cs.map fun c => .lst (c.map fun n => .leaf (nS g n))
abbrev stD (g : Nat → PySem.Str) (q : List Nat) (cs : List (List Nat)) : R.D := .tup [sL g q, sC g cs]
abbrev stT (g : Nat → PySem.Str) (q : List Nat) (cs : List (List Nat)) : OT := .tup [.lst (q.map fun n => .leaf (nS g n)), .lst (ownS g cs)]
def abc : PySem.Str := "abcdefghijklmnopqrstuvwxyz"
theorem abc_eq : abc.cps.toList = List.range' 97 26 := by decide +kernel
/-- a valid name -/
structure NameOk (z : PySem.Str) : Prop where
  l1 : 1 ≤ z.cps.toList.length
  l8 : z.cps.toList.length ≤ 8
  lt : ∀ c ∈ z.cps.toList, 97 ≤ c ∧ c ≤ 122
theorem len_cps (z : PySem.Str) : z.length = z.cps.toList.length := by
  show z.cps.size = _
  rw [Array.length_toList]
/-- valid names, all different -/
structure Nms (g : Nat → PySem.Str) (l : List Nat) : Prop where
  nd : (l.map g).Nodup
  ok : ∀ n ∈ l, NameOk (g n)
theorem Nms.perm {g : Nat → PySem.Str} {l m : List Nat} (h : Nms g l) (p : m.Perm l) : Nms g m := ⟨(p.map g).nodup_iff.mpr h.nd, fun n m => h.ok n (p.mem_iff.mp m)⟩
structure StOk (sz fw : List Nat) (g : Nat → PySem.Str) (q : List Nat) (cs : List (List Nat)) : Prop where
  val : Val sz cs
  nms : Nms g (memb q cs)
  lo : least sz (fw.length + 1) ≤ q.length + totM cs
  hi : q.length + totM cs ≤ 40
theorem ownS_fz (g : Nat → PySem.Str) (cs : List (List Nat)) : Fz (.lst (ownS g cs)) (sC g cs) := by
  unfold ownS sC
  refine .lst ?_
  induction cs with
  | nil => exact .nil
  | cons c cs ih => exact .cons (by
      have e : (c.map fun n => OT.leaf (nS g n)) = (c.map (nS g)).map .leaf := by rw [List.map_map] <;> rfl
      show Fz (.lst (c.map fun n => .leaf (nS g n))) _
      rw [e]
      exact fz_lst _) ih
theorem leafs_nS (g : Nat → PySem.Str) (c : List Nat) : (c.map fun n => OT.leaf (nS g n)) = (c.map (nS g)).map .leaf := by rw [List.map_map] <;> rfl
theorem snoc_nS (g : Nat → PySem.Str) (c : List Nat) (x : Nat) : (c.map fun n => OT.leaf (nS g n)) ++ [OT.leaf (nS g x)] = (c ++ [x]).map fun n => .leaf (nS g n) := by rw [List.map_append] <;> rfl
theorem leaves_nS (g : Nat → PySem.Str) (l : List Nat) : leaves (l.map fun n => OT.leaf (nS g n)) = some (l.map (nS g)) := by
  have := leaves_map (l.map (nS g))
  rw [List.map_map] at this
  exact this
theorem leaf_nS {g : Nat → PySem.Str} {l : List Nat} {j : Nat} (h : j < l.length) : (l.map fun n => OT.leaf (nS g n))[j]? = some (.leaf (nS g (pk l j))) := by
  rw [List.getElem?_map, List.getElem?_eq_getElem h, pk_lt h] <;> rfl
theorem erase_nS (g : Nat → PySem.Str) (l : List Nat) (j : Nat) : (l.map fun n => OT.leaf (nS g n)).eraseIdx j = (l.eraseIdx j).map fun n => OT.leaf (nS g n) := (erase_map _ l j).symm
theorem ownS_len (g : Nat → PySem.Str) (cs : List (List Nat)) : (ownS g cs).length = cs.length := by unfold ownS; rw [List.length_map]
theorem ownS_at {g : Nat → PySem.Str} {p : List (List Nat)} {c : List Nat} {r : List (List Nat)} : (ownS g (p ++ c :: r))[p.length]? = some (.lst (c.map fun n => .leaf (nS g n))) := by
  unfold ownS
  rw [List.map_append, List.getElem?_append_right (by rw [List.length_map]; omega), List.length_map, Nat.sub_self] <;> rfl
theorem ownS_set {g : Nat → PySem.Str} {p : List (List Nat)} {c d : List Nat} {r : List (List Nat)} : (ownS g (p ++ c :: r)).set p.length (.lst (d.map fun n => .leaf (nS g n))) = ownS g (p ++ d :: r) := by
  unfold ownS
  rw [List.map_append, List.map_append, List.set_append_right _ _ (by rw [List.length_map]; omega), List.length_map, Nat.sub_self] <;> rfl
theorem get_nS {g : Nat → PySem.Str} {l : List Nat} {k : Nat} {r : Rs} (h : ((l.map (nS g)).map Rs.fz)[k]? = some r) : k < l.length ∧ r = .fz (nS g (pk l k)) := by
  obtain ⟨d, e, rfl⟩ := get_fz h
  rw [List.getElem?_map] at e
  cases q : l[k]? with
  | none => rw [q] at e; cases e
  | some x =>
    rw [q] at e
    cases e
    obtain ⟨hl, e⟩ := List.getElem?_eq_some_iff.mp q
    exact ⟨hl, by rw [pk_lt hl, e]⟩
def pc (cs : List (List Nat)) (k : Nat) : List Nat := cs.getD k []
theorem get_sL {g : Nat → PySem.Str} {cs : List (List Nat)} {k : Nat} {r : Rs} (h : ((cs.map (sL g)).map Rs.fz)[k]? = some r) : k < cs.length ∧ r = .fz (sL g (pc cs k)) := by
  obtain ⟨d, e, rfl⟩ := get_fz h
  rw [List.getElem?_map] at e
  cases q : cs[k]? with
  | none => rw [q] at e; cases e
  | some x =>
    rw [q] at e
    cases e
    obtain ⟨hl, e⟩ := List.getElem?_eq_some_iff.mp q
    refine ⟨hl, ?_⟩
    unfold pc
    rw [List.getD_eq_getElem?_getD, q] <;> rfl
theorem pc_mem {cs : List (List Nat)} {k : Nat} (h : k < cs.length) : pc cs k ∈ cs := by
  unfold pc
  rw [List.getD_eq_getElem?_getD, List.getElem?_eq_getElem h]
  exact List.getElem_mem h
theorem pc_lt {cs : List (List Nat)} {k : Nat} (h : k < cs.length) : pc cs k = cs[k] := by
  unfold pc
  rw [List.getD_eq_getElem?_getD, List.getElem?_eq_getElem h] <;> rfl
theorem getD_sL {g : Nat → PySem.Str} {cs : List (List Nat)} {k : Nat} (h : k < cs.length) : (cs.map (sL g)).getD k .non = sL g (pc cs k) := by
  rw [List.getD_eq_getElem?_getD, List.getElem?_map, List.getElem?_eq_getElem h, pc_lt h] <;> rfl
theorem own_range (g : Nat → PySem.Str) (cs : List (List Nat)) : (List.range ((cs.map (sL g)).map Rs.fz).length).map (fun k => OT.lst ((pc cs k).map fun n => .leaf (nS g n))) = ownS g cs := by
  rw [List.length_map, List.length_map]
  unfold ownS
  apply List.ext_getElem
  · rw [List.length_map, List.length_range, List.length_map]
  · intro k h1 h2
    rw [List.length_map] at h2
    rw [List.getElem_map, List.getElem_range, List.getElem_map, pc_lt h2]
theorem at_sL {g : Nat → PySem.Str} {cs : List (List Nat)} {k : Nat} (h : k < cs.length) : at' (cs.map (sL g)) (k : Int) = some (sL g (pc cs k)) := at_nat (by rw [List.getElem?_map, List.getElem?_eq_getElem h, pc_lt h] <;> rfl)
theorem strs_nS (g : Nat → PySem.Str) (l : List Nat) : allOf D.str? (l.map (nS g)) = some (l.map g) := by
  have h := strs_of (l.map g)
  rw [List.map_map] at h
  exact h
theorem val_at {sz : List Nat} {cs : List (List Nat)} (h : Val sz cs) : ∀ k, k < cs.length → (pc cs k).length < pk sz k := by
  induction h with
  | nil => intro k hk; simp at hk
  | cons h v ih =>
    intro k hk
    cases k with
    | zero => exact h
    | succ k => exact ih k (by simpa using hk)
theorem val_snoc {sz : List Nat} {cs : List (List Nat)} (h : Val sz cs) {s : Nat} {c : List Nat} (hc : c.length < s) : Val (sz ++ [s]) (cs ++ [c]) := by
  induction h with
  | nil => exact .cons hc .nil
  | cons h v ih => exact .cons h ih
theorem ownS_snoc (g : Nat → PySem.Str) (cs : List (List Nat)) (c : List Nat) : ownS g cs ++ [.lst (c.map fun n => .leaf (nS g n))] = ownS g (cs ++ [c]) := by
  unfold ownS
  rw [List.map_append] <;> rfl
theorem pd_nS {g : Nat → PySem.Str} (n : Nat) {l : List Nat} (h : ∀ x ∈ l, NameOk (g x)) : allOf (D.pd n) (l.map (nS g)) = some (l.map fun x => PyData.str (g x)) := by
  induction l with
  | nil => rfl
  | cons x l ih =>
    rw [List.map_cons, allOf, ih fun y m => h y (List.mem_cons_of_mem _ m)]
    have ok : PyData.strOk (g x) = true := by
      show (g x).cps.all (· < 0x110000) = true
      rw [← Array.all_toList]
      refine List.all_eq_true.mpr fun c m => decide_eq_true ?_
      have := ((h x List.mem_cons_self).lt c m).2
      omega
    have e : (nS g x).pd n = some (.str (g x)) := by
      cases n with
      | zero => show (if PyData.strOk (g x) = true then _ else _) = _; rw [if_pos ok]
      | succ n => show (if PyData.strOk (g x) = true then _ else _) = _; rw [if_pos ok]
    rw [e] <;> rfl
theorem pdT_nS {g : Nat → PySem.Str} (n : Nat) {l : List Nat} (h : ∀ x ∈ l, NameOk (g x)) : allOfT (OT.pd n) (l.map fun x => OT.leaf (nS g x)) = some (l.map fun x => PyData.str (g x)) := by
  induction l with
  | nil => rfl
  | cons x l ih =>
    have e := pd_nS n (g := g) (l := [x]) fun y m => h y (by rw [List.mem_singleton.mp m]; exact List.mem_cons_self)
    rw [List.map_cons, allOfT, ih fun y m => h y (List.mem_cons_of_mem _ m)]
    have e2 : (OT.leaf (nS g x)).pd n = some (.str (g x)) := by
      have e3 : (nS g x).pd n = some (.str (g x)) := by
        rw [List.map_cons, List.map_nil, allOf, allOf] at e
        cases q : (nS g x).pd n with
        | none => rw [q] at e; cases e
        | some p => rw [q] at e; cases e; rfl
      cases n with
      | zero => exact e3
      | succ n => exact e3
    rw [e2] <;> rfl
def F_is_name (_ : Cs) : Spec1 := fun ss Q => ∃ z, NameOk z ∧ ss = [fz (.str z)] ∧ Q (.fz (.bl true))
/-- frozen, or lent -/
def IsS (g : Nat → PySem.Str) (l : List Nat) (r : Rs) : Prop := r = .fz (sL g l) ∨ r = .ex (.lst (l.map fun n => .leaf (nS g n)))
def IsC (g : Nat → PySem.Str) (cs : List (List Nat)) (r : Rs) : Prop := r = .fz (sC g cs) ∨ r = .ex (.lst (ownS g cs))
def IsSt (g : Nat → PySem.Str) (q : List Nat) (cs : List (List Nat)) (r : Rs) : Prop := r = .fz (stD g q cs) ∨ r = .ex (stT g q cs)
theorem IsS.fz (g : Nat → PySem.Str) (l : List Nat) : IsS g l (.fz (sL g l)) := .inl rfl
theorem IsC.fz (g : Nat → PySem.Str) (cs : List (List Nat)) : IsC g cs (.fz (sC g cs)) := .inl rfl
theorem IsSt.fz (g : Nat → PySem.Str) (q : List Nat) (cs : List (List Nat)) : IsSt g q cs (.fz (stD g q cs)) := .inl rfl
theorem kid_leafs_ex (t : OT) (ds : List R.D) : (ds.map OT.leaf).map (Rs.kid (.ex t)) = ds.map .fz := by rw [List.map_map] <;> rfl
theorem it_S {env : R.Env} {i : Nat} {g : Nat → PySem.Str} {l : List Nat} {r : Rs} {Q : Bool → List Rs → Prop} (e : env[i]? = some (some r)) (h : IsS g l r) (q : Q true ((l.map (nS g)).map .fz)) : mItL (mVar i) env Q := by
  rcases h with rfl | rfl
  · exact it_var_lst e q
  · refine ⟨_, e, _, rfl, ?_⟩
    show Q true ((l.map fun n => OT.leaf (nS g n)).map (Rs.kid (.ex _)))
    rw [leafs_nS, kid_leafs_ex]
    exact q
/-- the rows of the contents -/
def rowOf (g : Nat → PySem.Str) (r : Rs) (c : List Nat) : Rs := match r with
  | .fz _ => .fz (sL g c)
  | _ => .ex (.lst (c.map fun n => .leaf (nS g n)))
theorem rowOf_is (g : Nat → PySem.Str) (r : Rs) (c : List Nat) : IsS g c (rowOf g r c) := by
  unfold rowOf
  split
  · exact .inl rfl
  · exact .inr rfl
theorem IsS.rd {g : Nat → PySem.Str} {l : List Nat} {r : Rs} (h : IsS g l r) : r.rd = r ∧ r.ffz = r ∧ r.arg = r ∧ r.slot ∧ r.els true = some (l.map (nS g)) := by
  rcases h with rfl | rfl
  · exact ⟨rfl, rfl, rfl, trivial, rfl⟩
  · exact ⟨rfl, rfl, rfl, trivial, leaves_nS g l⟩
theorem it_C {env : R.Env} {i : Nat} {g : Nat → PySem.Str} {cs : List (List Nat)} {r : Rs} {Q : Bool → List Rs → Prop} (e : env[i]? = some (some r)) (h : IsC g cs r) (q : Q true (cs.map (rowOf g r))) : mItL (mVar i) env Q := by
  rcases h with rfl | rfl
  · refine it_var_lst (ds := cs.map (sL g)) e ?_
    rw [List.map_map]
    exact q
  · refine ⟨_, e, _, rfl, ?_⟩
    show Q true ((ownS g cs).map (Rs.kid (.ex _)))
    unfold ownS
    rw [List.map_map]
    exact q
theorem get_row {g : Nat → PySem.Str} {r0 : Rs} {cs : List (List Nat)} {k : Nat} {r : Rs} (h : (cs.map (rowOf g r0))[k]? = some r) : k < cs.length ∧ r = rowOf g r0 (pc cs k) := by
  rw [List.getElem?_map] at h
  cases q : cs[k]? with
  | none => rw [q] at h; cases h
  | some x =>
    rw [q] at h
    cases h
    obtain ⟨hl, e⟩ := List.getElem?_eq_some_iff.mp q
    exact ⟨hl, by rw [pc_lt hl, e]⟩
theorem oList_S {g : Nat → PySem.Str} {l : List Nat} {r : Rs} {Q : Rs → Prop} (h : IsS g l r) (q : Q (.nw (.lst ((l.map (nS g)).map .leaf)))) : oList [r.ffz] Q := by
  rcases h with rfl | rfl
  · exact q
  · exact ⟨_, leaves_nS g l, q⟩
theorem lend_S {g : Nat → PySem.Str} {l : List Nat} {r : Rs} (h : IsS g l r) : r.lend = r := by
  rcases h with rfl | rfl
  · rfl
  · rfl
theorem lend_C {g : Nat → PySem.Str} {l : List (List Nat)} {r : Rs} (h : IsC g l r) : r.lend = r := by
  rcases h with rfl | rfl
  · rfl
  · rfl
theorem IsC.rd {g : Nat → PySem.Str} {l : List (List Nat)} {r : Rs} (h : IsC g l r) : r.rd = r ∧ r.ffz = r := by
  rcases h with rfl | rfl
  · exact ⟨rfl, rfl⟩
  · exact ⟨rfl, rfl⟩
theorem IsSt.lend {g : Nat → PySem.Str} {q : List Nat} {cs : List (List Nat)} {r : Rs} (h : IsSt g q cs r) : r.rd.lend = r := by
  rcases h with rfl | rfl
  · rfl
  · rfl
theorem IsS.len {g : Nat → PySem.Str} {l : List Nat} {r : Rs} {Q : Rs → Prop} (h : IsS g l r) (q : Q (.fz (.int (l.length : Nat)))) : oLen [r] Q := by
  rcases h with rfl | rfl
  · exact ⟨_, rfl, by rw [List.length_map, List.length_map]; exact q⟩
  · exact ⟨_, rfl, by rw [List.length_map]; exact q⟩
theorem IsC.len {g : Nat → PySem.Str} {l : List (List Nat)} {r : Rs} {Q : Rs → Prop} (h : IsC g l r) (q : Q (.fz (.int (l.length : Nat)))) : oLen [r.rd.ffz] Q := by
  rcases h with rfl | rfl
  · exact ⟨_, rfl, by rw [List.length_map, List.length_map]; exact q⟩
  · exact ⟨_, rfl, by rw [ownS_len]; exact q⟩
theorem IsSt.len {g : Nat → PySem.Str} {q : List Nat} {cs : List (List Nat)} {r : Rs} {Q : Rs → Prop} (h : IsSt g q cs r) (k : Q (.fz (.int ((2 : Nat) : Int)))) : oLen [r.rd.ffz] Q := by
  rcases h with rfl | rfl
  · exact ⟨_, rfl, k⟩
  · exact ⟨_, rfl, k⟩
/-- a state's two parts -/
theorem IsSt.parts {g : Nat → PySem.Str} {q : List Nat} {cs : List (List Nat)} {r : Rs} (h : IsSt g q cs r) : ∃ rq rc, IsS g q rq ∧ IsC g cs rc ∧ (∀ Q : Rs → Prop, Q rq → oIx r.rd.ffz (Rs.fz (.int 0)).ffz Q) ∧ (∀ Q : Rs → Prop, Q rc → oIx r.rd.ffz (Rs.fz (.int 1)).ffz Q) ∧
    ∀ {env : R.Env} {i j : Nat} (Q : R.Env → Prop), Q ((env.set i (some rq)).set j (some rc)) → gT [gN i, gN j] env r.rd Q := by
  rcases h with rfl | rfl
  · exact ⟨_, _, .inl rfl, .inl rfl, fun Q q => ⟨_, rfl, q⟩, fun Q q => ⟨_, rfl, q⟩, fun Q q => ⟨_, rfl, rfl, trivial, trivial, q⟩⟩
  · exact ⟨_, _, .inr rfl, .inr rfl, fun Q q => ⟨_, _, rfl, rfl, q⟩, fun Q q => ⟨_, _, rfl, rfl, q⟩, fun Q q => ⟨_, rfl, rfl, trivial, trivial, q⟩⟩
/-- the rows and numbers, side by side -/
def pairRow (g : Nat → PySem.Str) (r : Rs) (c : List Nat) (d : R.D) : Rs := match r with
  | .fz _ => pairR (sL g c) d
  | _ => .ex (.tup [.lst (c.map fun n => .leaf (nS g n)), .leaf d])
def zipRow (g : Nat → PySem.Str) (r : Rs) (cs : List (List Nat)) (es : List R.D) : List Rs := (List.range (min cs.length es.length)).map fun i => pairRow g r (pc cs i) (es.getD i .non)
theorem zip_C {env : R.Env} {i k : Nat} {g : Nat → PySem.Str} {cs : List (List Nat)} {r : Rs} {C : Nat} {nm : PySem.Str} {ks : List PySem.Str} {ds es : List R.D} {Q : Bool → List Rs → Prop} (e : env[i]? = some (some r)) (e2 : env[k]? = some (some (.fz (.ins C ks ds)))) (h : IsC g cs r) (ha : assoc nm ks (ds.map .leaf) = some (.leaf (.tup es)))
    (q : Q true (zipRow g r cs es)) : mItZM (mVar i) (mFld C nm (mVar k)) env Q := by
  rcases h with rfl | rfl
  · refine ⟨_, e, _, e2, _, _, _, rfl, ha, es, rfl, .inl ⟨cs.map (sL g), rfl, ?_⟩⟩
    have : zipR (cs.map (sL g)) es = zipRow g (.fz (sC g cs)) cs es := by
      unfold zipR zipRow
      rw [List.length_map]
      apply List.map_congr_left
      intro n hn
      have := List.mem_range.mp hn
      rw [getD_sL (by omega)]
      rfl
    show Q true (zipR (cs.map (sL g)) es)
    rw [this]
    exact q
  · refine ⟨_, e, _, e2, _, _, _, rfl, ha, es, rfl, .inr ⟨ownS g cs, rfl, ?_⟩⟩
    have : zipX (ownS g cs) es = zipRow g (.ex (.lst (ownS g cs))) cs es := by
      unfold zipX zipRow
      rw [ownS_len]
      apply List.map_congr_left
      intro n hn
      have := List.mem_range.mp hn
      have hn2 : n < cs.length := by omega
      have e3 : (ownS g cs).getD n .d0 = .lst ((pc cs n).map fun n => .leaf (nS g n)) := by
        unfold ownS
        rw [List.getD_eq_getElem?_getD, List.getElem?_map, List.getElem?_eq_getElem hn2, pc_lt hn2] <;> rfl
      rw [e3]
      rfl
    rw [this]
    exact q
theorem pair_g {env : R.Env} {i j : Nat} {g : Nat → PySem.Str} {cs : List (List Nat)} {r : Rs} {c : List Nat} {d : R.D} {Q : R.Env → Prop} (h : IsC g cs r) (hd : True) (q : ∀ row, IsS g c row → Q ((env.set i (some row)).set j (some (.fz d)))) : gT [gN i, gN j] env (pairRow g r c d).arg Q := by
  rcases h with rfl | rfl
  · exact gT2_arg (q _ (.inl rfl))
  · exact ⟨_, rfl, rfl, trivial, trivial, q _ (.inr rfl)⟩
theorem own_range2 (g : Nat → PySem.Str) (f : List Nat → Rs) (cs : List (List Nat)) : (List.range (cs.map f).length).map (fun k => OT.lst ((pc cs k).map fun n => .leaf (nS g n))) = ownS g cs := by
  rw [List.length_map]
  unfold ownS
  apply List.ext_getElem
  · rw [List.length_map, List.length_range, List.length_map]
  · intro k h1 h2
    rw [List.length_map] at h2
    rw [List.getElem_map, List.getElem_range, List.getElem_map, pc_lt h2]
def F_is_name_list (_ : Cs) : Spec1 := fun ss Q => ∃ g l r, IsS g l r ∧ (∀ n ∈ l, NameOk (g n)) ∧ l.length ≤ 100 ∧ ss = [some r] ∧ Q (.fz (.bl true))
def F_all_members (_ : Cs) : Spec1 := fun ss Q => ∃ g q cs r r2, IsS g q r ∧ IsC g cs r2 ∧ q.length + totM cs ≤ 100 ∧ ss = [some r, some r2] ∧ Q (.fz (sL g (memb q cs)))
def F_copy_state (_ : Cs) : Spec1 := fun ss Q => ∃ g q cs r r2, IsS g q r ∧ IsC g cs r2 ∧ cs.length ≤ 100 ∧ ss = [some r, some r2] ∧ Q (.nw (stT g q cs))
def F_is_state (cs : Cs) : Spec1 := fun ss Q => ∃ sz fw g q cts r, IsSt g q cts r ∧ Row sz fw ∧ StOk sz fw g q cts ∧ ss = [Cl.fz (cupD cs sz fw), some r] ∧ Q (.fz (.bl true))
def F_require_state (cs : Cs) : Spec1 := fun ss Q => ∃ sz fw g q cts r, IsSt g q cts r ∧ Row sz fw ∧ StOk sz fw g q cts ∧ ss = [Cl.fz (cupD cs sz fw), some r] ∧ Q (.nw (stT g q cts))
def grD (g : Nat → PySem.Str) : Option (List Nat) → R.D
  | none => .non
  | some r => sL g r
def F_empty_full_cups (cs : Cs) : R.Spec := fun ss Q => ∃ sz fw g pre old post x q, Row sz fw ∧ Val (sz.drop pre.length) (old :: post) ∧ q.length + old.length + totM post ≤ 64 ∧
  ss = [fz (cupD cs sz fw), some (.nw (.lst (q.map fun n => .leaf (nS g n)))), some (.nw (.lst (ownS g (pre ++ (old ++ [x]) :: post)))), fz (nI pre.length)] ∧
  Q (.fz (grD g (cgr (sz.drop pre.length) (fw.drop pre.length) (old :: post) x))) [none, some (.nw (.lst ((csc (sz.drop pre.length) (fw.drop pre.length) (old :: post) x q).2.map fun n => .leaf (nS g n)))), some (.nw (.lst (ownS g (pre ++ (csc (sz.drop pre.length) (fw.drop pre.length) (old :: post) x q).1)))), none]
def F_apply_step (cs : Cs) : R.Spec := fun ss Q => ∃ sz fw g cts x q, Row sz fw ∧ Val sz cts ∧ q.length + totM cts ≤ 64 ∧
  ss = [fz (cupD cs sz fw), some (.nw (.lst ((x :: q).map fun n => .leaf (nS g n)))), some (.nw (.lst (ownS g cts)))] ∧
  Q (.fz (grD g (cgr sz fw cts x))) [none, some (.nw (.lst ((csc sz fw cts x q).2.map fun n => .leaf (nS g n)))), some (.nw (.lst (ownS g (csc sz fw cts x q).1)))]
def F_next_state (cs : Cs) : Spec1 := fun ss Q => ∃ sz fw g x q cts r, IsSt g (x :: q) cts r ∧ Row sz fw ∧ StOk sz fw g (x :: q) cts ∧ ss = [fz (cupD cs sz fw), some r] ∧ Q (.nw (stT g (csc sz fw cts x q).2 (csc sz fw cts x q).1))
def F_counter_of (cs : Cs) : Spec1 := fun ss Q => ∃ sz fw g cts, Row sz fw ∧ Val sz cts ∧ ss = [fz (cupD cs sz fw), fz (sC g cts)] ∧ Q (.fz (nI (ctr sz cts)))
def F_counter_value (cs : Cs) : Spec1 := fun ss Q => ∃ sz fw g q cts r, IsSt g q cts r ∧ Row sz fw ∧ StOk sz fw g q cts ∧ ss = [fz (cupD cs sz fw), some r] ∧ Q (.fz (nI (ctr sz cts)))
theorem prod_le9 {sz : List Nat} (h30 : sz.length ≤ 30) (h9 : ∀ s ∈ sz, s ≤ 9) : prodL sz < 2 ^ 100 := by
  have key : ∀ l : List Nat, (∀ s ∈ l, s ≤ 9) → prR l ≤ 9 ^ l.length := by
    intro l
    induction l with
    | nil => intro _; exact Nat.le_refl _
    | cons s l ih =>
      intro h
      have a := ih fun x m => h x (List.mem_cons_of_mem _ m)
      have b := h s List.mem_cons_self
      rw [prR, List.length_cons, Nat.pow_succ, Nat.mul_comm]
      exact Nat.mul_le_mul a b
  rw [prR_eq]
  have a := key sz h9
  have b := Nat.pow_le_pow_right (n := 9) (by omega) h30
  have c : (9 : Nat) ^ 30 < 2 ^ 100 := by decide
  omega
theorem Row.ne {sz fw : List Nat} (h : Row sz fw) : sz ≠ [] := fun z => by have := h.l0; rw [z] at this; simp at this
theorem StOk.cons {sz fw : List Nat} {g : Nat → PySem.Str} {q : List Nat} {cs : List (List Nat)} (hR : Row sz fw) (h : StOk sz fw g q cs) : ∃ x q', q = x :: q' := by
  have a := val_tot h.val
  have b := hR.leastN
  have c := h.lo
  cases q with
  | nil => rw [List.length_nil] at c; omega
  | cons x q => exact ⟨x, q, rfl⟩
theorem StOk.step {sz fw : List Nat} {g : Nat → PySem.Str} {x : Nat} {q : List Nat} {cs : List (List Nat)} (hR : Row sz fw) (h : StOk sz fw g (x :: q) cs) : StOk sz fw g (csc sz fw cs x q).2 (csc sz fw cs x q).1 := by
  have a := csc_tot (m := x) (q := q) hR.ne hR.fl hR.fi h.val
  have b := csc_perm (m := x) (q := q) hR.ne hR.fl hR.fi h.val
  have c := h.lo
  have d := h.hi
  rw [List.length_cons] at c d
  exact ⟨(csc_ctr (m := x) (q := q) hR.ne h.val).1, h.nms.perm b, by omega, by omega⟩
theorem StOk.next {sz fw : List Nat} {g : Nat → PySem.Str} {x : Nat} {q : List Nat} {cs : List (List Nat)} (hR : Row sz fw) (h : StOk sz fw g (x :: q) cs) : ctr sz (csc sz fw cs x q).1 = (ctr sz cs + 1) % prodL sz := by
  have a := (csc_ctr (fw := fw) (m := x) (q := q) hR.ne h.val).2
  have b := ctr_lt h.val
  rw [prR_eq, a]
  split
  · rename_i z
    rw [Nat.mod_eq_of_lt z]
  · rw [show ctr sz cs + 1 = prR sz by omega, Nat.mod_self]
theorem Fz.st (g : Nat → PySem.Str) (q : List Nat) (cs : List (List Nat)) : Fz (stT g q cs) (stD g q cs) := by
  unfold stT
  rw [leafs_nS]
  exact .tup (.cons (fz_lst _) (.cons (ownS_fz g cs) .nil))
theorem strOk_of (s : String) : PyData.strOk (s : PySem.Str) = true := by
  show (PySem.Str.ofString s).cps.all (· < 0x110000) = true
  rw [PySem.Str.ofString_eq_toList, ← Array.all_toList]
  refine List.all_eq_true.mpr fun c m => decide_eq_true ?_
  have m : c ∈ s.toList.map Char.toNat := by simpa using m
  obtain ⟨d, _, rfl⟩ := List.mem_map.mp m
  have := d.valid
  unfold UInt32.isValidChar Nat.isValidChar at this
  show d.val.toNat < 0x110000
  omega
theorem log2_le {n : Nat} (h : n < 2 ^ 100) : ((n : Int)).natAbs.log2 < 1920 := by
  rw [Int.natAbs_natCast]
  by_cases z : n = 0
  · rw [z]
    decide
  · have := (Nat.log2_lt z (k := 100)).mpr h
    omega
/-- repr of the same number -/
theorem oEq_repr {neg : Bool} {s : String} {Q : Rs → Prop} (q : Q (.fz (.bl (true != neg)))) : oEq neg (.fz (.str (s : PySem.Str))) (.fz (.str (s : PySem.Str))) Q := by
  have e : (R.D.str (s : PySem.Str)).pd 8 = some (.str s) := by
    show (if PyData.strOk (s : PySem.Str) = true then _ else _) = _
    rw [if_pos (strOk_of s)]
  exact oEq_same e e e q
theorem oEq_nil {neg : Bool} {ds : List R.D} {ps : List PyData} {Q : Rs → Prop} (h : allOf (D.pd 7) ds = some ps) (q : Q (.fz (.bl (ds.isEmpty != neg)))) : oEq neg (.fz (.lst ds)) (.fz (.lst [])) Q := by
  refine ⟨.list ps, .list [], ?_, rfl, ?_⟩
  · show (allOf (D.pd 7) ds).map PyData.list = _
    rw [h] <;> rfl
  · cases ds with
    | nil =>
      cases h
      rw [PyData.eqv, PyData.eqvAll]
      exact q
    | cons d ds =>
      rw [allOf] at h
      cases e1 : d.pd 7 with
      | none => rw [e1] at h; cases h
      | some p =>
        rw [e1] at h
        cases e2 : allOf (D.pd 7) ds with
        | none => rw [e2] at h; cases h
        | some ps2 =>
          rw [e2] at h
          cases h
          rw [PyData.eqv, PyData.eqvAll]
          · exact q
          all_goals simp
theorem oEq_bl {neg a b : Bool} {Q : Rs → Prop} (q : Q (.fz (.bl ((a == b) != neg)))) : oEq neg (.fz (.bl a)) (.fz (.bl b)) Q := ⟨.bool a, .bool b, rfl, rfl, by rw [PyData.eqv]; exact q⟩
/-- a comprehension that keeps some -/
theorem lc_filter {it : DI} {gg : DG} {t : DT} {e : DE} {ws : List Nat} {env : R.Env} {Q : Rs → Prop} (ds : List R.D) (p : R.D → Bool) (hit : ∀ Q' : Bool → List Rs → Prop, Q' true (ds.map .fz) → it env Q') (hs : ds.length ≤ sizeL)
    (step : ∀ (k : Nat) (d : R.D), ds[k]? = some d → ∃ e1 : R.Env, (∀ P : R.Env → Prop, P e1 → gg (R.Env.wipe (R.Env.lent env) ws) (Rs.fz d).arg P) ∧ e1.length = env.length ∧ (∀ P : Bool → Prop, P (p d) → t e1 P) ∧ (∀ P : Rs → Prop, P (.fz d) → e e1 P))
    (q : Q (.nw (.lst ((ds.filter p).map .leaf)))) : mLc it gg t e ws env Q := by
  refine hit _ ⟨fun i acc => acc = ((ds.take i).filter p).map .leaf, rfl, ?_, ?_⟩
  · rintro i r acc hr rfl
    obtain ⟨d, hd, rfl⟩ := get_fz hr
    obtain ⟨e1, a, b, c, f⟩ := step i d hd
    have hlt := (List.getElem?_eq_some_iff.mp hd).1
    refine ⟨?_, a _ ⟨b, c _ ?_⟩⟩
    · have := List.length_filter_le p (ds.take i)
      rw [List.length_map]
      rw [List.length_take] at this
      omega
    · have e2 : (ds.take (i + 1)).filter p = (ds.take i).filter p ++ if p d = true then [d] else [] := by
        rw [List.take_add_one, hd, List.filter_append]
        show _ ++ List.filter p [d] = _
        rw [List.filter_cons, List.filter_nil]
      dsimp only
      rw [e2]
      cases hp : p d with
      | true =>
        rw [if_pos rfl]
        exact f _ ⟨_, rfl, by rw [if_pos rfl, List.map_append] <;> rfl⟩
      | false =>
        rw [if_neg Bool.false_ne_true, if_neg Bool.false_ne_true, List.append_nil]
  · rintro acc rfl
    rw [List.length_map, List.take_length]
    exact q
theorem it_st {env : R.Env} {k : Nat} {g : Nat → PySem.Str} {q : List Nat} {cts : List (List Nat)} {Q : Bool → List Rs → Prop} (e : env[k]? = some (some (.fz (stD g q cts)))) (h : Q true ((cts.map (sL g)).map .fz)) : mItL (mOp oIx (mVar k) (mC (.int 1))) env Q := ⟨_, e, sC g cts, rfl, _, rfl, by
  show Q true (((cts.map (sL g)).map OT.leaf).map (Rs.kid (.fz (.lst (cts.map (sL g))))))
  rw [kid_leafs]
  exact h⟩
abbrev rowsP (g : Nat → PySem.Str) (cs : List (List Nat)) : List PyData := cs.map fun c => PyData.list (c.map fun x => PyData.str (g x))
theorem pd_row {g : Nat → PySem.Str} (n : Nat) {c : List Nat} (h : ∀ x ∈ c, NameOk (g x)) : (sL g c).pd (n + 1) = some (.list (c.map fun x => PyData.str (g x))) := by
  show (allOf (D.pd n) (c.map (nS g))).map PyData.list = _
  rw [pd_nS n h] <;> rfl
theorem pdT_row {g : Nat → PySem.Str} (n : Nat) {c : List Nat} (h : ∀ x ∈ c, NameOk (g x)) : (OT.lst (c.map fun x => .leaf (nS g x))).pd (n + 1) = some (.list (c.map fun x => PyData.str (g x))) := by
  show (allOfT (OT.pd n) (c.map fun x => OT.leaf (nS g x))).map PyData.list = _
  rw [pdT_nS n h] <;> rfl
theorem pd_rows {g : Nat → PySem.Str} (n : Nat) {cs : List (List Nat)} (h : ∀ c ∈ cs, ∀ x ∈ c, NameOk (g x)) : allOf (D.pd (n + 1)) (cs.map (sL g)) = some (rowsP g cs) := by
  induction cs with
  | nil => rfl
  | cons c cs ih => rw [List.map_cons, allOf, pd_row n (h c List.mem_cons_self), ih fun c m => h c (List.mem_cons_of_mem _ m)] <;> rfl
theorem pdT_rows {g : Nat → PySem.Str} (n : Nat) {cs : List (List Nat)} (h : ∀ c ∈ cs, ∀ x ∈ c, NameOk (g x)) : allOfT (OT.pd (n + 1)) (ownS g cs) = some (rowsP g cs) := by
  unfold ownS
  induction cs with
  | nil => rfl
  | cons c cs ih => rw [List.map_cons, allOfT, pdT_row n (h c List.mem_cons_self), ih fun c m => h c (List.mem_cons_of_mem _ m)] <;> rfl
theorem pd_sC {g : Nat → PySem.Str} (n : Nat) {cs : List (List Nat)} (h : ∀ c ∈ cs, ∀ x ∈ c, NameOk (g x)) : (sC g cs).pd (n + 2) = some (.list (rowsP g cs)) := by
  show (allOf (D.pd (n + 1)) (cs.map (sL g))).map PyData.list = _
  rw [pd_rows n h] <;> rfl
theorem pdT_own {g : Nat → PySem.Str} (n : Nat) {cs : List (List Nat)} (h : ∀ c ∈ cs, ∀ x ∈ c, NameOk (g x)) : (OT.lst (ownS g cs)).pd (n + 2) = some (.list (rowsP g cs)) := by
  show (allOfT (OT.pd (n + 1)) (ownS g cs)).map PyData.list = _
  rw [pdT_rows n h] <;> rfl
theorem mem_parts {g : Nat → PySem.Str} {q : List Nat} {cs : List (List Nat)} (h : ∀ n ∈ memb q cs, NameOk (g n)) : (∀ n ∈ q, NameOk (g n)) ∧ ∀ c ∈ cs, ∀ n ∈ c, NameOk (g n) :=
  ⟨fun n m => h n (List.mem_append_left _ m), fun c m n hn => h n (List.mem_append_right _ (List.mem_flatten.mpr ⟨c, m, hn⟩))⟩
theorem pd_st {g : Nat → PySem.Str} {q : List Nat} {cs : List (List Nat)} (h : ∀ n ∈ memb q cs, NameOk (g n)) : (stD g q cs).pd 8 = some (.tuple [.list (q.map fun x => PyData.str (g x)), .list (rowsP g cs)]) := by
  show ((((sL g q).pd 7).bind fun x => ((((sC g cs).pd 7).bind fun y => (some []).map (y :: ·))).map (x :: ·))).map PyData.tuple = _
  rw [pd_row 6 (mem_parts h).1, pd_sC 5 (mem_parts h).2] <;> rfl
theorem pdT_st {g : Nat → PySem.Str} {q : List Nat} {cs : List (List Nat)} (h : ∀ n ∈ memb q cs, NameOk (g n)) : (stT g q cs).pd 8 = some (.tuple [.list (q.map fun x => PyData.str (g x)), .list (rowsP g cs)]) := by
  show ((((OT.lst (q.map fun x => .leaf (nS g x))).pd 7).bind fun x => ((((OT.lst (ownS g cs)).pd 7).bind fun y => (some []).map (y :: ·))).map (x :: ·))).map PyData.tuple = _
  rw [pdT_row 6 (mem_parts h).1, pdT_own 5 (mem_parts h).2] <;> rfl
theorem fzd_own (g : Nat → PySem.Str) (cs : List (List Nat)) : (OT.lst (ownS g cs)).fzd = some (sC g cs) := by
  have e : fzdAll (ownS g cs) = some (cs.map (sL g)) := by
    unfold ownS
    induction cs with
    | nil => rw [List.map_nil, fzdAll] <;> rfl
    | cons c cs ih => rw [List.map_cons, fzdAll, ih, leafs_nS, fzd_lst] <;> rfl
  rw [OT.fzd, e] <;> rfl
theorem lend_nw {t : OT} {d : R.D} (h : t.fzd = some d) : (Rs.nw t).lend = .fz d := by
  unfold Rs.lend Rs.ffz
  show (match (match t.fzd with | some d => Rs.fz d | none => _) with | .fz d => Rs.fz d | .nw t => .ex t | .br t => .ex t | .ex t => .ex t) = _
  rw [h]
theorem ffz_nw {t : OT} {d : R.D} (h : t.fzd = some d) : (Rs.nw t).ffz = .fz d := by
  show (match t.fzd with | some d => Rs.fz d | none => _) = _
  rw [h]
theorem fzd_st1 (g : Nat → PySem.Str) (q : List Nat) (cs : List (List Nat)) : (OT.tup [.leaf (sL g q), .lst (ownS g cs)]).fzd = some (stD g q cs) := by
  rw [OT.fzd, fzdAll, fzdAll, fzdAll, fzd_own, OT.fzd] <;> rfl
theorem fzd_st (g : Nat → PySem.Str) (q : List Nat) (cs : List (List Nat)) : (stT g q cs).fzd = some (stD g q cs) := by
  unfold stT
  rw [OT.fzd, fzdAll, fzdAll, fzdAll, fzd_own, leafs_nS, fzd_lst] <;> rfl

/-! ### what a law draws -/
def F_law_script_value (_ : Cs) : Spec1 := fun ss Q => ∃ ns k, ss = [fz (scrD ns), fz (nI k)] ∧ ∀ x : Int, Q (.fz (.int x))
def F_law_mix (_ : Cs) : Spec1 := fun ss Q => ∃ a b : Int, ss = [fz (.int a), fz (.int b)] ∧ ∀ x : Int, Q (.fz (.int x))
def F_law_draw_source (_ : Cs) : Spec1 := fun ss Q => ∃ ns k, ss = [fz (scrD ns), fz (nI k)] ∧ Q (.fz (.vol 0 []))
/-- a row within a budget, of so many cups -/
def F_law_draw_cups (_ : Cs) : Spec1 := fun ss Q => ∃ ps mx top bud, ss = [fz (.vol 0 ps), fz (nI mx), fz (nI top), fz (nI bud)] ∧ 1 ≤ mx ∧ mx ≤ 30 ∧ 1 ≤ top ∧ top ≤ 9 ∧ bud ≤ 30 ∧
  ∀ sz fw, Row sz fw → sz.length ≤ mx → sz.sum ≤ sz.length + bud → Q (.nw (.tup [.leaf (nL sz), .lst (fw.map fun n => .leaf (nI n))]))
def F_law_min_members (_ : Cs) : Spec1 := fun ss Q => ∃ sz : List Nat, ss = [fz (nL sz)] ∧ (∀ s ∈ sz, 1 ≤ s) ∧ sz.length ≤ 30 ∧ Q (.fz (nI (1 + (sz.sum - sz.length))))
def F_law_name_for (_ : Cs) : Spec1 := fun ss Q => ∃ n : Nat, ss = [fz (nI n)] ∧ n ≤ 20000 ∧ ∀ z, NameOk z → lval z.cps.toList = n + 1 → Q (.fz (.str z))
def F_law_draw_names (_ : Cs) : Spec1 := fun ss Q => ∃ ps n, ss = [fz (.vol 0 ps), fz (nI n)] ∧ 1 ≤ n ∧ n ≤ 40 ∧ ∀ g, Nms g (List.range n) → Q (.nw (.lst ((List.range n).map fun k => .leaf (nS g k))))
def F_law_draw_state (_ : Cs) : Spec1 := fun ss Q => ∃ ps sz fw more, ss = [fz (.vol 0 ps), fz (nL sz), fz (nI more)] ∧ Row sz fw ∧ more ≤ 40 ∧ ∀ g q cts, StOk sz fw g q cts → Q (.nw (.tup [.leaf (sL g q), .leaf (sC g cts)]))
def F_law_counter (_ : Cs) : Spec1 := fun ss Q => ∃ sz g cts, Val sz cts ∧ sz.length ≤ 30 ∧ (∀ s ∈ sz, s ≤ 9) ∧ ss = [fz (nL sz), fz (sC g cts)] ∧ Q (.fz (nI (ctr sz cts)))
def F_law_product (_ : Cs) : Spec1 := fun ss Q => ∃ sz : List Nat, (∀ s ∈ sz, s ≤ 9) ∧ ss = [fz (nL sz)] ∧ Q (.fz (nI (prodL sz)))
def F_law_empty_cups (_ : Cs) : Spec1 := fun ss Q => ∃ sz fw g old post x q, Row sz fw ∧ Val sz (old :: post) ∧ q.length + old.length + totM post ≤ 64 ∧
  ss = [fz (nL sz), fz (nL fw), fz (sL g q), fz (sC g ((old ++ [x]) :: post)), fz (.int 0)] ∧ Q (.nw (.tup [.leaf (sL g (csc sz fw (old :: post) x q).2), .leaf (sC g (csc sz fw (old :: post) x q).1)]))
def F_law_step (_ : Cs) : Spec1 := fun ss Q => ∃ sz fw g x q cts, Row sz fw ∧ Val sz cts ∧ q.length + totM cts ≤ 64 ∧ ss = [fz (nL sz), fz (nL fw), fz (stD g (x :: q) cts)] ∧
  Q (.nw (.tup [.leaf (sL g (csc sz fw cts x q).2), .leaf (sC g (csc sz fw cts x q).1)]))

-- uses cups base states draws
def F_law_lists_are_separate (_ : Cs) : R.Spec := fun ss Q => ∃ g q cts, (∀ n ∈ memb q cts, NameOk (g n)) ∧ q.length ≤ 100 ∧ cts.length ≤ 100 ∧ (∀ c ∈ cts, c.length ≤ 100) ∧ ss = [some (.nw (stT g q cts)), fz (stD g q cts)] ∧ ∀ x, Q (.fz (.bl true)) [some (.nw x), none]
def F_law_check (cs : Cs) : Spec1 := fun ss Q => ∃ sz fw g q cts n, Row sz fw ∧ StOk sz fw g q cts ∧ n ≤ 100 ∧ ss = [fz (cupD cs sz fw), fz (nL sz), fz (nL fw), fz (stD g q cts), fz (nI n)] ∧ Q (.fz (.bl true))
def F_law_check_shared_list (cs : Cs) : Spec1 := fun ss Q => ∃ sz fw g q cts, Row sz fw ∧ StOk sz fw g q cts ∧ ss = [fz (cupD cs sz fw), fz (nL sz), fz (nL fw), fz (stD g q cts)] ∧ Q (.fz (.bl true))
def F_law (_ : Cs) : Spec1 := fun ss Q => ∃ ns : List Int, ss = [fz (scrD ns)] ∧ ns.length ≤ 63 ∧ Q (.fz (.bl true))
theorem flat_nils (n : Nat) : (List.replicate n ([] : List Nat)).flatten = [] := by
  induction n with
  | zero => rfl
  | succ n ih => rw [List.replicate_succ, List.flatten_cons, ih] <;> rfl

/-! ### names of fields -/
theorem as0 {x y z : OT} : assoc "size_tuple" cupN [x, y, z] = some x := by
  show (if ("size_tuple" : PySem.Str) = "size_tuple" then _ else _) = _
  rw [if_pos rfl]
theorem as1 {x y z : OT} : assoc "forward_tuple" cupN [x, y, z] = some y := by
  show (if ("size_tuple" : PySem.Str) = "forward_tuple" then _ else if ("forward_tuple" : PySem.Str) = "forward_tuple" then _ else _) = _
  rw [if_neg (by decide), if_pos rfl]
theorem as2 {x y z : OT} : assoc "weights" cupN [x, y, z] = some z := by
  show (if ("size_tuple" : PySem.Str) = "weights" then _ else if ("forward_tuple" : PySem.Str) = "weights" then _ else if ("weights" : PySem.Str) = "weights" then _ else _) = _
  rw [if_neg (by decide), if_neg (by decide), if_pos rfl]
theorem pk1 {f g : PySem.Str} {x t : OT} (h : f ≠ g) : R.putK g t [f] [x] = ([f, g], [x, t]) := by
  show (if f = g then _ else _) = _
  rw [if_neg h] <;> rfl
theorem pk2 {f g k : PySem.Str} {x y t : OT} (h : f ≠ k) (h2 : g ≠ k) : R.putK k t [f, g] [x, y] = ([f, g, k], [x, y, t]) := by
  show (if f = k then _ else (f :: (R.putK k t [g] [y]).1, x :: (R.putK k t [g] [y]).2)) = _
  rw [if_neg h, pk1 h2] <;> rfl
theorem pkc1 {x t : OT} : R.putK "forward_tuple" t (["size_tuple"] : List PySem.Str) [x] = ((["size_tuple", "forward_tuple"] : List PySem.Str), [x, t]) := pk1 (by decide)
theorem pkc2 {x y t : OT} : R.putK "weights" t (["size_tuple", "forward_tuple"] : List PySem.Str) [x, y] = ((["size_tuple", "forward_tuple", "weights"] : List PySem.Str), [x, y, t]) := pk2 (by decide) (by decide)
theorem ix_w : R.idx "weights" cupN = some 2 := by
  show (if ("size_tuple" : PySem.Str) = "weights" then _ else Option.map _ (if ("forward_tuple" : PySem.Str) = "weights" then _ else Option.map _ (if ("weights" : PySem.Str) = "weights" then _ else _))) = _
  rw [if_neg (by decide), if_neg (by decide), if_pos rfl] <;> rfl
theorem cup_lend (cs : Cs) (sz fw : List Nat) : (Rs.nw (cupT cs sz fw)).lend = .fz (cupD cs sz fw) := by
  unfold Rs.lend Rs.ffz
  have e : (cupT cs sz fw).fzd = some (cupD cs sz fw) := by
    unfold cupT
    rw [OT.fzd, fzdAll, fzdAll, fzdAll, fzdAll, OT.fzd, OT.fzd, leafs_nI, fzd_lst] <;> rfl
  show (match (match (cupT cs sz fw).fzd with | some d => Rs.fz d | none => _) with | .fz d => Rs.fz d | .nw t => .ex t | .br t => .ex t | .ex t => .ex t) = _
  rw [e]


def m_is_integer (cs : Cs) : DS := (mRet (mAndV (mUn (oIs "int") (mVar 0)) (mAndV (mNotV (mUn (oIs "bool") (mVar 0))) (mOp oGe (mVar 0) (mVar 1)))))
def m_are_sizes (cs : Cs) : DS := (mSeq (mIfS (mOr (mNot (mT (mUn (oIs "list") (mVar 0)))) (mNot (mT (mCh bLe bLe (mC (.int 1)) (mB oLen (mCons (mVar 0) mNil)) (mC (.int 30)))))) (mRet (mC (.bl false))) mNext) (mSeq (mIfS (mNot (mT (mB oAll (mCons (mLc (mItL (mVar 0)) (gN 1) mYes (mAndV (mCall 2 (F_is_integer cs) (mCons (mVar 1) (mCons (mC (.int 1)) mNil)) []) (mOp oLe (mVar 1) (mC (.int 9)))) [1]) mNil)))) (mRet (mC (.bl false))) mNext) (mRet (mOp oLe (mOp oSub (mB oSum (mCons (mVar 0) mNil)) (mB oLen (mCons (mVar 0) mNil))) (mC (.int 30))))))
def m_are_forward_indices (cs : Cs) : DS := (mSeq (mIfS (mOr (mNot (mT (mUn (oIs "list") (mVar 0)))) (mT (mOp (oEq true) (mB oLen (mCons (mVar 0) mNil)) (mOp oSub (mB oLen (mCons (mVar 1) mNil)) (mC (.int 1)))))) (mRet (mC (.bl false))) mNext) (mRet (mB oAll (mCons (mLc (mItZ (mVar 0) (mVar 1)) (gT [(gN 2), (gN 3)]) mYes (mAndV (mCall 2 (F_is_integer cs) (mCons (mVar 2) mNil) [(.int 0)]) (mOp oLt (mVar 2) (mVar 3))) [2, 3]) mNil))))
def m_CupRow_init (cs : Cs) : DS := (mSeq (mIfS (mNot (mT (mCall 1 (F_are_sizes cs) (mCons (mVar 1) mNil) []))) mNever mNext) (mSeq (mAsgG (gN 3) (mFz (mIf (mT (mUn (oIsN false) (mVar 2))) (mOp oMul (mLst (mCons (mC (.int 0)) mNil)) (mOp oSub (mB oLen (mCons (mVar 1) mNil)) (mC (.int 1)))) (mVar 2)))) (mSeq (mIfS (mNot (mT (mCall 2 (F_are_forward_indices cs) (mCons (mVar 3) (mCons (mVar 1) mNil)) []))) mNever mNext) (mSeq (mSetP cs.CupRow "size_tuple" (plN 0) (mB oTuple (mCons (mVar 1) mNil))) (mSeq (mSetP cs.CupRow "forward_tuple" (plN 0) (mB oTuple (mCons (mVar 3) mNil))) (mSeq (mSetP cs.CupRow "weights" (plN 0) (mLst (mCons (mC (.int 1)) mNil))) (mFor (mItL (mVar 1)) (gN 4) (mAppend (plF cs.CupRow "weights" (plN 0)) (mOp oMul (mOp oIx (mFld cs.CupRow "weights" (mVar 0)) (mUn oNeg (mC (.int 1)))) (mVar 4))))))))))
def m_CupRow_min_members (cs : Cs) : DS := (mRet (mOp oAdd (mOp oSub (mB oSum (mCons (mFld cs.CupRow "size_tuple" (mVar 0)) mNil)) (mB oLen (mCons (mFld cs.CupRow "size_tuple" (mVar 0)) mNil))) (mC (.int 1))))
def m_require_cups (cs : Cs) : DS := (mIfS (mNot (mT (mUn (oIsC cs.CupRow) (mVar 0)))) mNever mNext)
def m_is_name (cs : Cs) : DS := (mSeq (mIfS (mOr (mNot (mT (mUn (oIs "str") (mVar 0)))) (mNot (mT (mCh bLe bLe (mC (.int 1)) (mB oLen (mCons (mVar 0) mNil)) (mC (.int 8)))))) (mRet (mC (.bl false))) mNext) (mRet (mB oAll (mCons (mLc (mItS (mVar 0)) (gN 1) mYes (mOp (oInS false) (mVar 1) (mC (.str "abcdefghijklmnopqrstuvwxyz"))) [1]) mNil))))
def m_is_name_list (cs : Cs) : DS := (mRet (mAndV (mUn (oIs "list") (mVar 0)) (mB oAll (mCons (mLc (mItL (mVar 0)) (gN 1) mYes (mCall 1 (F_is_name cs) (mCons (mVar 1) mNil) []) [1]) mNil))))
def m_all_members (cs : Cs) : DS := (mSeq (mAsgG (gN 2) (mFz (mB oList (mCons (mVar 0) mNil)))) (mSeq (mFor (mItL (mVar 1)) (gN 3) (mAsgG (gN 2) (mFz (mOp oAdd (mVar 2) (mVar 3))))) (mRet (mVar 2))))
def m_copy_state (cs : Cs) : DS := (mRet (mTup (mCons (mB oList (mCons (mVar 0) mNil)) (mCons (mLc (mItL (mVar 1)) (gN 2) mYes (mB oList (mCons (mVar 2) mNil)) [2]) mNil))))
def m_is_state (cs : Cs) : DS := (mSeq (mIfS (mOr (mNot (mT (mUn (oIs "tuple") (mVar 1)))) (mOr (mT (mOp (oEq true) (mB oLen (mCons (mVar 1) mNil)) (mC (.int 2)))) (mOr (mNot (mT (mCall 1 (F_is_name_list cs) (mCons (mOp oIx (mVar 1) (mC (.int 0))) mNil) []))) (mNot (mT (mUn (oIs "list") (mOp oIx (mVar 1) (mC (.int 1))))))))) (mRet (mC (.bl false))) mNext) (mSeq (mAsgG (gT [(gN 2), (gN 3)]) (mVar 1)) (mSeq (mIfS (mOr (mT (mOp (oEq true) (mB oLen (mCons (mVar 3) mNil)) (mB oLen (mCons (mFld cs.CupRow "size_tuple" (mVar 0)) mNil)))) (mNot (mT (mB oAll (mCons (mLc (mItL (mVar 3)) (gN 5) mYes (mCall 1 (F_is_name_list cs) (mCons (mVar 5) mNil) []) [5]) mNil))))) (mRet (mC (.bl false))) mNext) (mSeq (mIfS (mNot (mT (mB oAll (mCons (mLc (mItZM (mVar 3) (mFld cs.CupRow "size_tuple" (mVar 0))) (gT [(gN 5), (gN 6)]) mYes (mOp oLt (mB oLen (mCons (mVar 5) mNil)) (mVar 6)) [5, 6]) mNil)))) (mRet (mC (.bl false))) mNext) (mSeq (mAsgG (gN 4) (mFz (mCall 2 (F_all_members cs) (mCons (mVar 2) (mCons (mVar 3) mNil)) []))) (mRet (mAndV (mOp (oEq false) (mLenSet (mVar 4)) (mB oLen (mCons (mVar 4) mNil))) (mCh bLe bLe (mMeth 1 cs.CupRow "min_members" (F_CupRow_min_members cs) (mVar 0) mNil []) (mB oLen (mCons (mVar 4) mNil)) (mC (.int 40))))))))))
def m_require_state (cs : Cs) : DS := (mSeq (mIfS (mNot (mT (mCall 2 (F_is_state cs) (mCons (mVar 0) (mCons (mVar 1) mNil)) []))) mNever mNext) (mRet (mCall 2 (F_copy_state cs) (mCons (mOp oIx (mVar 1) (mC (.int 0))) (mCons (mOp oIx (mVar 1) (mC (.int 1))) mNil)) [])))
def m_empty_full_cups (cs : Cs) : DS := (mSeq (mWhile (mAnd (mT (mOp oLt (mVar 3) (mB oLen (mCons (mVar 2) mNil)))) (mT (mOp (oEq false) (mB oLen (mCons (mOp oIx (mVar 2) (mVar 3)) mNil)) (mOp oIx (mFld cs.CupRow "size_tuple" (mVar 0)) (mVar 3))))) (mSeq (mTake 4 (plI (plN 2) (mVar 3))) (mSeq (mSetI (plN 2) (mVar 3) (mLst mNil)) (mSeq (mIfS (mT (mOp (oEq false) (mVar 3) (mOp oSub (mB oLen (mCons (mVar 2) mNil)) (mC (.int 1))))) (mSeq (mExtend (plN 1) (mVar 4)) (mFzS 4 (mRet (mVar 4)))) mNext) (mSeq (mAppPop (plI (plN 2) (mOp oAdd (mVar 3) (mC (.int 1)))) 4 (mOp oIx (mFld cs.CupRow "forward_tuple" (mVar 0)) (mVar 3))) (mSeq (mExtend (plN 1) (mVar 4)) (mAug 3 oAddI (mC (.int 1))))))))) (mRet (mC .non)))
def m_apply_step (cs : Cs) : DS := (mSeq (mAppPop (plI (plN 2) (mC (.int 0))) 1 (mC (.int 0))) (mRetX (mCallV 4 (F_empty_full_cups cs) [0, 1, 2] (mCons (mC (.int 0)) mNil) [])))
def m_next_state (cs : Cs) : DS := (mSeq (mDrop (mCall 1 (F_require_cups cs) (mCons (mVar 0) mNil) [])) (mSeq (mAsgG (gT [(gN 2), (gN 3)]) (mCall 2 (F_require_state cs) (mCons (mVar 0) (mCons (mVar 1) mNil)) [])) (mSeq (mDropX (mCallV 3 (F_apply_step cs) [0, 2, 3] mNil [])) (mRetP [2, 3]))))
def m_law_script_value (cs : Cs) : DS := (mSeq (mIfS (mT (mOp oLt (mVar 1) (mB oLen (mCons (mVar 0) mNil)))) (mRet (mOp oIx (mVar 0) (mVar 1))) mNext) (mRet (mC (.int 0))))
def m_law_mix (cs : Cs) : DS := (mSeq (mAsgG (gN 2) (mFz (mOp oAdd (mOp oMod (mB oInt1 (mCons (mVar 0) mNil)) (mC (.int 2147483629))) (mOp oMul (mOp oDiv (mVar 0) (mC (.int 2147483629))) (mC (.int 30011)))))) (mSeq (mAsgG (gN 2) (mFz (mOp oMod (mB oInt1 (mCons (mOp oMul (mOp oAdd (mOp oAdd (mVar 2) (mOp oMul (mC (.int 69621)) (mVar 1))) (mC (.int 1))) (mC (.int 48271))) mNil)) (mC (.int 2147483629))))) (mSeq (mAsgG (gN 2) (mFz (mOp oMod (mB oInt1 (mCons (mOp oMul (mVar 2) (mOp oAdd (mOp oAdd (mOp oDiv (mVar 2) (mC (.int 907))) (mC (.int 16831))) (mVar 1))) mNil)) (mC (.int 2147483587))))) (mRet (mOp oMod (mB oInt1 (mCons (mOp oMul (mVar 2) (mOp oAdd (mOp oDiv (mVar 2) (mC (.int 1201))) (mC (.int 30011)))) mNil)) (mC (.int 2147483563)))))))
def m_law_draw_source (cs : Cs) : DS := (mSeq (mIfS (mT (mOp oLt (mVar 1) (mB oLen (mCons (mVar 0) mNil)))) (mRet (mSrc (mLst (mCons (mOp oIx (mVar 0) (mVar 1)) (mCons (mOp oIx (mVar 0) (mVar 1)) (mCons (mC (.int 0)) mNil)))))) mNext) (mSeq (mAsgG (gN 2) (mFz (mCall 2 (F_law_mix cs) (mCons (mCall 2 (F_law_script_value cs) (mCons (mVar 0) (mCons (mC (.int 0)) mNil)) []) (mCons (mOp oAdd (mC (.int 1000)) (mVar 1)) mNil)) []))) (mRet (mSrc (mLst (mCons (mVar 2) (mCons (mVar 2) (mCons (mC (.int 0)) mNil))))))))
def m_law_draw (cs : Cs) : DS := (mSeq (mIfS (mT (mOp oGe (mOp oIx (mVar 0) (mC (.int 0))) (mOp oPow (mC (.int 10)) (mC (.int 18))))) (mSeq (mAsgG (gN 2) (mFz (mOp oMod (mB oInt1 (mCons (mOp oIx (mVar 0) (mC (.int 0))) mNil)) (mVar 1)))) (mSeq (mSetVol (mVar 0) (mC (.int 0)) (mOp oDiv (mOp oIx (mVar 0) (mC (.int 0))) (mVar 1))) (mRet (mVar 2)))) mNext) (mSeq (mSetVol (mVar 0) (mC (.int 2)) (mOp oAdd (mOp oIx (mVar 0) (mC (.int 2))) (mC (.int 1)))) (mRet (mOp oMod (mB oInt1 (mCons (mCall 2 (F_law_mix cs) (mCons (mOp oIx (mVar 0) (mC (.int 1))) (mCons (mOp oIx (mVar 0) (mC (.int 2))) mNil)) []) mNil)) (mVar 1)))))
def m_law_name_for (cs : Cs) : DS := (mSeq (mAsgG (gN 1) (mFz (mC (.str "")))) (mSeq (mWhile (mT (mOp oGe (mVar 0) (mC (.int 0)))) (mSeq (mAsgG (gN 1) (mFz (mOp oAdd (mOp oIx (mC (.str "abcdefghijklmnopqrstuvwxyz")) (mOp oMod (mB oInt1 (mCons (mVar 0) mNil)) (mC (.int 26)))) (mVar 1)))) (mAsgG (gN 0) (mFz (mOp oSub (mOp oDiv (mVar 0) (mC (.int 26))) (mC (.int 1))))))) (mRet (mVar 1))))
def m_law_draw_names (cs : Cs) : DS := (mSeq (mAsgG (gN 2) (mFz (mOp oIx (mLst (mCons (mC (.int 0)) (mCons (mC (.int 20)) (mCons (mC (.int 700)) (mCons (mC (.int 18000)) mNil))))) (mCall 2 (F_law_draw cs) (mCons (mVar 0) (mCons (mC (.int 4)) mNil)) [])))) (mSeq (mAsgG (gN 3) (mFz (mOp oIx (mLst (mCons (mC (.int 1)) (mCons (mC (.int 3)) (mCons (mC (.int 7)) (mCons (mC (.int 11)) mNil))))) (mCall 2 (F_law_draw cs) (mCons (mVar 0) (mCons (mC (.int 4)) mNil)) [])))) (mSeq (mIfS (mT (mOp (oEq false) (mOp oMod (mB oInt1 (mCons (mVar 1) mNil)) (mVar 3)) (mC (.int 0)))) (mAsgG (gN 3) (mFz (mC (.int 1)))) mNext) (mRet (mLc (mItR1 (mVar 1)) (gN 4) mYes (mCall 1 (F_law_name_for cs) (mCons (mOp oAdd (mVar 2) (mOp oMod (mB oInt1 (mCons (mOp oMul (mVar 4) (mVar 3)) mNil)) (mVar 1))) mNil) []) [4])))))
def m_law_draw_cups (cs : Cs) : DS := (mSeq (mAsgG (gN 4) (mLst mNil)) (mSeq (mAsgG (gN 5) (mFz (mVar 3))) (mSeq (mFor (mItR1 (mOp oAdd (mC (.int 1)) (mCall 2 (F_law_draw cs) (mCons (mVar 0) (mCons (mVar 1) mNil)) []))) (gN 6) (mSeq (mAsgG (gN 7) (mFz (mOp oAdd (mC (.int 1)) (mB oMin2 (mCons (mVar 5) (mCons (mCall 2 (F_law_draw cs) (mCons (mVar 0) (mCons (mOp oIx (mLst (mCons (mC (.int 2)) (mCons (mC (.int 3)) (mCons (mVar 2) mNil)))) (mCall 2 (F_law_draw cs) (mCons (mVar 0) (mCons (mC (.int 3)) mNil)) [])) mNil)) []) mNil)))))) (mSeq (mAppend (plN 4) (mVar 7)) (mAsgG (gN 5) (mFz (mOp oSub (mVar 5) (mOp oSub (mVar 7) (mC (.int 1))))))))) (mSeq (mAsgG (gN 8) (mFz (mCall 2 (F_law_draw cs) (mCons (mVar 0) (mCons (mC (.int 3)) mNil)) []))) (mFzS 4 (mRet (mTup (mCons (mVar 4) (mCons (mLc (mItL (mSl (mVar 4) mNoP (mPart (mUn oNeg (mC (.int 1)))))) (gN 7) mYes (mOp oIx (mLst (mCons (mC (.int 0)) (mCons (mOp oSub (mVar 7) (mC (.int 1))) (mCons (mCall 2 (F_law_draw cs) (mCons (mVar 0) (mCons (mVar 7) mNil)) []) mNil)))) (mVar 8)) [7]) mNil)))))))))
def m_law_min_members (cs : Cs) : DS := (mRet (mOp oAdd (mC (.int 1)) (mB oSum (mCons (mLc (mItL (mVar 0)) (gN 1) mYes (mOp oSub (mVar 1) (mC (.int 1))) [1]) mNil))))
def m_law_draw_state (cs : Cs) : DS := (mSeq (mAsgG (gN 3) (mFz (mCall 1 (F_law_min_members cs) (mCons (mVar 1) mNil) []))) (mSeq (mAsgG (gN 4) (mFz (mCall 2 (F_law_draw_names cs) (mCons (mVar 0) (mCons (mOp oAdd (mVar 3) (mCall 2 (F_law_draw cs) (mCons (mVar 0) (mCons (mOp oAdd (mB oMin2 (mCons (mVar 2) (mCons (mOp oSub (mC (.int 40)) (mVar 3)) mNil))) (mC (.int 1))) mNil)) [])) mNil)) []))) (mSeq (mAsgG (gN 5) (mFz (mCall 2 (F_law_draw cs) (mCons (mVar 0) (mCons (mB oLen (mCons (mVar 4) mNil)) mNil)) []))) (mSeq (mAsgG (gN 6) (mFz (mOp oAdd (mSl (mVar 4) (mPart (mVar 5)) mNoP) (mSl (mVar 4) mNoP (mPart (mVar 5)))))) (mSeq (mAsgG (gN 7) (mLst mNil)) (mSeq (mAsgG (gN 8) (mFz (mOp (oEq false) (mCall 2 (F_law_draw cs) (mCons (mVar 0) (mCons (mC (.int 3)) mNil)) []) (mC (.int 0))))) (mSeq (mFor (mItL (mVar 1)) (gN 9) (mSeq (mAsgG (gN 10) (mFz (mOp oIx (mLst (mCons (mCall 2 (F_law_draw cs) (mCons (mVar 0) (mCons (mVar 9) mNil)) []) (mCons (mC (.int 0)) mNil))) (mB oInt1 (mCons (mVar 8) mNil))))) (mSeq (mAppend (plN 7) (mSl (mVar 6) mNoP (mPart (mVar 10)))) (mAsgG (gN 6) (mFz (mSl (mVar 6) (mPart (mVar 10)) mNoP)))))) (mFzS 7 (mRet (mTup (mCons (mVar 6) (mCons (mVar 7) mNil))))))))))))
def m_law_empty_cups (cs : Cs) : DS := (mSeq (mPar2 2 3 (mFz (mB oList (mCons (mVar 2) mNil))) (mLc (mItL (mVar 3)) (gN 5) mYes (mB oList (mCons (mVar 5) mNil)) [5])) (mSeq (mWhile (mAnd (mT (mOp oLt (mVar 4) (mB oLen (mCons (mVar 0) mNil)))) (mT (mOp (oEq false) (mB oLen (mCons (mOp oIx (mVar 3) (mVar 4)) mNil)) (mOp oIx (mVar 0) (mVar 4))))) (mSeq (mTake 5 (plI (plN 3) (mVar 4))) (mSeq (mSetI (plN 3) (mVar 4) (mLst mNil)) (mSeq (mIfS (mT (mOp oLt (mOp oAdd (mVar 4) (mC (.int 1))) (mB oLen (mCons (mVar 0) mNil)))) (mAppPop (plI (plN 3) (mOp oAdd (mVar 4) (mC (.int 1)))) 5 (mOp oIx (mVar 1) (mVar 4))) mNext) (mSeq (mAsgG (gN 2) (mFz (mOp oAdd (mVar 2) (mVar 5)))) (mAsgG (gN 4) (mFz (mOp oAdd (mVar 4) (mC (.int 1)))))))))) (mFzS 3 (mRet (mTup (mCons (mVar 2) (mCons (mVar 3) mNil)))))))
def m_law_step (cs : Cs) : DS := (mSeq (mAsgG (gT [(gN 3), (gN 4)]) (mFz (mVar 2))) (mRet (mCall 5 (F_law_empty_cups cs) (mCons (mVar 0) (mCons (mVar 1) (mCons (mSl (mVar 3) (mPart (mC (.int 1))) mNoP) (mCons (mOp oAdd (mLst (mCons (mOp oAdd (mOp oIx (mVar 4) (mC (.int 0))) (mSl (mVar 3) mNoP (mPart (mC (.int 1))))) mNil)) (mSl (mVar 4) (mPart (mC (.int 1))) mNoP)) (mCons (mC (.int 0)) mNil))))) [])))
def m_law_lists_are_separate (cs : Cs) : DS := (mSeq (mRev (plT (plN 0) (mC (.int 0)))) (mSeq (mAppend (plT (plN 0) (mC (.int 0))) (mC (.str "zz"))) (mSeq (mIfS (mT (mOp (oEq true) (mOp oIx (mVar 0) (mC (.int 1))) (mOp oIx (mVar 1) (mC (.int 1))))) (mRet (mC (.bl false))) mNext) (mSeq (mFor (mItR1 (mB oLen (mCons (mOp oIx (mVar 0) (mC (.int 1))) mNil))) (gN 2) (mSeq (mAppend (plI (plT (plN 0) (mC (.int 1))) (mVar 2)) (mC (.str "zz"))) (mIfS (mT (mOp (oEq true) (mSlB (mOp oIx (mVar 0) (mC (.int 1))) (mPart (mOp oAdd (mVar 2) (mC (.int 1)))) mNoP) (mSl (mOp oIx (mVar 1) (mC (.int 1))) (mPart (mOp oAdd (mVar 2) (mC (.int 1)))) mNoP))) (mRet (mC (.bl false))) mNext))) (mSeq (mAppend (plT (plN 0) (mC (.int 1))) (mLst mNil)) (mRet (mC (.bl true))))))))
def m_law_check (cs : Cs) : DS := (mSeq (mFor (mItR1 (mVar 4)) (gN 5) (mSeq (mAsgG (gN 6) (mFz (mCall 3 (F_law_step cs) (mCons (mVar 1) (mCons (mVar 2) (mCons (mVar 3) mNil))) []))) (mSeq (mAsgG (gN 7) (mTup (mCons (mB oList (mCons (mOp oIx (mVar 3) (mC (.int 0))) mNil)) (mCons (mLc (mItL (mOp oIx (mVar 3) (mC (.int 1)))) (gN 10) mYes (mB oList (mCons (mVar 10) mNil)) [10]) mNil)))) (mSeq (mFor (mItR1 (mC (.int 2))) (gN 8) (mSeq (mAsgG (gN 9) (mCall 2 (F_next_state cs) (mCons (mVar 0) (mCons (mVar 7) mNil)) [])) (mSeq (mIfS (mOr (mT (mOp (oEq true) (mVar 9) (mVar 6))) (mOr (mNot (mT (mUn (oIs "tuple") (mVar 9)))) (mT (mOp (oEq true) (mVar 7) (mVar 3))))) (mRet (mC (.bl false))) mNext) (mIfX true (mCallV 2 (F_law_lists_are_separate cs) [9, 6] mNil []) (mRet (mC (.bl false))) mNext)))) (mSeq (mClear (plT (plN 7) (mC (.int 0)))) (mAsgG (gN 3) (mFz (mVar 6)))))))) (mRet (mC (.bl true))))
def m_law_check_shared_list (cs : Cs) : DS := (mSeq (mAsgG (gN 4) (mFz (mOp oAdd (mOp oIx (mVar 3) (mC (.int 0))) (mB oSumL (mCons (mOp oIx (mVar 3) (mC (.int 1))) (mCons (mLst mNil) mNil)))))) (mSeq (mAsgG (gN 5) (mFz (mOp oMul (mLst (mCons (mLst mNil) mNil)) (mB oLen (mCons (mVar 1) mNil))))) (mSeq (mAsgG (gN 6) (mFz (mCall 3 (F_law_step cs) (mCons (mVar 1) (mCons (mVar 2) (mCons (mTup (mCons (mVar 4) (mCons (mLc (mItL (mVar 1)) (gN 7) mYes (mLst mNil) [7]) mNil))) mNil))) []))) (mRet (mAndV (mOp (oEq false) (mCall 2 (F_next_state cs) (mCons (mVar 0) (mCons (mTup (mCons (mVar 4) (mCons (mVar 5) mNil))) mNil)) []) (mVar 6)) (mOp (oEq false) (mVar 5) (mOp oMul (mLst (mCons (mLst mNil) mNil)) (mB oLen (mCons (mVar 1) mNil)))))))))
def m_law (cs : Cs) : DS := (mSeq (mFor (mItR1 (mB oMax2 (mCons (mC (.int 1)) (mCons (mB oMin2 (mCons (mC (.int 5)) (mCons (mB oLen (mCons (mVar 0) mNil)) mNil))) mNil)))) (gN 1) (mSeq (mAsgG (gN 2) (mFz (mCall 2 (F_law_draw_source cs) (mCons (mVar 0) (mCons (mVar 1) mNil)) []))) (mSeq (mAsgG (gT [(gN 3), (gN 4)]) (mFz (mCall 4 (F_law_draw_cups cs) (mCons (mVar 2) (mCons (mOp oIx (mLst (mCons (mC (.int 6)) (mCons (mC (.int 6)) (mCons (mC (.int 30)) mNil)))) (mCall 2 (F_law_draw cs) (mCons (mVar 2) (mCons (mC (.int 3)) mNil)) [])) (mCons (mC (.int 9)) (mCons (mC (.int 30)) mNil)))) []))) (mSeq (mAsgG (gN 5) (mFz (mCall 3 (F_law_draw_state cs) (mCons (mVar 2) (mCons (mVar 3) (mCons (mOp oIx (mLst (mCons (mC (.int 3)) (mCons (mC (.int 40)) mNil))) (mCall 2 (F_law_draw cs) (mCons (mVar 2) (mCons (mC (.int 2)) mNil)) [])) mNil))) []))) (mSeq (mAsgG (gN 6) (mFz (mMakeK 3 cs.CupRow (F_CupRow_init cs) 1 1 (mCons (mVar 3) mNil) (mCons (mVar 4) mNil)))) (mSeq (mIfS (mNot (mT (mCall 5 (F_law_check cs) (mCons (mVar 6) (mCons (mVar 3) (mCons (mVar 4) (mCons (mVar 5) (mCons (mOp oAdd (mC (.int 1)) (mCall 2 (F_law_draw cs) (mCons (mVar 2) (mCons (mC (.int 60)) mNil)) [])) mNil))))) []))) (mRet (mC (.bl false))) mNext) (mIfS (mNot (mT (mCall 4 (F_law_check_shared_list cs) (mCons (mVar 6) (mCons (mVar 3) (mCons (mVar 4) (mCons (mVar 5) mNil)))) []))) (mRet (mC (.bl false))) mNext))))))) (mRet (mC (.bl true))))
theorem wp_is_integer (cs : Cs) (ss : R.Env) (Q : Rs → R.Env → Prop) (h : (F_is_integer cs).io ss Q) : m_is_integer cs (ss ++ List.replicate 0 none) { nx := fun e => Q (.fz .non) (outs [] 2 e), rt := fun r e => Q r (outs [] 2 e) } := by
  obtain ⟨i, m, rfl, h⟩ := h
  simp only [m_is_integer, mSeq, mVar, mC, mOp, mUn, i2, oSub, oMod, oDiv, oPow, oLt, oLe, oGt, oGe, oNeg, mT, mAnd, mOr, mNot, mAndV, mOrV, mNotV, mIf, mCh, bLt, bLe, bGt, bGe, mNil, mCons, mFz, mNoP, mPart, mB, oInt1, oMin2, oMin3, oMax2, mNext, mAsgG, gN, mIfS, mRet, mRetN, mDrop, mBreak, mCont, mFzS, mYes, mSetVol, mSrc, mCall, Spec1.io, args, Rs.lend, Rs.arg, Rs.rd, Rs.ffz, Rs.own, Rs.slot, Rs.item, items, Rs.t, Rs.stays, mD0, oIs, OT.ty, mFld, Env.wipe, Env.lent, Option.map_none, nI, nL, nT, mLst, mTup, List.getElem?_cons_zero, List.getElem?_cons_succ, List.set_cons_zero, List.set_cons_succ, Option.some.injEq, exists_eq_left', exists_eq_left, true_and, and_true, List.map_cons, List.map_nil, List.cons_append, List.nil_append, List.append_nil, Option.bind_some, Option.map_some, List.length_cons, List.length_nil, ite_true, ite_false, Bool.false_eq_true, if_true, if_false, eq_self_iff_true, reduceCtorEq, false_and, and_false, w_add, w_mul, w_ix_vol, w_ix_lst, w_ix_tup, w_ix_rol, w_ix_br, w_ix_brT, w_len_lst, w_len_tup, w_len_rol, w_len_br, w_len_nw, outs_nil, ffz_lst, ffz_tup, List.replicate_succ, List.replicate_zero, List.length_map, decide_eq_true_eq, Bool.not_eq_true', decide_eq_false_iff_not, Bool.not_true, Bool.not_false, Bool.true_eq_false, w_eq_int, w_setP, pk0, pkc1, pkc2, Bool.bne_false, Bool.bne_true] at h ⊢
  exact h

theorem wp_are_sizes (cs : Cs) (ss : R.Env) (Q : Rs → R.Env → Prop) (h : (F_are_sizes cs).io ss Q) : m_are_sizes cs (ss ++ List.replicate 1 none) { nx := fun e => Q (.fz .non) (outs [] 1 e), rt := fun r e => Q r (outs [] 1 e) } := by
  obtain ⟨sz, rfl, h0, h1, h2, h3, h⟩ := h
  simp only [m_are_sizes, mSeq, mVar, mC, mOp, mUn, i2, oSub, oMod, oDiv, oPow, oLt, oLe, oGt, oGe, oNeg, mT, mAnd, mOr, mNot, mAndV, mOrV, mNotV, mIf, mCh, bLt, bLe, bGt, bGe, mNil, mCons, mFz, mNoP, mPart, mB, oInt1, oMin2, oMin3, oMax2, mNext, mAsgG, gN, mIfS, mRet, mRetN, mDrop, mBreak, mCont, mFzS, mYes, mSetVol, mSrc, mCall, Spec1.io, args, Rs.lend, Rs.arg, Rs.rd, Rs.ffz, Rs.own, Rs.slot, Rs.item, items, Rs.t, Rs.stays, mD0, oIs, OT.ty, mFld, Env.wipe, Env.lent, Option.map_none, nI, nL, nT, mLst, mTup, List.getElem?_cons_zero, List.getElem?_cons_succ, List.set_cons_zero, List.set_cons_succ, Option.some.injEq, exists_eq_left', exists_eq_left, true_and, and_true, List.map_cons, List.map_nil, List.cons_append, List.nil_append, List.append_nil, Option.bind_some, Option.map_some, List.length_cons, List.length_nil, ite_true, ite_false, Bool.false_eq_true, if_true, if_false, eq_self_iff_true, reduceCtorEq, false_and, and_false, w_add, w_mul, w_ix_vol, w_ix_lst, w_ix_tup, w_ix_rol, w_ix_br, w_ix_brT, w_len_lst, w_len_tup, w_len_rol, w_len_br, w_len_nw, outs_nil, ffz_lst, ffz_tup, List.replicate_succ, List.replicate_zero, List.length_map, decide_eq_true_eq, Bool.not_eq_true', decide_eq_false_iff_not, Bool.not_true, Bool.not_false, Bool.true_eq_false, w_eq_int, w_setP, pk0, pkc1, pkc2, Bool.bne_false, Bool.bne_true] at h ⊢
  rw [if_neg (by decide)]
  refine ⟨_, _, rfl, rfl, ?_⟩
  rw [if_pos (by omega)]
  refine ⟨_, rfl, ?_⟩
  rw [if_neg (by omega)]
  refine lc_any ((sz.map nI).map Rs.fz) true (fun _ => .leaf (.bl true)) (fun Q' q => it_var_lst rfl q) (by rw [List.length_map, List.length_map]; unfold sizeL; omega) (fun n r hr => ?_) ?_
  · obtain ⟨hn, rfl⟩ := get_nI hr
    obtain ⟨q1, q2⟩ := h2 _ (pk_mem hn)
    simp only [F_is_integer, mVar, mC, mOp, mUn, i2, oSub, oMod, oDiv, oPow, oLt, oLe, oGt, oGe, oNeg, mT, mAnd, mOr, mNot, mAndV, mOrV, mNotV, mIf, mCh, bLt, bLe, bGt, bGe, mNil, mCons, mFz, mNoP, mPart, mB, oInt1, oMin2, oMin3, oMax2, mNext, mAsgG, gN, mIfS, mRet, mRetN, mDrop, mBreak, mCont, mFzS, mYes, mSetVol, mSrc, mCall, Spec1.io, args, Rs.lend, Rs.arg, Rs.rd, Rs.ffz, Rs.own, Rs.slot, Rs.item, items, Rs.t, Rs.stays, mD0, oIs, OT.ty, mFld, Env.wipe, Env.lent, Option.map_none, nI, nL, nT, mLst, mTup, List.getElem?_cons_zero, List.getElem?_cons_succ, List.set_cons_zero, List.set_cons_succ, Option.some.injEq, exists_eq_left', exists_eq_left, true_and, and_true, List.map_cons, List.map_nil, List.cons_append, List.nil_append, List.append_nil, Option.bind_some, Option.map_some, List.length_cons, List.length_nil, ite_true, ite_false, Bool.false_eq_true, if_true, if_false, eq_self_iff_true, reduceCtorEq, false_and, and_false, w_add, w_mul, w_ix_vol, w_ix_lst, w_ix_tup, w_ix_rol, w_ix_br, w_ix_brT, w_len_lst, w_len_tup, w_len_rol, w_len_br, w_len_nw, outs_nil, ffz_lst, ffz_tup, List.replicate_succ, List.replicate_zero, List.length_map, decide_eq_true_eq, Bool.not_eq_true', decide_eq_false_iff_not, Bool.not_true, Bool.not_false, Bool.true_eq_false, w_eq_int, w_setP, pk0, pkc1, pkc2, Bool.bne_false, Bool.bne_true]
    refine ⟨pk sz n, 1, rfl, ?_⟩
    rw [if_pos (by omega), decide_eq_true (show ((pk sz n : Nat) : Int) ≤ 9 by omega)]
    exact item_snoc
  · have e : (List.range ((sz.map nI).map Rs.fz).length).map (fun _ => OT.leaf (.bl true)) = ((List.replicate sz.length true).map R.D.bl).map OT.leaf := by
      rw [List.length_map, List.length_map, List.map_const', List.length_range, List.map_replicate, List.map_replicate]
    rw [e]
    have f := ffz_lst ((List.replicate sz.length true).map R.D.bl)
    unfold Rs.ffz at f
    rw [f]
    refine ⟨_, _, rfl, bls_of _, ?_⟩
    rw [all_true]
    simp only [mVar, mC, mOp, mUn, i2, oSub, oMod, oDiv, oPow, oLt, oLe, oGt, oGe, oNeg, mT, mAnd, mOr, mNot, mAndV, mOrV, mNotV, mIf, mCh, bLt, bLe, bGt, bGe, mNil, mCons, mFz, mNoP, mPart, mB, oInt1, oMin2, oMin3, oMax2, mNext, mAsgG, gN, mIfS, mRet, mRetN, mDrop, mBreak, mCont, mFzS, mYes, mSetVol, mSrc, mCall, Spec1.io, args, Rs.lend, Rs.arg, Rs.rd, Rs.ffz, Rs.own, Rs.slot, Rs.item, items, Rs.t, Rs.stays, mD0, oIs, OT.ty, mFld, Env.wipe, Env.lent, Option.map_none, nI, nL, nT, mLst, mTup, List.getElem?_cons_zero, List.getElem?_cons_succ, List.set_cons_zero, List.set_cons_succ, Option.some.injEq, exists_eq_left', exists_eq_left, true_and, and_true, List.map_cons, List.map_nil, List.cons_append, List.nil_append, List.append_nil, Option.bind_some, Option.map_some, List.length_cons, List.length_nil, ite_true, ite_false, Bool.false_eq_true, if_true, if_false, eq_self_iff_true, reduceCtorEq, false_and, and_false, w_add, w_mul, w_ix_vol, w_ix_lst, w_ix_tup, w_ix_rol, w_ix_br, w_ix_brT, w_len_lst, w_len_tup, w_len_rol, w_len_br, w_len_nw, outs_nil, ffz_lst, ffz_tup, List.replicate_succ, List.replicate_zero, List.length_map, decide_eq_true_eq, Bool.not_eq_true', decide_eq_false_iff_not, Bool.not_true, Bool.not_false, Bool.true_eq_false, w_eq_int, w_setP, pk0, pkc1, pkc2, Bool.bne_false, Bool.bne_true]
    refine ⟨_, _, rfl, ints_nI sz, ?_⟩
    rw [sum_cast]
    refine ⟨trivial, ?_⟩
    rw [decide_eq_true (by omega)]
    exact h

theorem wp_are_forward_indices (cs : Cs) (ss : R.Env) (Q : Rs → R.Env → Prop) (h : (F_are_forward_indices cs).io ss Q) : m_are_forward_indices cs (ss ++ List.replicate 2 none) { nx := fun e => Q (.fz .non) (outs [] 2 e), rt := fun r e => Q r (outs [] 2 e) } := by
  obtain ⟨sz, fw, hR, rfl, h⟩ := h
  simp only [m_are_forward_indices, mSeq, mVar, mC, mOp, mUn, i2, oSub, oMod, oDiv, oPow, oLt, oLe, oGt, oGe, oNeg, mT, mAnd, mOr, mNot, mAndV, mOrV, mNotV, mIf, mCh, bLt, bLe, bGt, bGe, mNil, mCons, mFz, mNoP, mPart, mB, oInt1, oMin2, oMin3, oMax2, mNext, mAsgG, gN, mIfS, mRet, mRetN, mDrop, mBreak, mCont, mFzS, mYes, mSetVol, mSrc, mCall, Spec1.io, args, Rs.lend, Rs.arg, Rs.rd, Rs.ffz, Rs.own, Rs.slot, Rs.item, items, Rs.t, Rs.stays, mD0, oIs, OT.ty, mFld, Env.wipe, Env.lent, Option.map_none, nI, nL, nT, mLst, mTup, List.getElem?_cons_zero, List.getElem?_cons_succ, List.set_cons_zero, List.set_cons_succ, Option.some.injEq, exists_eq_left', exists_eq_left, true_and, and_true, List.map_cons, List.map_nil, List.cons_append, List.nil_append, List.append_nil, Option.bind_some, Option.map_some, List.length_cons, List.length_nil, ite_true, ite_false, Bool.false_eq_true, if_true, if_false, eq_self_iff_true, reduceCtorEq, false_and, and_false, w_add, w_mul, w_ix_vol, w_ix_lst, w_ix_tup, w_ix_rol, w_ix_br, w_ix_brT, w_len_lst, w_len_tup, w_len_rol, w_len_br, w_len_nw, outs_nil, ffz_lst, ffz_tup, List.replicate_succ, List.replicate_zero, List.length_map, decide_eq_true_eq, Bool.not_eq_true', decide_eq_false_iff_not, Bool.not_true, Bool.not_false, Bool.true_eq_false, w_eq_int, w_setP, pk0, pkc1, pkc2, Bool.bne_false, Bool.bne_true] at h ⊢
  have hl := hR.fl
  have h30 := hR.l1
  rw [if_neg (by decide), if_neg (by omega)]
  refine lc_any (zipR (fw.map nI) (sz.map nI)) true (fun _ => .leaf (.bl true)) (fun Q' q => ⟨_, rfl, _, rfl, _, _, rfl, rfl, q⟩) (by unfold zipR; rw [List.length_map, List.length_range, List.length_map]; unfold sizeL; omega) (fun n r hr => ?_) ?_
  · have hn : n < min (fw.map nI).length (sz.map nI).length := by
      have := (List.getElem?_eq_some_iff.mp hr).1
      unfold zipR at this
      rw [List.length_map, List.length_range] at this
      exact this
    rw [List.length_map, List.length_map] at hn
    rw [range_map_get hr, getD_nI (by omega), getD_nI (by omega)]
    have hi := hR.fi n (by omega)
    refine gT2_arg ⟨rfl, ?_⟩
    simp only [mVar, mC, mOp, mUn, i2, oSub, oMod, oDiv, oPow, oLt, oLe, oGt, oGe, oNeg, mT, mAnd, mOr, mNot, mAndV, mOrV, mNotV, mIf, mCh, bLt, bLe, bGt, bGe, mNil, mCons, mFz, mNoP, mPart, mB, oInt1, oMin2, oMin3, oMax2, mNext, mAsgG, gN, mIfS, mRet, mRetN, mDrop, mBreak, mCont, mFzS, mYes, mSetVol, mSrc, mCall, Spec1.io, args, Rs.lend, Rs.arg, Rs.rd, Rs.ffz, Rs.own, Rs.slot, Rs.item, items, Rs.t, Rs.stays, mD0, oIs, OT.ty, mFld, Env.wipe, Env.lent, Option.map_none, nI, nL, nT, mLst, mTup, List.getElem?_cons_zero, List.getElem?_cons_succ, List.set_cons_zero, List.set_cons_succ, Option.some.injEq, exists_eq_left', exists_eq_left, true_and, and_true, List.map_cons, List.map_nil, List.cons_append, List.nil_append, List.append_nil, Option.bind_some, Option.map_some, List.length_cons, List.length_nil, ite_true, ite_false, Bool.false_eq_true, if_true, if_false, eq_self_iff_true, reduceCtorEq, false_and, and_false, w_add, w_mul, w_ix_vol, w_ix_lst, w_ix_tup, w_ix_rol, w_ix_br, w_ix_brT, w_len_lst, w_len_tup, w_len_rol, w_len_br, w_len_nw, outs_nil, ffz_lst, ffz_tup, List.replicate_succ, List.replicate_zero, List.length_map, decide_eq_true_eq, Bool.not_eq_true', decide_eq_false_iff_not, Bool.not_true, Bool.not_false, Bool.true_eq_false, w_eq_int, w_setP, pk0, pkc1, pkc2, Bool.bne_false, Bool.bne_true]
    refine ⟨pk fw n, 0, rfl, trivial, ?_⟩
    rw [decide_eq_true (show (0 : Int) ≤ ((pk fw n : Nat) : Int) by omega)]
    simp only [mVar, mC, mOp, mUn, i2, oSub, oMod, oDiv, oPow, oLt, oLe, oGt, oGe, oNeg, mT, mAnd, mOr, mNot, mAndV, mOrV, mNotV, mIf, mCh, bLt, bLe, bGt, bGe, mNil, mCons, mFz, mNoP, mPart, mB, oInt1, oMin2, oMin3, oMax2, mNext, mAsgG, gN, mIfS, mRet, mRetN, mDrop, mBreak, mCont, mFzS, mYes, mSetVol, mSrc, mCall, Spec1.io, args, Rs.lend, Rs.arg, Rs.rd, Rs.ffz, Rs.own, Rs.slot, Rs.item, items, Rs.t, Rs.stays, mD0, oIs, OT.ty, mFld, Env.wipe, Env.lent, Option.map_none, nI, nL, nT, mLst, mTup, List.getElem?_cons_zero, List.getElem?_cons_succ, List.set_cons_zero, List.set_cons_succ, Option.some.injEq, exists_eq_left', exists_eq_left, true_and, and_true, List.map_cons, List.map_nil, List.cons_append, List.nil_append, List.append_nil, Option.bind_some, Option.map_some, List.length_cons, List.length_nil, ite_true, ite_false, Bool.false_eq_true, if_true, if_false, eq_self_iff_true, reduceCtorEq, false_and, and_false, w_add, w_mul, w_ix_vol, w_ix_lst, w_ix_tup, w_ix_rol, w_ix_br, w_ix_brT, w_len_lst, w_len_tup, w_len_rol, w_len_br, w_len_nw, outs_nil, ffz_lst, ffz_tup, List.replicate_succ, List.replicate_zero, List.length_map, decide_eq_true_eq, Bool.not_eq_true', decide_eq_false_iff_not, Bool.not_true, Bool.not_false, Bool.true_eq_false, w_eq_int, w_setP, pk0, pkc1, pkc2, Bool.bne_false, Bool.bne_true]
    rw [decide_eq_true (show ((pk fw n : Nat) : Int) < ((pk sz n : Nat) : Int) by omega)]
    exact item_snoc
  · have hz : (zipR (fw.map nI) (sz.map nI)).length = fw.length := by unfold zipR; rw [List.length_map, List.length_range, List.length_map, List.length_map]; omega
    have e : (List.range (zipR (fw.map nI) (sz.map nI)).length).map (fun _ => OT.leaf (.bl true)) = ((List.replicate fw.length true).map R.D.bl).map OT.leaf := by
      rw [hz, List.map_const', List.length_range, List.map_replicate, List.map_replicate]
    rw [e]
    have f := ffz_lst ((List.replicate fw.length true).map R.D.bl)
    unfold Rs.ffz at f
    rw [f]
    refine ⟨_, _, rfl, bls_of _, ?_⟩
    rw [all_true]
    exact ⟨trivial, h⟩

theorem wp_CupRow_init (cs : Cs) (ss : R.Env) (Q : Rs → R.Env → Prop) (h : F_CupRow_init cs ss Q) : m_CupRow_init cs (ss ++ List.replicate 2 none) { nx := fun e => Q (.fz .non) (outs [0] 3 e), rt := fun r e => Q r (outs [0] 3 e) } := by
  obtain ⟨sz, fw, x, hR, rfl, hx, h⟩ := h
  have hl := hR.fl
  have h30 := hR.l1
  unfold m_CupRow_init
  refine s_seq fun K hK => ?_
  simp only [mVar, mC, mOp, mUn, i2, oSub, oMod, oDiv, oPow, oLt, oLe, oGt, oGe, oNeg, mT, mAnd, mOr, mNot, mAndV, mOrV, mNotV, mIf, mCh, bLt, bLe, bGt, bGe, mNil, mCons, mFz, mNoP, mPart, mB, oInt1, oMin2, oMin3, oMax2, mNext, mAsgG, gN, mIfS, mRet, mRetN, mDrop, mBreak, mCont, mFzS, mYes, mSetVol, mSrc, mCall, Spec1.io, args, Rs.lend, Rs.arg, Rs.rd, Rs.ffz, Rs.own, Rs.slot, Rs.item, items, Rs.t, Rs.stays, mD0, oIs, OT.ty, mFld, Env.wipe, Env.lent, Option.map_none, nI, nL, nT, mLst, mTup, List.getElem?_cons_zero, List.getElem?_cons_succ, List.set_cons_zero, List.set_cons_succ, Option.some.injEq, exists_eq_left', exists_eq_left, true_and, and_true, List.map_cons, List.map_nil, List.cons_append, List.nil_append, List.append_nil, Option.bind_some, Option.map_some, List.length_cons, List.length_nil, ite_true, ite_false, Bool.false_eq_true, if_true, if_false, eq_self_iff_true, reduceCtorEq, false_and, and_false, w_add, w_mul, w_ix_vol, w_ix_lst, w_ix_tup, w_ix_rol, w_ix_br, w_ix_brT, w_len_lst, w_len_tup, w_len_rol, w_len_br, w_len_nw, outs_nil, ffz_lst, ffz_tup, List.replicate_succ, List.replicate_zero, List.length_map, decide_eq_true_eq, Bool.not_eq_true', decide_eq_false_iff_not, Bool.not_true, Bool.not_false, Bool.true_eq_false, w_eq_int, w_setP, pk0, pkc1, pkc2, Bool.bne_false, Bool.bne_true]
  refine ⟨sz, rfl, hR.l0, hR.l1, hR.s1, hR.sm, trivial, ?_⟩
  simp only [mVar, mC, mOp, mUn, i2, oSub, oMod, oDiv, oPow, oLt, oLe, oGt, oGe, oNeg, mT, mAnd, mOr, mNot, mAndV, mOrV, mNotV, mIf, mCh, bLt, bLe, bGt, bGe, mNil, mCons, mFz, mNoP, mPart, mB, oInt1, oMin2, oMin3, oMax2, mNext, mAsgG, gN, mIfS, mRet, mRetN, mDrop, mBreak, mCont, mFzS, mYes, mSetVol, mSrc, mCall, Spec1.io, args, Rs.lend, Rs.arg, Rs.rd, Rs.ffz, Rs.own, Rs.slot, Rs.item, items, Rs.t, Rs.stays, mD0, oIs, OT.ty, mFld, Env.wipe, Env.lent, Option.map_none, nI, nL, nT, mLst, mTup, List.getElem?_cons_zero, List.getElem?_cons_succ, List.set_cons_zero, List.set_cons_succ, Option.some.injEq, exists_eq_left', exists_eq_left, true_and, and_true, List.map_cons, List.map_nil, List.cons_append, List.nil_append, List.append_nil, Option.bind_some, Option.map_some, List.length_cons, List.length_nil, ite_true, ite_false, Bool.false_eq_true, if_true, if_false, eq_self_iff_true, reduceCtorEq, false_and, and_false, w_add, w_mul, w_ix_vol, w_ix_lst, w_ix_tup, w_ix_rol, w_ix_br, w_ix_brT, w_len_lst, w_len_tup, w_len_rol, w_len_br, w_len_nw, outs_nil, ffz_lst, ffz_tup, List.replicate_succ, List.replicate_zero, List.length_map, decide_eq_true_eq, Bool.not_eq_true', decide_eq_false_iff_not, Bool.not_true, Bool.not_false, Bool.true_eq_false, w_eq_int, w_setP, pk0, pkc1, pkc2, Bool.bne_false, Bool.bne_true]
  refine hK _ ?_
  refine s_seq fun K hK => ?_
  have hK2 : K [some (.nw (.ins cs.CupRow [] [])), fz (nL sz), fz x, fz (nL fw), none] := hK _ ?_
  · rcases hx with rfl | ⟨rfl, e⟩
    · simp only [mVar, mC, mOp, mUn, i2, oSub, oMod, oDiv, oPow, oLt, oLe, oGt, oGe, oNeg, mT, mAnd, mOr, mNot, mAndV, mOrV, mNotV, mIf, mCh, bLt, bLe, bGt, bGe, mNil, mCons, mFz, mNoP, mPart, mB, oInt1, oMin2, oMin3, oMax2, mNext, mAsgG, gN, mIfS, mRet, mRetN, mDrop, mBreak, mCont, mFzS, mYes, mSetVol, mSrc, mCall, Spec1.io, args, Rs.lend, Rs.arg, Rs.rd, Rs.ffz, Rs.own, Rs.slot, Rs.item, items, Rs.t, Rs.stays, mD0, oIs, OT.ty, mFld, Env.wipe, Env.lent, Option.map_none, nI, nL, nT, mLst, mTup, List.getElem?_cons_zero, List.getElem?_cons_succ, List.set_cons_zero, List.set_cons_succ, Option.some.injEq, exists_eq_left', exists_eq_left, true_and, and_true, List.map_cons, List.map_nil, List.cons_append, List.nil_append, List.append_nil, Option.bind_some, Option.map_some, List.length_cons, List.length_nil, ite_true, ite_false, Bool.false_eq_true, if_true, if_false, eq_self_iff_true, reduceCtorEq, false_and, and_false, w_add, w_mul, w_ix_vol, w_ix_lst, w_ix_tup, w_ix_rol, w_ix_br, w_ix_brT, w_len_lst, w_len_tup, w_len_rol, w_len_br, w_len_nw, outs_nil, ffz_lst, ffz_tup, List.replicate_succ, List.replicate_zero, List.length_map, decide_eq_true_eq, Bool.not_eq_true', decide_eq_false_iff_not, Bool.not_true, Bool.not_false, Bool.true_eq_false, w_eq_int, w_setP, pk0, pkc1, pkc2, Bool.bne_false, Bool.bne_true, oIsN, Rs.isNon] at hK2 ⊢
      exact hK2
    · simp only [mVar, mC, mOp, mUn, i2, oSub, oMod, oDiv, oPow, oLt, oLe, oGt, oGe, oNeg, mT, mAnd, mOr, mNot, mAndV, mOrV, mNotV, mIf, mCh, bLt, bLe, bGt, bGe, mNil, mCons, mFz, mNoP, mPart, mB, oInt1, oMin2, oMin3, oMax2, mNext, mAsgG, gN, mIfS, mRet, mRetN, mDrop, mBreak, mCont, mFzS, mYes, mSetVol, mSrc, mCall, Spec1.io, args, Rs.lend, Rs.arg, Rs.rd, Rs.ffz, Rs.own, Rs.slot, Rs.item, items, Rs.t, Rs.stays, mD0, oIs, OT.ty, mFld, Env.wipe, Env.lent, Option.map_none, nI, nL, nT, mLst, mTup, List.getElem?_cons_zero, List.getElem?_cons_succ, List.set_cons_zero, List.set_cons_succ, Option.some.injEq, exists_eq_left', exists_eq_left, true_and, and_true, List.map_cons, List.map_nil, List.cons_append, List.nil_append, List.append_nil, Option.bind_some, Option.map_some, List.length_cons, List.length_nil, ite_true, ite_false, Bool.false_eq_true, if_true, if_false, eq_self_iff_true, reduceCtorEq, false_and, and_false, w_add, w_mul, w_ix_vol, w_ix_lst, w_ix_tup, w_ix_rol, w_ix_br, w_ix_brT, w_len_lst, w_len_tup, w_len_rol, w_len_br, w_len_nw, outs_nil, ffz_lst, ffz_tup, List.replicate_succ, List.replicate_zero, List.length_map, decide_eq_true_eq, Bool.not_eq_true', decide_eq_false_iff_not, Bool.not_true, Bool.not_false, Bool.true_eq_false, w_eq_int, w_setP, pk0, pkc1, pkc2, Bool.bne_false, Bool.bne_true, oIsN, Rs.isNon] at hK2 ⊢
      refine ⟨by unfold sizeL; omega, w_rep 0 _ _ (by omega) (by omega) fun d _ => ⟨_, fz_lst _, ?_⟩⟩
      have e2 : fw.map nI = List.replicate ((sz.length : Int) - 1).toNat (R.D.int 0) := by
        rw [e, List.map_replicate, show ((sz.length : Int) - 1).toNat = sz.length - 1 by omega] <;> rfl
      rw [← e2]
      exact hK2
  · clear hK
    refine s_seq fun K hK => ?_
    simp only [mVar, mC, mOp, mUn, i2, oSub, oMod, oDiv, oPow, oLt, oLe, oGt, oGe, oNeg, mT, mAnd, mOr, mNot, mAndV, mOrV, mNotV, mIf, mCh, bLt, bLe, bGt, bGe, mNil, mCons, mFz, mNoP, mPart, mB, oInt1, oMin2, oMin3, oMax2, mNext, mAsgG, gN, mIfS, mRet, mRetN, mDrop, mBreak, mCont, mFzS, mYes, mSetVol, mSrc, mCall, Spec1.io, args, Rs.lend, Rs.arg, Rs.rd, Rs.ffz, Rs.own, Rs.slot, Rs.item, items, Rs.t, Rs.stays, mD0, oIs, OT.ty, mFld, Env.wipe, Env.lent, Option.map_none, nI, nL, nT, mLst, mTup, List.getElem?_cons_zero, List.getElem?_cons_succ, List.set_cons_zero, List.set_cons_succ, Option.some.injEq, exists_eq_left', exists_eq_left, true_and, and_true, List.map_cons, List.map_nil, List.cons_append, List.nil_append, List.append_nil, Option.bind_some, Option.map_some, List.length_cons, List.length_nil, ite_true, ite_false, Bool.false_eq_true, if_true, if_false, eq_self_iff_true, reduceCtorEq, false_and, and_false, w_add, w_mul, w_ix_vol, w_ix_lst, w_ix_tup, w_ix_rol, w_ix_br, w_ix_brT, w_len_lst, w_len_tup, w_len_rol, w_len_br, w_len_nw, outs_nil, ffz_lst, ffz_tup, List.replicate_succ, List.replicate_zero, List.length_map, decide_eq_true_eq, Bool.not_eq_true', decide_eq_false_iff_not, Bool.not_true, Bool.not_false, Bool.true_eq_false, w_eq_int, w_setP, pk0, pkc1, pkc2, Bool.bne_false, Bool.bne_true]
    refine ⟨sz, fw, hR, rfl, trivial, ?_⟩
    simp only [mVar, mC, mOp, mUn, i2, oSub, oMod, oDiv, oPow, oLt, oLe, oGt, oGe, oNeg, mT, mAnd, mOr, mNot, mAndV, mOrV, mNotV, mIf, mCh, bLt, bLe, bGt, bGe, mNil, mCons, mFz, mNoP, mPart, mB, oInt1, oMin2, oMin3, oMax2, mNext, mAsgG, gN, mIfS, mRet, mRetN, mDrop, mBreak, mCont, mFzS, mYes, mSetVol, mSrc, mCall, Spec1.io, args, Rs.lend, Rs.arg, Rs.rd, Rs.ffz, Rs.own, Rs.slot, Rs.item, items, Rs.t, Rs.stays, mD0, oIs, OT.ty, mFld, Env.wipe, Env.lent, Option.map_none, nI, nL, nT, mLst, mTup, List.getElem?_cons_zero, List.getElem?_cons_succ, List.set_cons_zero, List.set_cons_succ, Option.some.injEq, exists_eq_left', exists_eq_left, true_and, and_true, List.map_cons, List.map_nil, List.cons_append, List.nil_append, List.append_nil, Option.bind_some, Option.map_some, List.length_cons, List.length_nil, ite_true, ite_false, Bool.false_eq_true, if_true, if_false, eq_self_iff_true, reduceCtorEq, false_and, and_false, w_add, w_mul, w_ix_vol, w_ix_lst, w_ix_tup, w_ix_rol, w_ix_br, w_ix_brT, w_len_lst, w_len_tup, w_len_rol, w_len_br, w_len_nw, outs_nil, ffz_lst, ffz_tup, List.replicate_succ, List.replicate_zero, List.length_map, decide_eq_true_eq, Bool.not_eq_true', decide_eq_false_iff_not, Bool.not_true, Bool.not_false, Bool.true_eq_false, w_eq_int, w_setP, pk0, pkc1, pkc2, Bool.bne_false, Bool.bne_true]
    refine hK _ ?_
    refine s_seq fun K hK => ?_
    simp only [mVar, mC, mOp, mUn, i2, oSub, oMod, oDiv, oPow, oLt, oLe, oGt, oGe, oNeg, mT, mAnd, mOr, mNot, mAndV, mOrV, mNotV, mIf, mCh, bLt, bLe, bGt, bGe, mNil, mCons, mFz, mNoP, mPart, mB, oInt1, oMin2, oMin3, oMax2, mNext, mAsgG, gN, mIfS, mRet, mRetN, mDrop, mBreak, mCont, mFzS, mYes, mSetVol, mSrc, mCall, Spec1.io, args, Rs.lend, Rs.arg, Rs.rd, Rs.ffz, Rs.own, Rs.slot, Rs.item, items, Rs.t, Rs.stays, mD0, oIs, OT.ty, mFld, Env.wipe, Env.lent, Option.map_none, nI, nL, nT, mLst, mTup, List.getElem?_cons_zero, List.getElem?_cons_succ, List.set_cons_zero, List.set_cons_succ, Option.some.injEq, exists_eq_left', exists_eq_left, true_and, and_true, List.map_cons, List.map_nil, List.cons_append, List.nil_append, List.append_nil, Option.bind_some, Option.map_some, List.length_cons, List.length_nil, ite_true, ite_false, Bool.false_eq_true, if_true, if_false, eq_self_iff_true, reduceCtorEq, false_and, and_false, w_add, w_mul, w_ix_vol, w_ix_lst, w_ix_tup, w_ix_rol, w_ix_br, w_ix_brT, w_len_lst, w_len_tup, w_len_rol, w_len_br, w_len_nw, outs_nil, ffz_lst, ffz_tup, List.replicate_succ, List.replicate_zero, List.length_map, decide_eq_true_eq, Bool.not_eq_true', decide_eq_false_iff_not, Bool.not_true, Bool.not_false, Bool.true_eq_false, w_eq_int, w_setP, pk0, pkc1, pkc2, Bool.bne_false, Bool.bne_true]
    refine ⟨_, rfl, _, rfl, by decide, hK _ ?_⟩
    refine s_seq fun K hK => ?_
    simp only [mVar, mC, mOp, mUn, i2, oSub, oMod, oDiv, oPow, oLt, oLe, oGt, oGe, oNeg, mT, mAnd, mOr, mNot, mAndV, mOrV, mNotV, mIf, mCh, bLt, bLe, bGt, bGe, mNil, mCons, mFz, mNoP, mPart, mB, oInt1, oMin2, oMin3, oMax2, mNext, mAsgG, gN, mIfS, mRet, mRetN, mDrop, mBreak, mCont, mFzS, mYes, mSetVol, mSrc, mCall, Spec1.io, args, Rs.lend, Rs.arg, Rs.rd, Rs.ffz, Rs.own, Rs.slot, Rs.item, items, Rs.t, Rs.stays, mD0, oIs, OT.ty, mFld, Env.wipe, Env.lent, Option.map_none, nI, nL, nT, mLst, mTup, List.getElem?_cons_zero, List.getElem?_cons_succ, List.set_cons_zero, List.set_cons_succ, Option.some.injEq, exists_eq_left', exists_eq_left, true_and, and_true, List.map_cons, List.map_nil, List.cons_append, List.nil_append, List.append_nil, Option.bind_some, Option.map_some, List.length_cons, List.length_nil, ite_true, ite_false, Bool.false_eq_true, if_true, if_false, eq_self_iff_true, reduceCtorEq, false_and, and_false, w_add, w_mul, w_ix_vol, w_ix_lst, w_ix_tup, w_ix_rol, w_ix_br, w_ix_brT, w_len_lst, w_len_tup, w_len_rol, w_len_br, w_len_nw, outs_nil, ffz_lst, ffz_tup, List.replicate_succ, List.replicate_zero, List.length_map, decide_eq_true_eq, Bool.not_eq_true', decide_eq_false_iff_not, Bool.not_true, Bool.not_false, Bool.true_eq_false, w_eq_int, w_setP, pk0, pkc1, pkc2, Bool.bne_false, Bool.bne_true]
    refine ⟨_, rfl, _, rfl, by decide, hK _ ?_⟩
    refine s_seq fun K hK => ?_
    simp only [mVar, mC, mOp, mUn, i2, oSub, oMod, oDiv, oPow, oLt, oLe, oGt, oGe, oNeg, mT, mAnd, mOr, mNot, mAndV, mOrV, mNotV, mIf, mCh, bLt, bLe, bGt, bGe, mNil, mCons, mFz, mNoP, mPart, mB, oInt1, oMin2, oMin3, oMax2, mNext, mAsgG, gN, mIfS, mRet, mRetN, mDrop, mBreak, mCont, mFzS, mYes, mSetVol, mSrc, mCall, Spec1.io, args, Rs.lend, Rs.arg, Rs.rd, Rs.ffz, Rs.own, Rs.slot, Rs.item, items, Rs.t, Rs.stays, mD0, oIs, OT.ty, mFld, Env.wipe, Env.lent, Option.map_none, nI, nL, nT, mLst, mTup, List.getElem?_cons_zero, List.getElem?_cons_succ, List.set_cons_zero, List.set_cons_succ, Option.some.injEq, exists_eq_left', exists_eq_left, true_and, and_true, List.map_cons, List.map_nil, List.cons_append, List.nil_append, List.append_nil, Option.bind_some, Option.map_some, List.length_cons, List.length_nil, ite_true, ite_false, Bool.false_eq_true, if_true, if_false, eq_self_iff_true, reduceCtorEq, false_and, and_false, w_add, w_mul, w_ix_vol, w_ix_lst, w_ix_tup, w_ix_rol, w_ix_br, w_ix_brT, w_len_lst, w_len_tup, w_len_rol, w_len_br, w_len_nw, outs_nil, ffz_lst, ffz_tup, List.replicate_succ, List.replicate_zero, List.length_map, decide_eq_true_eq, Bool.not_eq_true', decide_eq_false_iff_not, Bool.not_true, Bool.not_false, Bool.true_eq_false, w_eq_int, w_setP, pk0, pkc1, pkc2, Bool.bne_false, Bool.bne_true]
    refine ⟨by unfold sizeL; omega, by decide, hK _ ?_⟩
    refine it_var_lst (ds := sz.map nI) rfl ⟨rfl, fun i e => ∃ y, e = [some (.nw (.ins cs.CupRow cupN [.leaf (nT sz), .leaf (nT fw), .lst ((List.range (i + 1)).map fun c => .leaf (nI (prodL (sz.take c))))])), fz (nL sz), fz x, fz (nL fw), y], ⟨_, rfl⟩, ?_, ?_⟩
    · rintro i r e hr ⟨y, rfl⟩
      obtain ⟨hi, rfl⟩ := get_nI hr
      have h9 := (hR.s1 _ (pk_mem hi)).2
      have er : ∀ i : Nat, ((List.range (i + 1)).map fun c => OT.leaf (nI (prodL (sz.take c)))) = ((List.range i).map fun c => OT.leaf (nI (prodL (sz.take c)))) ++ [OT.leaf (nI (prodL (sz.take i)))] := fun i => by rw [List.range_succ, List.map_append] <;> rfl
      refine ⟨trivial, ⟨_, rfl⟩, _, _, 2, rfl, ix_w, _, rfl, by rw [List.length_map, List.length_range]; unfold sizeL; omega, ?_⟩
      refine ⟨_, rfl, _, _, _, rfl, as2, ?_⟩
      refine ⟨_, _, rfl, by rw [er i]; exact at_last, ?_⟩
      refine ⟨_, rfl, .inr (by constructor <;> omega), _, rfl, some (.fz (nI (pk sz i))), ?_⟩
      rw [er (i + 1), take_snoc hi, prodL_snoc]
      show _ = [some (Rs.nw (.ins cs.CupRow cupN [.leaf (nT sz), .leaf (nT fw), .lst (_ ++ [OT.leaf (.int ((prodL (sz.take i) * pk sz i : Nat) : Int))])])), _, _, _, _]
      rw [Int.natCast_mul]
      rfl
    · rintro e ⟨y, rfl⟩
      have e1 : ((sz.map nI).map Rs.fz).length = sz.length := by rw [List.length_map, List.length_map]
      rw [e1]
      have e2 : cupT cs sz fw = .ins cs.CupRow cupN [.leaf (nT sz), .leaf (nT fw), .lst ((List.range (sz.length + 1)).map fun c => .leaf (nI (prodL (sz.take c))))] := by
        unfold cupT wts
        rw [List.map_map] <;> rfl
      rw [e2] at h
      exact h

theorem wp_CupRow_min_members (cs : Cs) (ss : R.Env) (Q : Rs → R.Env → Prop) (h : (F_CupRow_min_members cs).io ss Q) : m_CupRow_min_members cs (ss ++ List.replicate 0 none) { nx := fun e => Q (.fz .non) (outs [] 1 e), rt := fun r e => Q r (outs [] 1 e) } := by
  obtain ⟨sz, fw, hR, rfl, h⟩ := h
  unfold m_CupRow_min_members
  refine ⟨_, rfl, _, _, _, rfl, as0, ?_⟩
  simp only [mNil, List.map_cons, List.map_nil]
  refine w_sum_tup ⟨_, rfl, _, _, _, rfl, as0, _, rfl, trivial, trivial, ?_⟩
  rw [show (R.D.int (((sz.sum : Nat) : Int) - (((sz.map nI).map OT.leaf).length : Nat) + 1)) = nI (least sz (fw.length + 1)) by rw [List.length_map, List.length_map, hR.leastN.1] <;> rfl]
  exact h

theorem wp_require_cups (cs : Cs) (ss : R.Env) (Q : Rs → R.Env → Prop) (h : (F_require_cups cs).io ss Q) : m_require_cups cs (ss ++ List.replicate 0 none) { nx := fun e => Q (.fz .non) (outs [] 1 e), rt := fun r e => Q r (outs [] 1 e) } := by
  obtain ⟨sz, fw, rfl, h⟩ := h
  simp only [m_require_cups, mVar, mC, mOp, mUn, i2, oSub, oMod, oDiv, oPow, oLt, oLe, oGt, oGe, oNeg, mT, mAnd, mOr, mNot, mAndV, mOrV, mNotV, mIf, mCh, bLt, bLe, bGt, bGe, mNil, mCons, mFz, mNoP, mPart, mB, oInt1, oMin2, oMin3, oMax2, mNext, mAsgG, gN, mIfS, mRet, mRetN, mDrop, mBreak, mCont, mFzS, mYes, mSetVol, mSrc, mCall, Spec1.io, args, Rs.lend, Rs.arg, Rs.rd, Rs.ffz, Rs.own, Rs.slot, Rs.item, items, Rs.t, Rs.stays, mD0, oIs, OT.ty, mFld, Env.wipe, Env.lent, Option.map_none, nI, nL, nT, mLst, mTup, List.getElem?_cons_zero, List.getElem?_cons_succ, List.set_cons_zero, List.set_cons_succ, Option.some.injEq, exists_eq_left', exists_eq_left, true_and, and_true, List.map_cons, List.map_nil, List.cons_append, List.nil_append, List.append_nil, Option.bind_some, Option.map_some, List.length_cons, List.length_nil, ite_true, ite_false, Bool.false_eq_true, if_true, if_false, eq_self_iff_true, reduceCtorEq, false_and, and_false, w_add, w_mul, w_ix_vol, w_ix_lst, w_ix_tup, w_ix_rol, w_ix_br, w_ix_brT, w_len_lst, w_len_tup, w_len_rol, w_len_br, w_len_nw, outs_nil, ffz_lst, ffz_tup, List.replicate_succ, List.replicate_zero, List.length_map, decide_eq_true_eq, Bool.not_eq_true', decide_eq_false_iff_not, Bool.not_true, Bool.not_false, Bool.true_eq_false, w_eq_int, w_setP, pk0, pkc1, pkc2, Bool.bne_false, Bool.bne_true] at h ⊢
  exact ⟨_, _, rfl, h⟩

theorem wp_is_name (cs : Cs) (ss : R.Env) (Q : Rs → R.Env → Prop) (h : (F_is_name cs).io ss Q) : m_is_name cs (ss ++ List.replicate 1 none) { nx := fun e => Q (.fz .non) (outs [] 1 e), rt := fun r e => Q r (outs [] 1 e) } := by
  obtain ⟨z, ok, rfl, h⟩ := h
  have l1 := ok.l1
  have l8 := ok.l8
  have hl := len_cps z
  unfold m_is_name
  refine s_seq fun K hK => ?_
  refine mIfS_ff (fun P hP => mOr_ff (fun P hP => ⟨_, rfl, _, rfl, hP⟩) (fun P hP => mNot_tt (fun P hP => mT_tt (fun Q hQ => mCh_tt (i := 1) (j := (z.length : Nat)) (k := 8) (fun P hP => hP) (fun P hP => ⟨_, rfl, by rw [hl]; unfold sizeL; omega, hP⟩) (fun P hP => hP) (decide_eq_true (by omega)) (decide_eq_true (by omega)) hQ) hP) hP) hP) (hK _ ?_)
  clear hK
  refine all_lc (z.cps.toList.map fun c => Rs.fz (.str ⟨#[c]⟩)) (fun Q' q => ⟨_, rfl, z, rfl, q⟩) (by rw [List.length_map]; unfold sizeL; omega) (fun k r hr P hP => ?_) ⟨trivial, h⟩
  rw [List.getElem?_map] at hr
  cases e : z.cps.toList[k]? with
  | none => rw [e] at hr; cases hr
  | some c =>
    rw [e] at hr
    cases hr
    have hc := ok.lt c (List.mem_of_getElem? e)
    refine ⟨trivial, rfl, _, rfl, c, abc, rfl, rfl, ?_⟩
    rw [abc_eq, decide_eq_true (List.mem_range'_1.mpr (by omega))]
    exact hP

theorem wp_is_name_list (cs : Cs) (ss : R.Env) (Q : Rs → R.Env → Prop) (h : (F_is_name_list cs).io ss Q) : m_is_name_list cs (ss ++ List.replicate 1 none) { nx := fun e => Q (.fz .non) (outs [] 1 e), rt := fun r e => Q r (outs [] 1 e) } := by
  obtain ⟨g, l, r, hr, ok, hl, rfl, h⟩ := h
  unfold m_is_name_list
  refine mAndV_tt (fun P hP => ⟨_, rfl, ?_⟩) ?_
  · rcases hr with rfl | rfl
    · exact ⟨_, rfl, hP⟩
    · exact ⟨_, rfl, hP⟩
  refine all_lc ((l.map (nS g)).map Rs.fz) (fun Q' q => it_S rfl hr q) (by rw [List.length_map, List.length_map]; unfold sizeL; omega) (fun k r hr P hP => ?_) ⟨trivial, h⟩
  obtain ⟨hk, rfl⟩ := get_nS hr
  exact ⟨trivial, rfl, _, rfl, rfl, g (pk l k), ok _ (pk_mem hk), rfl, trivial, hP⟩

theorem wp_all_members (cs : Cs) (ss : R.Env) (Q : Rs → R.Env → Prop) (h : (F_all_members cs).io ss Q) : m_all_members cs (ss ++ List.replicate 2 none) { nx := fun e => Q (.fz .non) (outs [] 2 e), rt := fun r e => Q r (outs [] 2 e) } := by
  obtain ⟨g, q, cs, r, r2, hr, hr2, hb, rfl, h⟩ := h
  obtain ⟨rd, ff, ar, sl, el⟩ := hr.rd
  unfold m_all_members
  refine s_seq fun K hK => ?_
  refine ⟨_, rfl, ?_⟩
  refine oList_S (by rw [rd]; exact hr) ⟨sL g q, fz_lst _, trivial, hK _ ?_⟩
  clear hK
  refine s_seq fun K hK => ?_
  refine it_C rfl hr2 ⟨rfl, fun i e => ∃ y, e = [some r, some r2, fz (sL g (q ++ (cs.take i).flatten)), y], ⟨_, by rw [List.take_zero, List.flatten_nil, List.append_nil] <;> rfl⟩, ?_, ?_⟩
  · rintro i rr e he ⟨y, rfl⟩
    obtain ⟨hi, rfl⟩ := get_row he
    have hq := rowOf_is g r2 (pc cs i)
    generalize rowOf g r2 (pc cs i) = row at *
    obtain ⟨rd2, ff2, ar2, sl2, el2⟩ := hq.rd
    have hfl : ((cs.take i).flatten).length + (pc cs i).length ≤ totM cs := by
      rw [← totM_flat, ← List.take_append_drop i cs, List.flatten_append, List.length_append, List.take_append_drop, List.drop_eq_getElem_cons hi, List.flatten_cons, List.length_append, pc_lt hi]
      omega
    refine ⟨sl2, _, rfl, _, rfl, ?_⟩
    rw [rd2]
    dsimp only
    rw [ff2]
    refine .inl ⟨(q ++ (cs.take i).flatten).map (nS g), _, rfl, el2, by rw [List.length_map, List.length_map, List.length_append]; unfold sizeL; omega, _, fz_lst _, trivial, some row, ?_⟩
    rw [← List.map_append, List.append_assoc, List.take_add_one, List.getElem?_eq_getElem hi, List.flatten_append, pc_lt hi]
    show [_, _, fz (.lst ((q ++ ((cs.take i).flatten ++ cs[i])).map (nS g))), _] = [_, _, fz (sL g (q ++ ((cs.take i).flatten ++ (cs[i] ++ [])))), _]
    rw [List.append_nil]
    rfl
  · rintro e ⟨y, rfl⟩
    rw [List.length_map, List.take_length]
    exact hK _ ⟨_, rfl, trivial, h⟩

theorem wp_copy_state (cs : Cs) (ss : R.Env) (Q : Rs → R.Env → Prop) (h : (F_copy_state cs).io ss Q) : m_copy_state cs (ss ++ List.replicate 1 none) { nx := fun e => Q (.fz .non) (outs [] 2 e), rt := fun r e => Q r (outs [] 2 e) } := by
  obtain ⟨g, q, cs, r, r2, hr, hr2, hb, rfl, h⟩ := h
  obtain ⟨rd, ff, ar, sl, el⟩ := hr.rd
  unfold m_copy_state
  simp only [mRet, mTup, mCons]
  refine ⟨_, rfl, ?_⟩
  refine oList_S (by rw [rd]; exact hr) ?_
  refine lc_any (cs.map (rowOf g r2)) true (fun k => .lst ((pc cs k).map fun n => .leaf (nS g n))) (fun Q' q => it_C rfl hr2 q) (by rw [List.length_map]; unfold sizeL; omega) (fun k rr he => ?_) ?_
  · obtain ⟨hk, rfl⟩ := get_row he
    have hq := rowOf_is g r2 (pc cs k)
    generalize rowOf g r2 (pc cs k) = row at *
    obtain ⟨rd2, ff2, ar2, sl2, el2⟩ := hq.rd
    rw [ar2]
    refine ⟨sl2, rfl, _, rfl, oList_S (by rw [rd2]; exact hq) ⟨_, rfl, ?_⟩⟩
    rw [← leafs_nS]
    exact item_snoc (out := fun k => OT.lst ((pc cs k).map fun n => .leaf (nS g n)))
  · rw [own_range2]
    refine ⟨_, rfl, by show 2 ≤ sizeL; unfold sizeL; omega, trivial, ?_⟩
    rw [← leafs_nS]
    exact h

theorem wp_is_state (cs : Cs) (ss : R.Env) (Q : Rs → R.Env → Prop) (h : (F_is_state cs).io ss Q) : m_is_state cs (ss ++ List.replicate 5 none) { nx := fun e => Q (.fz .non) (outs [] 2 e), rt := fun r e => Q r (outs [] 2 e) } := by
  obtain ⟨sz, fw, g, q, cts, r, hr, hR, hS, rfl, h⟩ := h
  have h30 := hR.l1
  have hvl := val_len hS.val
  have h40 := hS.hi
  have ml : ∀ {c : List Nat}, c ∈ cts → ∀ n ∈ c, n ∈ memb q cts := fun m n hn => List.mem_append_right _ (List.mem_flatten.mpr ⟨_, m, hn⟩)
  have hle : ∀ {c : List Nat}, c ∈ cts → c.length ≤ 100 := fun m => by
    have := (List.sublist_flatten_of_mem m).length_le
    rw [totM_flat] at this
    omega
  have hlm : (memb q cts).length = q.length + totM cts := by
    unfold memb
    rw [List.length_append, totM_flat]
  unfold m_is_state
  refine s_seq fun K hK => ?_
  obtain ⟨rq, rc, hq, hc, e0, e1, e2⟩ := hr.parts
  refine mIfS_ff (fun P hP => mOr_ff (fun P hP => ⟨_, rfl, ?_⟩) (fun P hP => mOr_ff (fun P hP => ⟨_, rfl, ?_⟩) (fun P hP => mOr_ff (fun P hP => ⟨_, rfl, e0 _ ?_⟩) (fun P hP => ⟨_, rfl, e1 _ ?_⟩) hP) hP) hP) (hK _ ?_)
  · rcases hr with rfl | rfl
    · exact ⟨_, rfl, hP⟩
    · exact ⟨_, rfl, hP⟩
  · refine hr.len ?_
    dsimp only [mC]
    show oEq true (.fz (.int ((2 : Nat) : Int))) (.fz (.int 2)) _
    rw [w_eq_int]
    exact hP
  · refine ⟨rfl, g, q, rq, hq, fun n m => hS.nms.ok n (List.mem_append_left _ m), by omega, ?_, trivial, hP⟩
    show [some rq.lend] = _
    rw [lend_S hq]
  · rcases hc with rfl | rfl
    · exact ⟨_, rfl, hP⟩
    · exact ⟨_, rfl, hP⟩
  clear hK
  refine s_seq fun K hK => ?_
  refine ⟨_, rfl, ?_⟩
  refine e2 _ (hK _ ?_)
  clear hK
  refine s_seq fun K hK => ?_
  refine mIfS_ff (fun P hP => mOr_ff (fun P hP => ⟨_, rfl, hc.len ⟨_, rfl, _, _, _, rfl, as0, _, rfl, ?_⟩⟩) (fun P hP => mNot_tt (fun P hP => mT_tt (fun Q hQ => all_lc (cts.map (rowOf g rc)) (fun Q' q => it_C rfl hc q) (by rw [List.length_map]; unfold sizeL; omega) (fun k rr he P hP => ?_) hQ) hP) hP) hP) (hK _ ?_)
  · show oEq true (.fz (.int (cts.length : Nat))) (.fz (.int (((sz.map nI).map OT.leaf).length : Nat))) _
    rw [w_eq_int, List.length_map, List.length_map, hvl, decide_eq_true rfl]
    exact hP
  · obtain ⟨hk, rfl⟩ := get_row he
    have hq := rowOf_is g rc (pc cts k)
    generalize rowOf g rc (pc cts k) = row at *
    obtain ⟨rd2, ff2, ar2, sl2, el2⟩ := hq.rd
    rw [ar2]
    refine ⟨sl2, rfl, _, rfl, rfl, g, pc cts k, row, hq, fun n m => hS.nms.ok n (ml (pc_mem hk) n m), hle (pc_mem hk), ?_, trivial, hP⟩
    show [some row.rd.lend] = _
    rw [rd2, lend_S hq]
  clear hK
  refine s_seq fun K hK => ?_
  refine mIfS_ff (fun P hP => mNot_tt (fun P hP => mT_tt (fun Q hQ => all_lc (zipRow g rc cts (sz.map nI)) (fun Q' q => zip_C rfl rfl hc as0 q) (by unfold zipRow; rw [List.length_map, List.length_range]; unfold sizeL; omega) (fun k rr he P hP => ?_) hQ) hP) hP) (hK _ ?_)
  · have hk := (List.getElem?_eq_some_iff.mp he).1
    unfold zipRow at hk
    rw [List.length_map, List.length_range, List.length_map] at hk
    have := val_at hS.val k (by omega)
    rw [range_map_get he]
    refine pair_g hc trivial fun row hq => ⟨rfl, _, rfl, ?_⟩
    show oLen [row.rd.ffz] _
    rw [hq.rd.1, hq.rd.2.1]
    refine hq.len ⟨_, rfl, ?_⟩
    rw [getD_nI (by omega)]
    refine ⟨trivial, ?_⟩
    show P (.fz (.bl (decide (((pc cts k).length : Int) < ((pk sz k : Nat) : Int)))))
    rw [decide_eq_true (by omega)]
    exact hP
  clear hK
  refine s_seq fun K hK => ?_
  refine ⟨_, rfl, _, rfl, rfl, g, q, cts, rq, rc, hq, hc, by omega, ?_, trivial, trivial, hK _ ?_⟩
  · show [some (rq.rd).lend, some (rc.rd).lend] = _
    rw [hq.rd.1, hc.rd.1, lend_S hq, lend_C hc]
  clear hK
  refine mAndV_tt (fun P hP => ⟨_, rfl, _, _, rfl, strs_nS g (memb q cts), hS.nms.nd, by rw [List.length_map, hlm]; omega, _, rfl, _, rfl, ?_⟩) ?_
  · show oEq false (.fz (.int (((memb q cts).map g).length : Nat))) (.fz (.int ((((memb q cts).map (nS g)).map OT.leaf).length : Nat))) _
    rw [w_eq_int, List.length_map, List.length_map, List.length_map, decide_eq_true rfl]
    exact hP
  · have hlo := hS.lo
    refine mCh_tt (i := (least sz (fw.length + 1) : Nat)) (j := ((memb q cts).length : Nat)) (k := 40) (fun P hP => ⟨_, rfl, _, _, rfl, nc_min, rfl, sz, fw, hR, rfl, trivial, hP⟩) (fun P hP => ⟨_, rfl, _, rfl, ?_⟩) (fun P hP => hP) (decide_eq_true (by omega)) (decide_eq_true (by omega)) ⟨trivial, h⟩
    show P (.fz (.int ((((memb q cts).map (nS g)).map OT.leaf).length : Nat)))
    rw [List.length_map, List.length_map]
    exact hP

theorem wp_require_state (cs : Cs) (ss : R.Env) (Q : Rs → R.Env → Prop) (h : (F_require_state cs).io ss Q) : m_require_state cs (ss ++ List.replicate 0 none) { nx := fun e => Q (.fz .non) (outs [] 2 e), rt := fun r e => Q r (outs [] 2 e) } := by
  obtain ⟨sz, fw, g, q, cts, r, hr, hR, hS, rfl, h⟩ := h
  have hvl := val_len hS.val
  have h30 := hR.l1
  unfold m_require_state
  refine s_seq fun K hK => ?_
  refine mIfS_ff (fun P hP => ⟨_, rfl, _, rfl, rfl, sz, fw, g, q, cts, r, hr, hR, hS, ?_, trivial, hP⟩) (hK _ ?_)
  · show [_, some (r.rd).lend] = _
    rw [hr.lend]
    rfl
  clear hK
  obtain ⟨rq, rc, hq, hc, e0, e1, e2⟩ := hr.parts
  refine ⟨_, rfl, e0 _ ⟨_, rfl, e1 _ ⟨rfl, g, q, cts, rq, rc, hq, hc, by omega, ?_, trivial, trivial, h⟩⟩⟩
  show [some rq.lend, some rc.lend] = _
  rw [lend_S hq, lend_C hc]

theorem wp_empty_full_cups (cs : Cs) (ss : R.Env) (Q : Rs → R.Env → Prop) (h : F_empty_full_cups cs ss Q) : m_empty_full_cups cs (ss ++ List.replicate 1 none) { nx := fun e => Q (.fz .non) (outs [1, 2] 4 e), rt := fun r e => Q r (outs [1, 2] 4 e) } := by
  obtain ⟨sz, fw, g, pre0, old0, post0, x0, q0, hR, hV, hb, rfl, h⟩ := h
  have h30 := hR.l1
  have hfl := hR.fl
  have hd0 : pre0.length < sz.length := by
    have := val_len hV
    rw [List.length_drop, List.length_cons] at this
    omega
  unfold m_empty_full_cups
  generalize hgr : grD g (cgr (sz.drop pre0.length) (fw.drop pre0.length) (old0 :: post0) x0) = GR at *
  generalize hcs : csc (sz.drop pre0.length) (fw.drop pre0.length) (old0 :: post0) x0 q0 = CS at *
  refine s_seq fun K hK => ?_
  refine while_of (fun m e => ∃ (pre : List (List Nat)) (old : List Nat) (post : List (List Nat)) (x : Nat) (q : List Nat) (y : Option Rs), m = sz.length - pre.length ∧ pre.length < sz.length ∧ Val (sz.drop pre.length) (old :: post) ∧
    (pre0 ++ CS.1, CS.2) = (pre ++ (csc (sz.drop pre.length) (fw.drop pre.length) (old :: post) x q).1, (csc (sz.drop pre.length) (fw.drop pre.length) (old :: post) x q).2) ∧ GR = grD g (cgr (sz.drop pre.length) (fw.drop pre.length) (old :: post) x) ∧
    q.length + old.length + totM post ≤ 64 ∧ e = [fz (cupD cs sz fw), some (.nw (.lst (q.map fun n => .leaf (nS g n)))), some (.nw (.lst (ownS g (pre ++ (old ++ [x]) :: post)))), fz (nI pre.length), y]) (sz.length - pre0.length) ⟨pre0, old0, post0, x0, q0, none, rfl, hd0, hV, by rw [hcs], hgr.symm, hb, rfl⟩ ?_
  rintro m e ⟨pre, old, post, x, q, y, rfl, hj, hv, hc, hg, hb, rfl⟩
  have hrl : (old ++ [x]).length = old.length + 1 := by rw [List.length_append, List.length_singleton]
  have hol : (ownS g (pre ++ (old ++ [x]) :: post)).length = pre.length + (post.length + 1) := by rw [ownS_len, List.length_append, List.length_cons]
  have hdr := drop_pk hj
  rw [hdr] at hv hc hg
  have hvl2 := val_len hv
  have hpl : post.length + (pre.length + 1) = sz.length := by
    rw [List.length_cons, List.length_cons, List.length_drop] at hvl2
    omega
  have ho : old.length < pk sz pre.length := by cases hv with | cons a _ => exact a
  have hvp : Val (sz.drop (pre.length + 1)) post := by cases hv with | cons _ a => exact a
  refine ⟨decide (old.length + 1 = pk sz pre.length), fun P hP => ?_, fun hb2 => ?_, fun hb2 => hK _ ?_⟩
  · refine mAnd_of true (decide (old.length + 1 = pk sz pre.length)) (fun P hP => ⟨_, rfl, _, rfl, _, rfl, trivial, ?_⟩) (fun _ P hP => ⟨_, rfl, _, rfl, _, _, rfl, at_nat ownS_at, _, rfl, _, rfl, _, _, _, rfl, as0, _, rfl, _, at_get rfl hj, ?_⟩) hP
    · show P (decide (((pre.length : Nat) : Int) < (((ownS g (pre ++ (old ++ [x]) :: post)).length : Nat) : Int)))
      rw [hol, decide_eq_true (by omega)]
      exact hP
    · show oEq false (.fz (.int ((((old ++ [x]).map fun n => OT.leaf (nS g n)).length : Nat)))) (.fz (.int (pk sz pre.length : Nat))) _
      rw [w_eq_int, List.length_map, hrl]
      have : decide (((old.length + 1 : Nat) : Int) = (pk sz pre.length : Nat)) = decide (old.length + 1 = pk sz pre.length) := by
        by_cases z : old.length + 1 = pk sz pre.length
        · rw [decide_eq_true z, decide_eq_true (by omega)]
        · rw [decide_eq_false z, decide_eq_false (by omega)]
      rw [this, Bool.bne_false]
      exact hP
  · have hfull := of_decide_eq_true hb2
    clear hK
    have hfull2 : (old ++ [x]).length = pk sz pre.length := by rw [hrl]; exact hfull
    generalize hrow : old ++ [x] = row at *
    refine s_seq fun K hK => ?_
    refine ⟨⟨_, rfl⟩, _, rfl, ownS g (pre ++ row :: post), pre.length, rfl, ixN_nat (by rw [hol]; omega), by decide, .lst (row.map fun n => .leaf (nS g n)), tree_at rfl ?_, rfl, hK _ ?_⟩
    · show ((ownS g (pre ++ row :: post))[pre.length]?).bind _ = _
      rw [ownS_at]
      rfl
    clear hK
    refine s_seq fun K hK => ?_
    have hput : (OT.lst (ownS g (pre ++ row :: post))).put [pre.length] (.leaf .any) = .lst ((ownS g (pre ++ row :: post)).set pre.length (.leaf .any)) := put_kid (t := .lst (ownS g (pre ++ row :: post))) ownS_at
    have hp0 : put [fz (cupD cs sz fw), some (.nw (.lst (q.map fun n => .leaf (nS g n)))), some (.nw (.lst (ownS g (pre ++ row :: post)))), fz (nI pre.length), y] 2 ([] ++ [pre.length]) (.leaf .any) = [fz (cupD cs sz fw), some (.nw (.lst (q.map fun n => .leaf (nS g n)))), some (.nw (.lst ((ownS g (pre ++ row :: post)).set pre.length (.leaf .any)))), fz (nI pre.length), y] := by
      rw [put_at rfl]
      show [_, _, some (Rs.nw ((OT.lst (ownS g (pre ++ row :: post))).put [pre.length] (.leaf .any))), _, _] = _
      rw [hput]
    rw [hp0]
    have hset : ((ownS g (pre ++ row :: post)).set pre.length (.leaf .any)).set pre.length (.lst []) = ownS g (pre ++ [] :: post) := by
      rw [List.set_set]
      exact ownS_set (d := [])
    refine ⟨[], rfl, Nat.zero_le _, ⟨_, rfl⟩, _, rfl, _, pre.length, _, rfl, rfl, ixN_nat (by rw [List.length_set, hol]; omega), hK _ ?_⟩
    clear hK
    show mSeq _ _ [fz (cupD cs sz fw), some (.nw (.lst (q.map fun n => .leaf (nS g n)))), some (.nw (.lst (((ownS g (pre ++ row :: post)).set pre.length (.leaf .any)).set pre.length (.lst [])))), fz (nI pre.length), some (.nw (.lst (row.map fun n => .leaf (nS g n))))] _
    rw [hset]
    have hol2 : (ownS g (pre ++ [] :: post)).length = sz.length := by rw [ownS_len, List.length_append, List.length_cons]; omega
    refine s_seq fun K hK => ?_
    refine if_of (decide ((pre.length : Int) = ((ownS g (pre ++ [] :: post)).length : Nat) - 1) != false) (fun P hP => ⟨_, rfl, _, rfl, _, rfl, trivial, ?_⟩) (fun hl => ?_) (fun hl => hK _ ?_)
    · show oEq false (.fz (.int (pre.length : Nat))) (.fz (.int (((ownS g (pre ++ [] :: post)).length : Nat) - 1))) _
      rw [w_eq_int]
      exact hP
    · rw [Bool.bne_false] at hl
      have hl := of_decide_eq_true hl
      rw [hol2] at hl
      have hd : sz.drop (pre.length + 1) = [] := List.drop_eq_nil_of_le (by omega)
      have hpost : post = [] := List.eq_nil_of_length_eq_zero (by omega)
      subst hpost
      refine s_seq fun K hK => ?_
      refine ⟨⟨_, rfl⟩, _, rfl, _, rfl, row.map (nS g), leaves_nS g row, by rw [List.length_map, List.length_map]; unfold sizeL; omega, hK _ ?_⟩
      clear hK
      rw [← leafs_nS, ← List.map_append]
      refine ⟨_, sL g row, rfl, by rw [leafs_nS]; exact fz_lst _, _, rfl, trivial, ?_⟩
      have hcs2 : csc (pk sz pre.length :: sz.drop (pre.length + 1)) (fw.drop pre.length) [old] x q = ([[]], q ++ row) := by
        rw [hd, csc, if_neg (by omega), hrow]
      have hgr2 : cgr (pk sz pre.length :: sz.drop (pre.length + 1)) (fw.drop pre.length) [old] x = some row := by
        rw [hd, cgr, if_neg (by omega), hrow]
      rw [hcs2] at hc
      rw [hgr2] at hg
      obtain ⟨hc1, hc2⟩ := Prod.mk.inj hc
      rw [hc1, hc2, hg] at h
      exact h
    · clear hK
      rw [Bool.bne_false] at hl
      have hl := of_decide_eq_false hl
      rw [hol2] at hl
      have hj2 : pre.length + 1 < sz.length := by omega
      have hf1 : pre.length < fw.length := by omega
      have hfi := hR.fi pre.length hf1
      obtain ⟨o2, post2, rfl⟩ : ∃ o2 post2, post = o2 :: post2 := by
        cases post with
        | nil => simp at hpl; omega
        | cons a b => exact ⟨a, b, rfl⟩
      have hpp : pre ++ [] :: o2 :: post2 = (pre ++ [[]]) ++ o2 :: post2 := by rw [List.append_assoc] <;> rfl
      rw [hpp]
      have hpl1 : (pre ++ [[]]).length = pre.length + 1 := by rw [List.length_append, List.length_singleton]
      have hto : totM (o2 :: post2) = o2.length + totM post2 := by simp [totM]
      refine s_seq fun K hK => ?_
      refine ⟨⟨_, rfl⟩, _, rfl, ownS g ((pre ++ [[]]) ++ o2 :: post2), pre.length + 1, rfl, ixN_nat (j := pre.length + 1) (by rw [ownS_len, List.length_append, hpl1, List.length_cons]; omega), by decide, o2.map (fun n => .leaf (nS g n)), row.map (fun n => .leaf (nS g n)), tree_at rfl ?_, rfl, by rw [List.length_map]; unfold sizeL; omega, _, rfl, _, _, _, rfl, as1, _, rfl, _, at_get rfl hf1, ((pk fw pre.length : Nat) : Int), pk fw pre.length, nS g (pk row (pk fw pre.length)), rfl, by omega, ?_, ixN_nat (by rw [List.length_map, hfull2]; exact hfi), leaf_nS (by rw [hfull2]; exact hfi), hK _ ?_⟩
      · show ((ownS g ((pre ++ [[]]) ++ o2 :: post2))[pre.length + 1]?).bind _ = _
        rw [← hpl1, ownS_at]
        rfl
      · have h9 := (hR.s1 _ (pk_mem hj)).2
        omega
      clear hK
      rw [erase_nS]
      have hp1 : (OT.lst (ownS g ((pre ++ [[]]) ++ o2 :: post2))).put [pre.length + 1] (.lst (o2.map (fun n => OT.leaf (nS g n)) ++ [.leaf (nS g (pk row (pk fw pre.length)))])) = .lst (ownS g ((pre ++ [[]]) ++ (o2 ++ [pk row (pk fw pre.length)]) :: post2)) := by
        have e := ownS_at (g := g) (p := pre ++ [[]]) (c := o2) (r := post2)
        rw [hpl1] at e
        rw [put_kid (t := .lst (ownS g ((pre ++ [[]]) ++ o2 :: post2))) e, snoc_nS]
        have e2 := ownS_set (g := g) (p := pre ++ [[]]) (c := o2) (d := o2 ++ [pk row (pk fw pre.length)]) (r := post2)
        rw [hpl1] at e2
        show OT.lst ((ownS g ((pre ++ [[]]) ++ o2 :: post2)).set (pre.length + 1) (.lst ((o2 ++ [pk row (pk fw pre.length)]).map fun n => .leaf (nS g n)))) = _
        rw [e2]
      show mSeq _ _ [fz (cupD cs sz fw), some (.nw (.lst (q.map fun n => .leaf (nS g n)))), some (.nw ((OT.lst (ownS g ((pre ++ [[]]) ++ o2 :: post2))).put [pre.length + 1] (.lst (o2.map (fun n => OT.leaf (nS g n)) ++ [.leaf (nS g (pk row (pk fw pre.length)))])))), fz (nI pre.length), some (.nw (.lst ((row.eraseIdx (pk fw pre.length)).map fun n => .leaf (nS g n))))] _
      rw [hp1]
      have hel : (row.eraseIdx (pk fw pre.length)).length = old.length := by rw [List.length_eraseIdx, if_pos (by rw [hfull2]; exact hfi)]; omega
      refine s_seq fun K hK => ?_
      refine ⟨⟨_, rfl⟩, _, rfl, _, rfl, (row.eraseIdx (pk fw pre.length)).map (nS g), leaves_nS g _, by rw [List.length_map, List.length_map, hel]; unfold sizeL; omega, hK _ ?_⟩
      clear hK
      rw [← leafs_nS, ← List.map_append]
      refine ⟨_, rfl, trivial, trivial, sz.length - (pre.length + 1), by omega, pre ++ [[]], o2, post2, pk row (pk fw pre.length), q ++ row.eraseIdx (pk fw pre.length), some (.nw (.lst ((row.eraseIdx (pk fw pre.length)).map fun n => .leaf (nS g n)))), by rw [hpl1], by rw [hpl1]; exact hj2, by rw [hpl1]; exact hvp, ?_, ?_, ?_, ?_⟩
      · have hd := drop_pk hj2
        rw [hc, hpl1, hd, csc, if_neg (by omega), hrow, drop_pk1, rw_drop, List.append_assoc]
        rfl
      · have hd := drop_pk hj2
        rw [hg, hpl1, hd, cgr, if_neg (by omega), hrow, drop_pk1, rw_drop]
      · rw [List.length_append, hel]
        omega
      · rw [hpl1]
        rfl
  · have hne := of_decide_eq_false hb2
    have hcs2 : csc (pk sz pre.length :: sz.drop (pre.length + 1)) (fw.drop pre.length) (old :: post) x q = ((old ++ [x]) :: post, q) := by
      cases hd : sz.drop (pre.length + 1) with
      | nil => rw [csc, if_pos (by omega)]
      | cons s2 ss => rw [csc, if_pos (by omega)]
    have hgr2 : cgr (pk sz pre.length :: sz.drop (pre.length + 1)) (fw.drop pre.length) (old :: post) x = none := by
      cases hd : sz.drop (pre.length + 1) with
      | nil => rw [cgr, if_pos (by omega)]
      | cons s2 ss => rw [cgr, if_pos (by omega)]
    rw [hcs2] at hc
    rw [hgr2] at hg
    obtain ⟨hc1, hc2⟩ := Prod.mk.inj hc
    rw [hc1, hc2, hg] at h
    exact ⟨trivial, h⟩

theorem wp_apply_step (cs : Cs) (ss : R.Env) (Q : Rs → R.Env → Prop) (h : F_apply_step cs ss Q) : m_apply_step cs (ss ++ List.replicate 0 none) { nx := fun e => Q (.fz .non) (outs [1, 2] 3 e), rt := fun r e => Q r (outs [1, 2] 3 e) } := by
  obtain ⟨sz, fw, g, cts, x, q, hR, hV, hb, rfl, h⟩ := h
  have hl0 := hR.l0
  have hvl := val_len hV
  obtain ⟨c0, cs0, rfl⟩ : ∃ c cs, cts = c :: cs := by
    cases cts with
    | nil => simp at hvl; omega
    | cons c cs => exact ⟨c, cs, rfl⟩
  have htot : totM (c0 :: cs0) = c0.length + totM cs0 := by simp [totM]
  unfold m_apply_step
  refine s_seq fun K hK => ?_
  refine ⟨⟨_, rfl⟩, ownS g (c0 :: cs0), 0, rfl, ixN_nat (j := 0) (by unfold ownS; simp), by decide, c0.map (fun n => .leaf (nS g n)), (x :: q).map fun n => .leaf (nS g n), rfl, rfl, by rw [List.length_map]; unfold sizeL; omega, 0, 0, nS g x, rfl, by omega, by omega, ?_, rfl, hK _ ?_⟩
  · rw [List.length_map]
    exact ixN_nat (j := 0) (by simp)
  clear hK
  rw [snoc_nS]
  show mRetX _ [fz (cupD cs sz fw), some (.nw (.lst (q.map fun n => .leaf (nS g n)))), some (.nw (.lst (ownS g ((c0 ++ [x]) :: cs0))))] _
  exact ⟨[.leaf (cupD cs sz fw), .lst (q.map fun n => .leaf (nS g n)), .lst (ownS g ((c0 ++ [x]) :: cs0))], [fz (cupD cs sz fw), none, none], rfl, [.int 0], rfl, rfl, sz, fw, g, [], c0, cs0, x, q, hR, hV, by omega, rfl, h⟩

theorem wp_next_state (cs : Cs) (ss : R.Env) (Q : Rs → R.Env → Prop) (h : (F_next_state cs).io ss Q) : m_next_state cs (ss ++ List.replicate 2 none) { nx := fun e => Q (.fz .non) (outs [] 2 e), rt := fun r e => Q r (outs [] 2 e) } := by
  obtain ⟨sz, fw, g, x, q, cts, r, hr, hR, hS, rfl, h⟩ := h
  have h40 := hS.hi
  rw [List.length_cons] at h40
  unfold m_next_state
  refine s_seq fun K hK => ?_
  refine ⟨_, rfl, rfl, sz, fw, rfl, trivial, hK _ ?_⟩
  clear hK
  refine s_seq fun K hK => ?_
  refine ⟨_, rfl, _, rfl, rfl, sz, fw, g, x :: q, cts, r, hr, hR, hS, ?_, trivial, ⟨_, rfl, rfl, trivial, trivial, hK _ ?_⟩⟩
  · show [_, some (r.rd).lend] = _
    rw [hr.lend]
    rfl
  clear hK
  refine s_seq fun K hK => ?_
  refine ⟨[.leaf (cupD cs sz fw), .lst ((x :: q).map fun n => .leaf (nS g n)), .lst (ownS g cts)], _, rfl, [], rfl, rfl, sz, fw, g, cts, x, q, hR, hS.val, by omega, rfl, hK _ ?_⟩
  clear hK
  exact ⟨_, _, rfl, h⟩

theorem wp_law_script_value (cs : Cs) (ss : R.Env) (Q : Rs → R.Env → Prop) (h : (F_law_script_value cs).io ss Q) : m_law_script_value cs (ss ++ List.replicate 0 none) { nx := fun e => Q (.fz .non) (outs [] 2 e), rt := fun r e => Q r (outs [] 2 e) } := by
  obtain ⟨ns, k, rfl, h⟩ := h
  simp only [m_law_script_value, mSeq, scrD, nI, mVar, mC, mOp, mUn, i2, oSub, oMod, oDiv, oPow, oLt, oLe, oGt, oGe, oNeg, mT, mAnd, mOr, mNot, mAndV, mOrV, mNotV, mIf, mCh, bLt, bLe, bGt, bGe, mNil, mCons, mFz, mNoP, mPart, mB, oInt1, oMin2, oMin3, oMax2, mNext, mAsgG, gN, mIfS, mRet, mRetN, mDrop, mBreak, mCont, mFzS, mYes, mSetVol, mSrc, mCall, Spec1.io, args, Rs.lend, Rs.arg, Rs.rd, Rs.ffz, Rs.own, Rs.slot, Rs.item, items, Rs.t, Rs.stays, mD0, oIs, OT.ty, mFld, Env.wipe, Env.lent, Option.map_none, nI, nL, nT, mLst, mTup, List.getElem?_cons_zero, List.getElem?_cons_succ, List.set_cons_zero, List.set_cons_succ, Option.some.injEq, exists_eq_left', exists_eq_left, true_and, and_true, List.map_cons, List.map_nil, List.cons_append, List.nil_append, List.append_nil, Option.bind_some, Option.map_some, List.length_cons, List.length_nil, ite_true, ite_false, Bool.false_eq_true, if_true, if_false, eq_self_iff_true, reduceCtorEq, false_and, and_false, w_add, w_mul, w_ix_vol, w_ix_lst, w_ix_tup, w_ix_rol, w_ix_br, w_ix_brT, w_len_lst, w_len_tup, w_len_rol, w_len_br, w_len_nw, outs_nil, ffz_lst, ffz_tup, List.replicate_succ, List.replicate_zero, List.length_map, decide_eq_true_eq, Bool.not_eq_true', decide_eq_false_iff_not, Bool.not_true, Bool.not_false, Bool.true_eq_false, w_eq_int, w_setP, pk0, pkc1, pkc2, Bool.bne_false, Bool.bne_true] at h ⊢
  split
  · rename_i hk
    have hk : (k : Int) < (ns.length : Int) := by simpa using hk
    exact ⟨.int ns[k], at_nat (by rw [List.getElem?_map, List.getElem?_eq_getElem (by omega)] <;> rfl), h _⟩
  · exact h _

theorem wp_law_mix (cs : Cs) (ss : R.Env) (Q : Rs → R.Env → Prop) (h : (F_law_mix cs).io ss Q) : m_law_mix cs (ss ++ List.replicate 1 none) { nx := fun e => Q (.fz .non) (outs [] 2 e), rt := fun r e => Q r (outs [] 2 e) } := by
  obtain ⟨a, b, rfl, h⟩ := h
  simp only [m_law_mix, mSeq, mVar, mC, mOp, mUn, i2, oSub, oMod, oDiv, oPow, oLt, oLe, oGt, oGe, oNeg, mT, mAnd, mOr, mNot, mAndV, mOrV, mNotV, mIf, mCh, bLt, bLe, bGt, bGe, mNil, mCons, mFz, mNoP, mPart, mB, oInt1, oMin2, oMin3, oMax2, mNext, mAsgG, gN, mIfS, mRet, mRetN, mDrop, mBreak, mCont, mFzS, mYes, mSetVol, mSrc, mCall, Spec1.io, args, Rs.lend, Rs.arg, Rs.rd, Rs.ffz, Rs.own, Rs.slot, Rs.item, items, Rs.t, Rs.stays, mD0, oIs, OT.ty, mFld, Env.wipe, Env.lent, Option.map_none, nI, nL, nT, mLst, mTup, List.getElem?_cons_zero, List.getElem?_cons_succ, List.set_cons_zero, List.set_cons_succ, Option.some.injEq, exists_eq_left', exists_eq_left, true_and, and_true, List.map_cons, List.map_nil, List.cons_append, List.nil_append, List.append_nil, Option.bind_some, Option.map_some, List.length_cons, List.length_nil, ite_true, ite_false, Bool.false_eq_true, if_true, if_false, eq_self_iff_true, reduceCtorEq, false_and, and_false, w_add, w_mul, w_ix_vol, w_ix_lst, w_ix_tup, w_ix_rol, w_ix_br, w_ix_brT, w_len_lst, w_len_tup, w_len_rol, w_len_br, w_len_nw, outs_nil, ffz_lst, ffz_tup, List.replicate_succ, List.replicate_zero, List.length_map, decide_eq_true_eq, Bool.not_eq_true', decide_eq_false_iff_not, Bool.not_true, Bool.not_false, Bool.true_eq_false, w_eq_int, w_setP, pk0, pkc1, pkc2, Bool.bne_false, Bool.bne_true] at h ⊢
  refine ⟨by omega, ⟨by omega, by decide⟩, .inr (by omega), .inl (by omega), .inr (by omega), by omega, ⟨by omega, by decide⟩, .inl ?_, by omega, ⟨by omega, by decide⟩, .inl ?_, by omega, h _⟩
  · omega
  · have e : ∀ z : Int, -2 ^ 64 < z % 2147483587 ∧ z % 2147483587 < 2 ^ 64 := fun z => by omega
    exact e _

theorem wp_law_draw_source (cs : Cs) (ss : R.Env) (Q : Rs → R.Env → Prop) (h : (F_law_draw_source cs).io ss Q) : m_law_draw_source cs (ss ++ List.replicate 1 none) { nx := fun e => Q (.fz .non) (outs [] 2 e), rt := fun r e => Q r (outs [] 2 e) } := by
  obtain ⟨ns, k, rfl, h⟩ := h
  simp only [m_law_draw_source, mSeq, scrD, nI, mVar, mC, mOp, mUn, i2, oSub, oMod, oDiv, oPow, oLt, oLe, oGt, oGe, oNeg, mT, mAnd, mOr, mNot, mAndV, mOrV, mNotV, mIf, mCh, bLt, bLe, bGt, bGe, mNil, mCons, mFz, mNoP, mPart, mB, oInt1, oMin2, oMin3, oMax2, mNext, mAsgG, gN, mIfS, mRet, mRetN, mDrop, mBreak, mCont, mFzS, mYes, mSetVol, mSrc, mCall, Spec1.io, args, Rs.lend, Rs.arg, Rs.rd, Rs.ffz, Rs.own, Rs.slot, Rs.item, items, Rs.t, Rs.stays, mD0, oIs, OT.ty, mFld, Env.wipe, Env.lent, Option.map_none, nI, nL, nT, mLst, mTup, List.getElem?_cons_zero, List.getElem?_cons_succ, List.set_cons_zero, List.set_cons_succ, Option.some.injEq, exists_eq_left', exists_eq_left, true_and, and_true, List.map_cons, List.map_nil, List.cons_append, List.nil_append, List.append_nil, Option.bind_some, Option.map_some, List.length_cons, List.length_nil, ite_true, ite_false, Bool.false_eq_true, if_true, if_false, eq_self_iff_true, reduceCtorEq, false_and, and_false, w_add, w_mul, w_ix_vol, w_ix_lst, w_ix_tup, w_ix_rol, w_ix_br, w_ix_brT, w_len_lst, w_len_tup, w_len_rol, w_len_br, w_len_nw, outs_nil, ffz_lst, ffz_tup, List.replicate_succ, List.replicate_zero, List.length_map, decide_eq_true_eq, Bool.not_eq_true', decide_eq_false_iff_not, Bool.not_true, Bool.not_false, Bool.true_eq_false, w_eq_int, w_setP, pk0, pkc1, pkc2, Bool.bne_false, Bool.bne_true] at h ⊢
  split
  · rename_i hk
    have hk : (k : Int) < (ns.length : Int) := by simpa using hk
    have e : at' (ns.map D.int) (k : Int) = some (.int ns[k]) := at_nat (by rw [List.getElem?_map, List.getElem?_eq_getElem (by omega)] <;> rfl)
    exact ⟨_, e, _, e, by unfold sizeL; omega, h⟩
  · exact ⟨ns, 0, rfl, fun x => ⟨trivial, x, _, rfl, fun y => ⟨trivial, by unfold sizeL; omega, h⟩⟩⟩

theorem wp_law_draw (cs : Cs) (ss : R.Env) (Q : Rs → R.Env → Prop) (h : (F_law_draw cs).io ss Q) : m_law_draw cs (ss ++ List.replicate 1 none) { nx := fun e => Q (.fz .non) (outs [] 2 e), rt := fun r e => Q r (outs [] 2 e) } := by
  obtain ⟨ps, b, rfl, h0, h1, h⟩ := h
  simp only [m_law_draw, mSeq, F_law_mix, mVar, mC, mOp, mUn, i2, oSub, oMod, oDiv, oPow, oLt, oLe, oGt, oGe, oNeg, mT, mAnd, mOr, mNot, mAndV, mOrV, mNotV, mIf, mCh, bLt, bLe, bGt, bGe, mNil, mCons, mFz, mNoP, mPart, mB, oInt1, oMin2, oMin3, oMax2, mNext, mAsgG, gN, mIfS, mRet, mRetN, mDrop, mBreak, mCont, mFzS, mYes, mSetVol, mSrc, mCall, Spec1.io, args, Rs.lend, Rs.arg, Rs.rd, Rs.ffz, Rs.own, Rs.slot, Rs.item, items, Rs.t, Rs.stays, mD0, oIs, OT.ty, mFld, Env.wipe, Env.lent, Option.map_none, nI, nL, nT, mLst, mTup, List.getElem?_cons_zero, List.getElem?_cons_succ, List.set_cons_zero, List.set_cons_succ, Option.some.injEq, exists_eq_left', exists_eq_left, true_and, and_true, List.map_cons, List.map_nil, List.cons_append, List.nil_append, List.append_nil, Option.bind_some, Option.map_some, List.length_cons, List.length_nil, ite_true, ite_false, Bool.false_eq_true, if_true, if_false, eq_self_iff_true, reduceCtorEq, false_and, and_false, w_add, w_mul, w_ix_vol, w_ix_lst, w_ix_tup, w_ix_rol, w_ix_br, w_ix_brT, w_len_lst, w_len_tup, w_len_rol, w_len_br, w_len_nw, outs_nil, ffz_lst, ffz_tup, List.replicate_succ, List.replicate_zero, List.length_map, decide_eq_true_eq, Bool.not_eq_true', decide_eq_false_iff_not, Bool.not_true, Bool.not_false, Bool.true_eq_false, w_eq_int, w_setP, pk0, pkc1, pkc2, Bool.bne_false, Bool.bne_true] at h ⊢
  refine ⟨by omega, by omega, fun x => ⟨by decide, ?_⟩⟩
  have hm : ∀ y : Int, 0 ≤ y % b ∧ y % b < b := fun y => ⟨Int.emod_nonneg _ (by omega), Int.emod_lt_of_pos _ h0⟩
  split
  · refine ⟨by omega, by omega, fun y => ⟨h0, by omega, by omega, fun z => ⟨⟨h0, log2_lt h0 h1⟩, by omega, by omega, h _ (hm y).1 (hm y).2⟩⟩⟩
  · refine ⟨by omega, by omega, fun y => ⟨by omega, by omega, by omega, by omega, fun z => ⟨by omega, by omega, fun u => ⟨_, _, rfl, fun v => ⟨h0, h _ (hm v).1 (hm v).2⟩⟩⟩⟩⟩

theorem wp_law_name_for (cs : Cs) (ss : R.Env) (Q : Rs → R.Env → Prop) (h : (F_law_name_for cs).io ss Q) : m_law_name_for cs (ss ++ List.replicate 1 none) { nx := fun e => Q (.fz .non) (outs [] 1 e), rt := fun r e => Q r (outs [] 1 e) } := by
  obtain ⟨n, rfl, hn, h⟩ := h
  unfold m_law_name_for
  refine s_seq fun K hK => ?_
  refine ⟨trivial, hK _ ?_⟩
  clear hK
  refine s_seq fun K hK => ?_
  refine while_of (fun m e => ∃ z : PySem.Str, e = [fz (.int ((m : Int) - 1)), fz (.str z)] ∧ (∀ c ∈ z.cps.toList, 97 ≤ c ∧ c ≤ 122) ∧ m * 26 ^ z.cps.toList.length + lval z.cps.toList = n + 1) (n + 1) ⟨"", ?_, ?_, ?_⟩ ?_
  · show [fz (.int (n : Int)), fz (.str "")] = _
    rw [show ((n + 1 : Nat) : Int) - 1 = (n : Int) by omega]
  · intro c hc
    have e : (("" : PySem.Str)).cps.toList = [] := by decide +kernel
    rw [e] at hc
    cases hc
  · have e : (("" : PySem.Str)).cps.toList = [] := by decide +kernel
    rw [e]
    simp [lval]
  rintro m e ⟨z, rfl, hz, hv⟩
  have hge := lval_ge (l := z.cps.toList) fun c hc => (hz c hc).1
  have hlv : lval z.cps.toList ≤ 20001 := by omega
  have hlen : z.cps.toList.length ≤ 4 := by
    apply Classical.byContradiction
    intro q
    have := Nat.pow_le_pow_right (n := 26) (by omega) (show 5 ≤ z.cps.toList.length by omega)
    omega
  refine ⟨decide ((0 : Int) ≤ (m : Int) - 1), fun P hP => ⟨_, rfl, trivial, hP⟩, fun hb => ?_, fun hb => hK _ ?_⟩
  · have hm := of_decide_eq_true hb
    clear hK
    obtain ⟨k, rfl⟩ : ∃ k, m = k + 1 := ⟨m - 1, by omega⟩
    have hki : ((k + 1 : Nat) : Int) - 1 = (k : Int) := by omega
    rw [hki]
    have hc26 : k % 26 < 26 := Nat.mod_lt _ (by omega)
    refine s_seq fun K hK => ?_
    refine ⟨_, rfl, by omega, ?_, 97 + k % 26, ?_, _, rfl, ?_, trivial, hK _ ?_⟩
    · show abc.length ≤ sizeL
      rw [len_cps, abc_eq]
      unfold sizeL
      simp
    · show at' abc.cps.toList ((k : Int) % 26) = _
      rw [abc_eq, show ((k : Int) % 26) = ((k % 26 : Nat) : Int) by omega]
      refine at_nat ?_
      rw [List.getElem?_range' hc26]
      simp
    · show (1 : Nat) + z.length ≤ sizeL
      rw [len_cps]
      unfold sizeL
      omega
    clear hK
    have hcps : ((⟨#[97 + k % 26]⟩ : PySem.Str) ++ z).cps.toList = (97 + k % 26) :: z.cps.toList := by
      show ((#[97 + k % 26] : Array Nat) ++ z.cps).toList = _
      simp
    refine ⟨_, rfl, ⟨by omega, by decide⟩, trivial, trivial, k / 26, by omega, (⟨#[97 + k % 26]⟩ : PySem.Str) ++ z, ?_, ?_, ?_⟩
    · show [fz (.int ((k : Int) / 26 - 1)), _] = _
      rw [show ((k / 26 : Nat) : Int) = (k : Int) / 26 by omega]
    · intro c hc
      rw [hcps] at hc
      rcases List.mem_cons.mp hc with rfl | hc
      · omega
      · exact hz c hc
    · rw [hcps, lval_cons, List.length_cons, Nat.pow_succ, ← hv, ← Nat.add_assoc]
      congr 1
      rw [show 97 + k % 26 - 96 = k % 26 + 1 by omega, Nat.mul_comm (26 ^ z.cps.toList.length) 26, ← Nat.mul_assoc, ← Nat.add_mul]
      congr 1
      omega
  · have hm := of_decide_eq_false hb
    have : m = 0 := by omega
    subst this
    rw [Nat.zero_mul, Nat.zero_add] at hv
    refine ⟨_, rfl, trivial, h z ⟨?_, by omega, hz⟩ hv⟩
    apply Nat.pos_of_ne_zero
    intro q
    rw [List.eq_nil_of_length_eq_zero q] at hv
    cases hv

theorem wp_law_draw_names (cs : Cs) (ss : R.Env) (Q : Rs → R.Env → Prop) (h : (F_law_draw_names cs).io ss Q) : m_law_draw_names cs (ss ++ List.replicate 3 none) { nx := fun e => Q (.fz .non) (outs [] 2 e), rt := fun r e => Q r (outs [] 2 e) } := by
  obtain ⟨ps, n, rfl, h1, h40, h⟩ := h
  unfold m_law_draw_names
  refine s_seq fun K hK => ?_
  refine ⟨[.leaf (.int 0), .leaf (.int 20), .leaf (.int 700), .leaf (.int 18000)], rfl, by show 4 ≤ sizeL; unfold sizeL; omega, _, rfl, rfl, ps, 4, rfl, by omega, by omega, fun x hx hx2 => ⟨trivial, ?_⟩⟩
  have hx3 : ∃ m : Nat, at' [R.D.int 0, .int 20, .int 700, .int 18000] x = some (nI m) ∧ m ≤ 18000 := by
    have : x = 0 ∨ x = 1 ∨ x = 2 ∨ x = 3 := by omega
    rcases this with rfl | rfl | rfl | rfl
    · exact ⟨0, rfl, by omega⟩
    · exact ⟨20, rfl, by omega⟩
    · exact ⟨700, rfl, by omega⟩
    · exact ⟨18000, rfl, by omega⟩
  obtain ⟨m, em, hm⟩ := hx3
  refine ⟨nI m, em, trivial, hK _ ?_⟩
  clear hK
  refine s_seq fun K hK => ?_
  refine ⟨[.leaf (.int 1), .leaf (.int 3), .leaf (.int 7), .leaf (.int 11)], rfl, by show 4 ≤ sizeL; unfold sizeL; omega, _, rfl, rfl, ps, 4, rfl, by omega, by omega, fun y hy hy2 => ⟨trivial, ?_⟩⟩
  have hy3 : ∃ s : Nat, at' [R.D.int 1, .int 3, .int 7, .int 11] y = some (nI s) ∧ 1 ≤ s ∧ s ≤ 11 ∧ (s = 1 ∨ s ∈ [3, 7, 11]) := by
    have : y = 0 ∨ y = 1 ∨ y = 2 ∨ y = 3 := by omega
    rcases this with rfl | rfl | rfl | rfl
    · exact ⟨1, rfl, by omega, by omega, .inl rfl⟩
    · exact ⟨3, rfl, by omega, by omega, .inr (by decide)⟩
    · exact ⟨7, rfl, by omega, by omega, .inr (by decide)⟩
    · exact ⟨11, rfl, by omega, by omega, .inr (by decide)⟩
  obtain ⟨s, es, hs1, hs2, hs3⟩ := hy3
  refine ⟨nI s, es, trivial, hK _ ?_⟩
  clear hK
  refine s_seq fun K hK => ?_
  have fin : ∀ s : Nat, 1 ≤ s → s ≤ 11 → Nat.gcd s n = 1 → K [fz (.vol 0 ps), fz (nI n), fz (nI m), fz (nI s), none] := by
    intro s hs1 hs2 hg
    refine hK _ ?_
    clear hK
    refine ⟨_, rfl, by omega, by omega, fun i acc => ∃ zs : List PySem.Str, zs.length = i ∧ acc = zs.map (fun z => .leaf (.str z)) ∧ (∀ z ∈ zs, NameOk z) ∧ zs.map (fun z => lval z.cps.toList) = (List.range i).map fun j => m + (j * s) % n + 1, ⟨[], rfl, rfl, by simp, rfl⟩, ?_, ?_⟩
    · rintro i r acc hr ⟨zs, hl, rfl, hok, hlv⟩
      have hi := (List.getElem?_eq_some_iff.mp hr).1
      rw [rng_len] at hi
      have hi : i < n := by omega
      rw [rng_get hr]
      refine ⟨by rw [List.length_map, hl]; unfold sizeL; omega, trivial, rfl, _, rfl, _, rfl, _, rfl, .inr ⟨by omega, by omega⟩, _, rfl, by omega, rfl, m + (i * s) % n, ?_, ?_, fun z hz hzv => ⟨trivial, _, rfl, zs ++ [z], by rw [List.length_append, List.length_singleton, hl], by rw [List.map_append] <;> rfl, ?_, ?_⟩⟩
      · show [fz (.int ((m : Int) + (0 + (i : Int)) * (s : Int) % (n : Int)))] = [fz (nI (m + (i * s) % n))]
        rw [Int.zero_add]
        rfl
      · have := Nat.mod_lt (i * s) (show 0 < n by omega)
        omega
      · intro w hw
        rcases List.mem_append.mp hw with hw | hw
        · exact hok w hw
        · rw [List.mem_singleton.mp hw]
          exact hz
      · rw [List.map_append, hlv, List.range_succ, List.map_append]
        show _ ++ [lval z.cps.toList] = _ ++ [m + i * s % n + 1]
        rw [hzv]
    · rintro acc ⟨zs, hl, rfl, hok, hlv⟩
      rw [rng_len] at hl hlv
      have hl : zs.length = n := by omega
      rw [show ((n : Int)).toNat = n by omega] at hlv
      have eg : (List.range n).map (fun k => zs.getD k "") = zs := by
        apply List.ext_getElem
        · rw [List.length_map, List.length_range, hl]
        · intro k a b
          rw [List.getElem_map, List.getElem_range, List.getD_eq_getElem?_getD, List.getElem?_eq_getElem b] <;> rfl
      have h2 := h (fun k => zs.getD k "") ⟨?_, ?_⟩
      · have e3 : (List.range n).map (fun k => OT.leaf (nS (fun k => zs.getD k "") k)) = zs.map fun z => .leaf (.str z) := by
          have := congrArg (List.map fun z => OT.leaf (R.D.str z)) eg
          rw [List.map_map] at this
          exact this
        rw [e3] at h2
        exact ⟨trivial, h2⟩
      · rw [eg]
        have nd : ((List.range n).map fun j => m + (j * s) % n + 1).Nodup := List.pairwise_map.mpr (List.nodup_range.imp_of_mem fun ha hb hne e => hne (stride_inj hg (List.mem_range.mp ha) (List.mem_range.mp hb) (by omega)))
        rw [← hlv] at nd
        exact (List.pairwise_map.mp nd).imp fun hne e => hne (congrArg (fun z : PySem.Str => lval z.cps.toList) e)
      · intro k hk
        have hk := List.mem_range.mp hk
        rw [List.getD_eq_getElem?_getD, List.getElem?_eq_getElem (by omega)]
        exact hok _ (List.getElem_mem _)
  by_cases hd : n % s = 0
  · refine if_of true (fun P hP => ⟨_, rfl, _, rfl, by show (0 : Int) < (s : Int); omega, ?_⟩) (fun _ => ⟨trivial, fin 1 (by omega) (by omega) (Nat.gcd_one_left n)⟩) (fun q => absurd q (by decide))
    dsimp only [mC]
    show oEq false (.fz (.int ((n : Int) % (s : Int)))) (.fz (.int 0)) _
    rw [w_eq_int, decide_eq_true (by omega)]
    exact hP
  · refine if_of false (fun P hP => ⟨_, rfl, _, rfl, by show (0 : Int) < (s : Int); omega, ?_⟩) (fun q => absurd q (by decide)) (fun _ => fin s hs1 hs2 ?_)
    · dsimp only [mC]
      show oEq false (.fz (.int ((n : Int) % (s : Int)))) (.fz (.int 0)) _
      rw [w_eq_int, decide_eq_false (by omega)]
      exact hP
    · rcases hs3 with rfl | hs3
      · exact Nat.gcd_one_left n
      · exact stride_cop h40 h1 hs3 hd

theorem wp_law_draw_cups (cs : Cs) (ss : R.Env) (Q : Rs → R.Env → Prop) (h : (F_law_draw_cups cs).io ss Q) : m_law_draw_cups cs (ss ++ List.replicate 5 none) { nx := fun e => Q (.fz .non) (outs [] 4 e), rt := fun r e => Q r (outs [] 4 e) } := by
  obtain ⟨ps, mx, top, bud, rfl, hm1, hm2, ht1, ht2, hb, h⟩ := h
  unfold m_law_draw_cups
  refine s_seq fun K hK => ?_
  refine ⟨[], rfl, Nat.zero_le _, trivial, hK _ ?_⟩
  clear hK
  refine s_seq fun K hK => ?_
  refine ⟨_, rfl, trivial, hK _ ?_⟩
  clear hK
  refine s_seq fun K hK => ?_
  refine ⟨_, rfl, _, rfl, rfl, ps, mx, rfl, by omega, by omega, fun y hy hy2 => ⟨trivial, by omega, by omega, rfl, ?_⟩⟩
  refine ⟨fun i e => ∃ (sz : List Nat) (left : Nat) (y6 y7 y8 : Option Rs), sz.length = i ∧ (∀ s ∈ sz, 1 ≤ s ∧ s ≤ 9) ∧ sz.sum + left = sz.length + bud ∧ e = [fz (.vol 0 ps), fz (nI mx), fz (nI top), fz (nI bud), some (.nw (.lst (sz.map fun n => .leaf (nI n)))), fz (nI left), y6, y7, y8], ⟨[], bud, _, _, _, rfl, (fun x hx => absurd hx (by simp)), by simp, rfl⟩, ?_, ?_⟩
  · clear hK
    rintro i r e hr ⟨sz, left, y6, y7, y8, hl, hs, hsum, rfl⟩
    have hi := (List.getElem?_eq_some_iff.mp hr).1
    rw [rng_len] at hi
    rw [rng_get hr]
    refine ⟨trivial, ?_⟩
    refine s_seq fun K hK => ?_
    refine ⟨_, rfl, _, rfl, _, rfl, [.leaf (.int 2), .leaf (.int 3), .leaf (nI top)], rfl, by show 3 ≤ sizeL; unfold sizeL; omega, _, rfl, rfl, ps, 3, rfl, by omega, by omega, fun x hx hx2 => ⟨trivial, ?_⟩⟩
    have hx3 : ∃ m : Nat, at' [R.D.int 2, .int 3, nI top] x = some (nI m) ∧ 1 ≤ m ∧ m ≤ 9 := by
      have : x = 0 ∨ x = 1 ∨ x = 2 := by omega
      rcases this with rfl | rfl | rfl
      · exact ⟨2, rfl, by omega, by omega⟩
      · exact ⟨3, rfl, by omega, by omega⟩
      · exact ⟨top, rfl, by omega, by omega⟩
    obtain ⟨m, em, hmm1, hmm2⟩ := hx3
    refine ⟨nI m, em, rfl, ps, m, rfl, by omega, by omega, fun z hz hz2 => ⟨trivial, trivial, hK _ ?_⟩⟩
    clear hK
    obtain ⟨s, es, hs1, hs2, hs3⟩ : ∃ s : Nat, 1 + min (left : Int) z = (s : Int) ∧ 1 ≤ s ∧ s ≤ 9 ∧ s ≤ left + 1 := ⟨(1 + min (left : Int) z).toNat, by omega, by omega, by omega, by omega⟩
    rw [show (R.D.int (1 + min (left : Int) z)) = nI s by rw [es] <;> rfl]
    refine s_seq fun K hK => ?_
    refine ⟨⟨_, rfl⟩, _, rfl, by rw [List.length_map, hl]; unfold sizeL; omega, _, rfl, _, rfl, hK _ ?_⟩
    clear hK
    refine ⟨_, rfl, _, rfl, trivial, trivial, trivial, ?_⟩
    refine ⟨sz ++ [s], left + 1 - s, some (.fz (.int (0 + (i : Int)))), some (.fz (nI s)), y8, by rw [List.length_append, List.length_singleton, hl], fun x hx => ?_, ?_, ?_⟩
    · rcases List.mem_append.mp hx with hx | hx
      · exact hs x hx
      · rw [List.mem_singleton.mp hx]
        exact ⟨hs1, hs2⟩
    · rw [List.sum_append, List.length_append, List.length_singleton, List.sum_singleton]
      omega
    · rw [← snoc_leaf]
      show [_, _, _, _, _, fz (.int ((left : Int) - ((s : Int) - 1))), _, _, _] = [_, _, _, _, _, fz (.int ((left + 1 - s : Nat) : Int)), _, _, _]
      rw [show (left : Int) - ((s : Int) - 1) = ((left + 1 - s : Nat) : Int) by omega] <;> rfl
  · rintro e ⟨sz, left, y6, y7, y8, hl, hs, hsum, rfl⟩
    rw [rng_len] at hl
    refine hK _ ?_
    clear hK
    have hlen : 1 ≤ sz.length ∧ sz.length ≤ mx := by omega
    have hcut : cut' (sz.map nI) none (some (-1)) = (sz.take (sz.length - 1)).map nI := by rw [cut_last, List.length_map, List.map_take]
    refine s_seq fun K hK => ?_
    refine ⟨_, rfl, rfl, ps, 3, rfl, by omega, by omega, fun c hc hc2 => ⟨trivial, trivial, hK _ ?_⟩⟩
    clear hK
    refine ⟨_, nL sz, rfl, by rw [leafs_nI]; exact fz_lst _, ?_⟩
    refine ⟨_, rfl, ?_⟩
    simp only [mCons, mNil, mLc]
    refine it_sl (ds := sz.map nI) (l := none) (h := some (-1)) rfl (fun _ q => q) (fun _ q => q) ?_
    rw [hcut]
    refine ⟨fun i acc => ∃ fw : List Nat, fw.length = i ∧ (∀ j, j < i → pk fw j < pk sz j) ∧ acc = fw.map fun n => .leaf (nI n), ⟨[], rfl, (fun j hj => absurd hj (Nat.not_lt_zero j)), rfl⟩, ?_, ?_⟩
    · rintro i r acc hr ⟨fw, hf, hf2, rfl⟩
      obtain ⟨hi, rfl⟩ := get_nI hr
      rw [List.length_take] at hi
      have ht : pk (sz.take (sz.length - 1)) i = pk sz i := by
        rw [pk_lt (by rw [List.length_take]; omega), pk_lt (by omega), List.getElem_take]
      rw [ht]
      have h1 := hs _ (pk_mem (show i < sz.length by omega))
      refine ⟨by rw [List.length_map, hf]; unfold sizeL; omega, trivial, rfl, ?_⟩
      refine ⟨_, rfl, trivial, _, rfl, _, rfl, rfl, ps, _, rfl, by omega, by omega, fun z hz hz2 => ⟨trivial, _, rfl, by show 3 ≤ sizeL; unfold sizeL; omega, _, rfl, ?_⟩⟩
      have hx3 : ∃ f : Nat, at' [R.D.int 0, .int ((pk sz i : Nat) - 1), .int z] c = some (nI f) ∧ f < pk sz i := by
        have : c = 0 ∨ c = 1 ∨ c = 2 := by omega
        rcases this with rfl | rfl | rfl
        · exact ⟨0, rfl, by omega⟩
        · exact ⟨pk sz i - 1, by rw [show nI (pk sz i - 1) = .int ((pk sz i : Nat) - 1) by (show R.D.int ((pk sz i - 1 : Nat) : Int) = _; rw [show ((pk sz i - 1 : Nat) : Int) = (pk sz i : Int) - 1 by omega])] <;> rfl, by omega⟩
        · exact ⟨z.toNat, by rw [show nI z.toNat = .int z by (show R.D.int ((z.toNat : Nat) : Int) = _; rw [Int.toNat_of_nonneg hz])] <;> rfl, by omega⟩
      obtain ⟨f, ef, hf3⟩ := hx3
      refine ⟨nI f, ef, .leaf (nI f), rfl, fw ++ [f], by rw [List.length_append, List.length_singleton, hf], fun j hj => ?_, ?_⟩
      · rw [pk_snoc]
        split
        · exact hf2 j (by omega)
        · have : j = i := by omega
          subst this
          rw [if_pos (by omega)]
          omega
      · rw [← snoc_leaf]
    · rintro acc ⟨fw, hf, hf2, rfl⟩
      rw [List.length_map, List.length_map, List.length_take] at hf
      refine ⟨_, rfl, by show 2 ≤ sizeL; unfold sizeL; omega, trivial, ?_⟩
      exact h sz fw ⟨by omega, by omega, hs, by omega, by omega, fun j hj => hf2 j (by rw [List.length_map, List.length_map, List.length_take]; omega)⟩ hlen.2 (by omega)

theorem wp_law_min_members (cs : Cs) (ss : R.Env) (Q : Rs → R.Env → Prop) (h : (F_law_min_members cs).io ss Q) : m_law_min_members cs (ss ++ List.replicate 1 none) { nx := fun e => Q (.fz .non) (outs [] 1 e), rt := fun r e => Q r (outs [] 1 e) } := by
  obtain ⟨sz, rfl, h1, h2, h⟩ := h
  have hs := sum_pred h1
  unfold m_law_min_members
  show mLc _ _ mYes _ _ [fz (nL sz), none] fun x => oSum [x.ffz] _
  refine lc_nums ((sz.map nI).map Rs.fz) (sz.map (· - 1)) (fun Q' q => it_var_lst rfl q) (by rw [List.length_map, List.length_map, List.length_map]) (by rw [List.length_map]; unfold sizeL; omega) (fun k r hr P hP => ?_) ?_
  · obtain ⟨hk, rfl⟩ := get_nI hr
    have h1 := h1 _ (pk_mem hk)
    rw [pk_map (g := (· - 1)) hk] at hP
    refine ⟨trivial, rfl, _, rfl, trivial, ?_⟩
    show P (.fz (.int ((pk sz k : Nat) - 1)))
    rw [show (((pk sz k : Nat) : Int) - 1) = ((pk sz k - 1 : Nat) : Int) by omega]
    exact hP
  · rw [ffz_lst]
    refine ⟨_, _, rfl, ints_nI _, ?_⟩
    rw [sum_cast]
    refine ⟨trivial, ?_⟩
    rw [show (1 + (((sz.map (· - 1)).sum : Nat) : Int)) = ((1 + (sz.sum - sz.length) : Nat) : Int) by omega]
    exact h

theorem wp_law_draw_state (cs : Cs) (ss : R.Env) (Q : Rs → R.Env → Prop) (h : (F_law_draw_state cs).io ss Q) : m_law_draw_state cs (ss ++ List.replicate 8 none) { nx := fun e => Q (.fz .non) (outs [] 3 e), rt := fun r e => Q r (outs [] 3 e) } := by
  obtain ⟨ps, sz, fw, more, rfl, hR, hm, h⟩ := h
  have hl := hR.leastN
  have h30 := hR.l1
  have hs1 : ∀ s ∈ sz, 1 ≤ s := fun s m => (hR.s1 s m).1
  have hsp := sum_pred hs1
  unfold m_law_draw_state
  refine s_seq fun K hK => ?_
  refine ⟨_, rfl, rfl, sz, rfl, hs1, h30, trivial, trivial, hK _ ?_⟩
  clear hK
  have hL : 1 + (sz.sum - sz.length) = least sz (fw.length + 1) := by omega
  rw [hL]
  generalize hLd : least sz (fw.length + 1) = L at *
  refine s_seq fun K hK => ?_
  refine ⟨_, rfl, _, rfl, _, rfl, _, rfl, _, rfl, trivial, rfl, ps, _, rfl, by omega, by omega, fun y hy hy2 => ⟨trivial, ?_⟩⟩
  obtain ⟨k, rfl⟩ : ∃ k : Nat, y = (k : Int) := ⟨y.toNat, by omega⟩
  refine ⟨rfl, ps, L + k, rfl, by omega, by omega, fun g hg => ⟨trivial, sL g (List.range (L + k)), by rw [leafs_nS]; exact fz_lst _, trivial, hK _ ?_⟩⟩
  clear hK
  generalize hN : L + k = N at *
  have hll : (((List.range N).map (nS g)).map OT.leaf).length = N := by rw [List.length_map, List.length_map, List.length_range]
  refine s_seq fun K hK => ?_
  refine ⟨_, rfl, _, rfl, _, rfl, rfl, ps, (N : Int), ?_, by omega, by omega, fun t ht ht2 => ⟨trivial, trivial, hK _ ?_⟩⟩
  · show [_, fz (.int ((((List.range N).map (nS g)).map OT.leaf).length : Nat))] = _
    rw [hll]
    rfl
  clear hK
  obtain ⟨t, rfl⟩ : ∃ k : Nat, t = (k : Int) := ⟨t.toNat, by omega⟩
  refine s_seq fun K hK => ?_
  dsimp only [mAsgG, mFz, mOp, mSl, mPart, mNoP, mVar]
  refine ⟨_, rfl, _, rfl, w_sl (ds := (List.range N).map (nS g)) ⟨_, rfl, _, rfl, w_sl (ds := (List.range N).map (nS g)) ?_⟩⟩
  rw [cutA, cutB, ← List.map_take, ← List.map_drop]
  refine w_add_nw (a := ((List.range N).drop t).map (nS g)) (b := ((List.range N).take t).map (nS g)) (by rw [List.length_map, List.length_map, List.length_drop, List.length_take, List.length_range]; unfold sizeL; omega) ?_
  rw [← List.map_append]
  have hp : ((List.range N).drop t ++ (List.range N).take t).Perm (List.range N) := List.perm_append_comm.trans (.of_eq (List.take_append_drop t _))
  generalize (List.range N).drop t ++ (List.range N).take t = l0 at *
  refine ⟨sL g l0, fz_lst _, trivial, hK _ ?_⟩
  clear hK
  refine s_seq fun K hK => ?_
  refine ⟨[], rfl, Nat.zero_le _, trivial, hK _ ?_⟩
  clear hK
  refine s_seq fun K hK => ?_
  refine ⟨_, rfl, rfl, ps, 3, rfl, by omega, by omega, fun z hz hz2 => ⟨trivial, ?_⟩⟩
  dsimp only [mC]
  show oEq false (.fz (.int z)) (.fz (.int 0)) _
  rw [w_eq_int]
  refine ⟨trivial, hK _ ?_⟩
  clear hK
  generalize (decide (z = 0) != false) = b
  have hl0 : l0.length = N := by rw [hp.length_eq, List.length_range]
  refine s_seq fun K hK => ?_
  refine it_var_lst (ds := sz.map nI) rfl ⟨rfl, fun i e => ∃ (rem : List Nat) (cts : List (List Nat)) (y9 y10 : Option Rs), Val (sz.take i) cts ∧ (memb rem cts).Perm (List.range N) ∧
    e = [fz (.vol 0 ps), fz (nL sz), fz (nI more), fz (nI L), fz (sL g (List.range N)), fz (nI t), fz (sL g rem), some (.nw (.lst (ownS g cts))), fz (.bl b), y9, y10], ⟨l0, [], _, _, .nil, by unfold memb; rw [List.flatten_nil, List.append_nil]; exact hp, rfl⟩, ?_, ?_⟩
  · clear hK
    rintro i r e hr ⟨rem, cts, y9, y10, hv, hpm, rfl⟩
    obtain ⟨hi, rfl⟩ := get_nI hr
    have h1 := hR.s1 _ (pk_mem hi)
    have hpl := hpm.length_eq
    unfold memb at hpl
    rw [List.length_append, List.length_range] at hpl
    have hvl := val_len hv
    rw [List.length_take] at hvl
    refine ⟨trivial, ?_⟩
    refine s_seq fun K hK => ?_
    refine ⟨_, rfl, _, rfl, rfl, ps, _, rfl, by omega, by omega, fun w hw hw2 => ⟨trivial, [.leaf (.int w), .leaf (.int 0)], rfl, by show 2 ≤ sizeL; unfold sizeL; omega, _, rfl, ?_⟩⟩
    have hc : ∃ c : Nat, at' [R.D.int w, .int 0] (if b then 1 else 0) = some (nI c) ∧ c < pk sz i := by
      cases b with
      | true => exact ⟨0, rfl, by omega⟩
      | false => exact ⟨w.toNat, by rw [show nI w.toNat = .int w by (show R.D.int ((w.toNat : Nat) : Int) = _; rw [Int.toNat_of_nonneg hw])] <;> rfl, by omega⟩
    obtain ⟨c, ec, hc⟩ := hc
    refine ⟨nI c, ec, trivial, hK _ ?_⟩
    clear hK
    refine s_seq fun K hK => ?_
    dsimp only [mAppend, mSl, mPart, mNoP, mVar]
    refine ⟨⟨_, rfl⟩, _, rfl, by rw [ownS_len]; unfold sizeL; omega, _, rfl, _, rfl, w_sl (ds := rem.map (nS g)) ⟨_, rfl, hK _ ?_⟩⟩
    clear hK
    dsimp only [mAsgG, mFz, mSl, mPart, mNoP, mVar]
    refine ⟨_, rfl, _, rfl, w_sl (ds := rem.map (nS g)) ?_⟩
    rw [cutA, cutB, ← List.map_take, ← List.map_drop, ← leafs_nS]
    refine ⟨sL g (rem.drop c), by rw [leafs_nS]; exact fz_lst _, trivial, rem.drop c, cts ++ [rem.take c], fz (nI (pk sz i)), fz (nI c), ?_, ?_, ?_⟩
    · rw [take_snoc hi]
      exact val_snoc hv (by rw [List.length_take]; omega)
    · refine .trans ?_ hpm
      unfold memb
      rw [List.flatten_append, List.flatten_cons, List.flatten_nil, List.append_nil, ← List.append_assoc]
      refine List.perm_append_comm.trans ?_
      rw [← List.append_assoc, List.take_append_drop]
    · rw [← leafs_nS, ownS_snoc]
      rfl
  · rintro e ⟨rem, cts, y9, y10, hv, hpm, rfl⟩
    rw [List.length_map, List.length_map, List.take_length] at hv
    have hpl := hpm.length_eq
    unfold memb at hpl
    rw [List.length_append, totM_flat, List.length_range] at hpl
    refine hK _ ⟨_, sC g cts, rfl, ownS_fz g cts, _, rfl, _, rfl, _, rfl, by show 2 ≤ sizeL; unfold sizeL; omega, trivial, h g rem cts ⟨hv, hg.perm hpm, by rw [hLd]; omega, by omega⟩⟩

theorem wp_law_empty_cups (cs : Cs) (ss : R.Env) (Q : Rs → R.Env → Prop) (h : (F_law_empty_cups cs).io ss Q) : m_law_empty_cups cs (ss ++ List.replicate 1 none) { nx := fun e => Q (.fz .non) (outs [] 5 e), rt := fun r e => Q r (outs [] 5 e) } := by
  obtain ⟨sz, fw, g, old0, post0, x0, q0, hR, hV, hb, rfl, h⟩ := h
  have h30 := hR.l1
  have hl0 := hR.l0
  have hfl := hR.fl
  have hvl0 := val_len hV
  unfold m_law_empty_cups
  refine s_seq fun K hK => ?_
  refine ⟨_, rfl, sL g q0, fz_lst _, ?_⟩
  generalize hct : (old0 ++ [x0]) :: post0 = ct0 at *
  have hcl : ct0.length = sz.length := by rw [← hct, List.length_cons]; rw [List.length_cons] at hvl0; omega
  refine lc_any ((ct0.map (sL g)).map Rs.fz) true (fun k => .lst ((pc ct0 k).map fun n => .leaf (nS g n))) (fun Q' q => it_var_lst (ds := ct0.map (sL g)) rfl q) (by rw [List.length_map, List.length_map]; unfold sizeL; omega) (fun k r hr => ?_) ?_
  · obtain ⟨hk, rfl⟩ := get_sL hr
    refine ⟨trivial, rfl, _, rfl, _, rfl, ?_⟩
    rw [← leafs_nS]
    exact item_snoc (out := fun k => OT.lst ((pc ct0 k).map fun n => .leaf (nS g n)))
  rw [own_range]
  refine ⟨trivial, trivial, hK _ ?_⟩
  clear hK
  refine s_seq fun K hK => ?_
  refine while_of (fun m e => ∃ (pre : List (List Nat)) (q : List Nat) (y : Option Rs) (rest : List (List Nat)), m = sz.length - pre.length ∧ pre.length + rest.length = sz.length ∧ e = [fz (nL sz), fz (nL fw), fz (sL g q), some (.nw (.lst (ownS g (pre ++ rest)))), fz (nI pre.length), y] ∧
    ((rest = [] ∧ csc sz fw (old0 :: post0) x0 q0 = (pre, q)) ∨ ∃ old post x, rest = (old ++ [x]) :: post ∧ Val (sz.drop pre.length) (old :: post) ∧ q.length + old.length + totM post ≤ 64 ∧
      csc sz fw (old0 :: post0) x0 q0 = (pre ++ (csc (sz.drop pre.length) (fw.drop pre.length) (old :: post) x q).1, (csc (sz.drop pre.length) (fw.drop pre.length) (old :: post) x q).2))) sz.length ⟨[], q0, none, ct0, rfl, by rw [hcl]; exact Nat.zero_add _, rfl, .inr ⟨old0, post0, x0, hct.symm, hV, hb, rfl⟩⟩ ?_
  rintro m e ⟨pre, q, y, rest, rfl, hlen, rfl, hh⟩
  rcases hh with ⟨rfl, hc⟩ | ⟨old, post, x, rfl, hv, hb, hc⟩
  · rw [List.length_nil, Nat.add_zero] at hlen
    refine ⟨false, fun P hP => ?_, fun z => absurd z Bool.false_ne_true, fun _ => hK _ ?_⟩
    · refine mAnd_of false false (fun P hP => ⟨_, rfl, _, rfl, _, rfl, trivial, ?_⟩) (fun z => absurd z Bool.false_ne_true) hP
      show P (decide (((pre.length : Nat) : Int) < (((sz.map nI).map OT.leaf).length : Nat)))
      rw [List.length_map, List.length_map, decide_eq_false (by omega)]
      exact hP
    · rw [List.append_nil]
      refine ⟨_, _, rfl, ownS_fz g pre, _, rfl, _, rfl, _, rfl, by show 2 ≤ sizeL; unfold sizeL; omega, trivial, ?_⟩
      rw [hc] at h
      exact h
  · have hj : pre.length < sz.length := by rw [List.length_cons] at hlen; omega
    have hrl : (old ++ [x]).length = old.length + 1 := by rw [List.length_append, List.length_singleton]
    have hol : (ownS g (pre ++ (old ++ [x]) :: post)).length = sz.length := by rw [ownS_len, List.length_append]; exact hlen
    have hdr := drop_pk hj
    rw [hdr] at hv hc
    have hpl : post.length + (pre.length + 1) = sz.length := by rw [List.length_cons] at hlen; omega
    have ho : old.length < pk sz pre.length := by cases hv with | cons a _ => exact a
    have hvp : Val (sz.drop (pre.length + 1)) post := by cases hv with | cons _ a => exact a
    refine ⟨decide (old.length + 1 = pk sz pre.length), fun P hP => ?_, fun hb2 => ?_, fun hb2 => hK _ ?_⟩
    · refine mAnd_of true (decide (old.length + 1 = pk sz pre.length)) (fun P hP => ⟨_, rfl, _, rfl, _, rfl, trivial, ?_⟩) (fun _ P hP => ⟨_, rfl, _, rfl, _, _, rfl, at_nat ownS_at, _, rfl, _, rfl, _, rfl, _, at_get rfl hj, ?_⟩) hP
      · show P (decide (((pre.length : Nat) : Int) < (((sz.map nI).map OT.leaf).length : Nat)))
        rw [List.length_map, List.length_map, decide_eq_true (by omega)]
        exact hP
      · show oEq false (.fz (.int ((((old ++ [x]).map fun n => OT.leaf (nS g n)).length : Nat)))) (.fz (.int (pk sz pre.length : Nat))) _
        rw [w_eq_int, List.length_map, hrl]
        have : decide (((old.length + 1 : Nat) : Int) = (pk sz pre.length : Nat)) = decide (old.length + 1 = pk sz pre.length) := by
          by_cases z : old.length + 1 = pk sz pre.length
          · rw [decide_eq_true z, decide_eq_true (by omega)]
          · rw [decide_eq_false z, decide_eq_false (by omega)]
        rw [this, Bool.bne_false]
        exact hP
    · have hfull := of_decide_eq_true hb2
      clear hK
      have hfull2 : (old ++ [x]).length = pk sz pre.length := by rw [hrl]; exact hfull
      generalize hrow : old ++ [x] = row at *
      refine s_seq fun K hK => ?_
      refine ⟨⟨_, rfl⟩, _, rfl, ownS g (pre ++ row :: post), pre.length, rfl, ixN_nat (by rw [hol]; omega), by decide, .lst (row.map fun n => .leaf (nS g n)), tree_at rfl ?_, rfl, hK _ ?_⟩
      · show ((ownS g (pre ++ row :: post))[pre.length]?).bind _ = _
        rw [ownS_at]
        rfl
      clear hK
      refine s_seq fun K hK => ?_
      have hput : (OT.lst (ownS g (pre ++ row :: post))).put [pre.length] (.leaf .any) = .lst ((ownS g (pre ++ row :: post)).set pre.length (.leaf .any)) := put_kid (t := .lst (ownS g (pre ++ row :: post))) ownS_at
      have hp0 : put [fz (nL sz), fz (nL fw), fz (sL g q), some (.nw (.lst (ownS g (pre ++ row :: post)))), fz (nI pre.length), y] 3 ([] ++ [pre.length]) (.leaf .any) = [fz (nL sz), fz (nL fw), fz (sL g q), some (.nw (.lst ((ownS g (pre ++ row :: post)).set pre.length (.leaf .any)))), fz (nI pre.length), y] := by
        rw [put_at rfl]
        show [_, _, _, some (Rs.nw ((OT.lst (ownS g (pre ++ row :: post))).put [pre.length] (.leaf .any))), _, _] = _
        rw [hput]
      rw [hp0]
      have hset : ((ownS g (pre ++ row :: post)).set pre.length (.leaf .any)).set pre.length (.lst []) = ownS g (pre ++ [] :: post) := by
        rw [List.set_set]
        exact ownS_set (d := [])
      refine ⟨[], rfl, Nat.zero_le _, ⟨_, rfl⟩, _, rfl, _, pre.length, _, rfl, rfl, ixN_nat (by rw [List.length_set, hol]; omega), hK _ ?_⟩
      clear hK
      show mSeq _ _ [fz (nL sz), fz (nL fw), fz (sL g q), some (.nw (.lst (((ownS g (pre ++ row :: post)).set pre.length (.leaf .any)).set pre.length (.lst [])))), fz (nI pre.length), some (.nw (.lst (row.map fun n => .leaf (nS g n))))] _
      rw [hset]
      have hpp : pre ++ [] :: post = (pre ++ [[]]) ++ post := by rw [List.append_assoc] <;> rfl
      have hpl1 : (pre ++ [[]]).length = pre.length + 1 := by rw [List.length_append, List.length_singleton]
      refine s_seq fun K hK => ?_
      refine if_of (decide (((pre.length : Nat) : Int) + 1 < (((sz.map nI).map OT.leaf).length : Nat))) (fun P hP => ⟨_, rfl, _, rfl, _, rfl, trivial, hP⟩) (fun hl => ?_) (fun hl => hK _ ?_)
      · have hl := of_decide_eq_true hl
        rw [List.length_map, List.length_map] at hl
        have hj2 : pre.length + 1 < sz.length := by omega
        have hf1 : pre.length < fw.length := by omega
        have hfi := hR.fi pre.length hf1
        obtain ⟨o2, post2, rfl⟩ : ∃ o2 post2, post = o2 :: post2 := by
          cases post with
          | nil => simp at hpl; omega
          | cons a b => exact ⟨a, b, rfl⟩
        rw [hpp]
        have hto : totM (o2 :: post2) = o2.length + totM post2 := by simp [totM]
        refine ⟨⟨_, rfl⟩, _, rfl, ownS g ((pre ++ [[]]) ++ o2 :: post2), pre.length + 1, rfl, ixN_nat (j := pre.length + 1) (by rw [ownS_len, List.length_append, hpl1, List.length_cons]; omega), by decide, o2.map (fun n => .leaf (nS g n)), row.map (fun n => .leaf (nS g n)), tree_at rfl ?_, rfl, by rw [List.length_map]; unfold sizeL; omega, _, rfl, _, rfl, _, at_get rfl hf1, ((pk fw pre.length : Nat) : Int), pk fw pre.length, nS g (pk row (pk fw pre.length)), rfl, by omega, ?_, ixN_nat (by rw [List.length_map, hfull2]; exact hfi), leaf_nS (by rw [hfull2]; exact hfi), hK _ ?_⟩
        · show ((ownS g ((pre ++ [[]]) ++ o2 :: post2))[pre.length + 1]?).bind _ = _
          rw [← hpl1, ownS_at]
          rfl
        · have h9 := (hR.s1 _ (pk_mem hj)).2
          omega
        clear hK
        rw [erase_nS]
        have hp1 : (OT.lst (ownS g ((pre ++ [[]]) ++ o2 :: post2))).put [pre.length + 1] (.lst (o2.map (fun n => OT.leaf (nS g n)) ++ [.leaf (nS g (pk row (pk fw pre.length)))])) = .lst (ownS g ((pre ++ [[]]) ++ (o2 ++ [pk row (pk fw pre.length)]) :: post2)) := by
          have e := ownS_at (g := g) (p := pre ++ [[]]) (c := o2) (r := post2)
          rw [hpl1] at e
          rw [put_kid (t := .lst (ownS g ((pre ++ [[]]) ++ o2 :: post2))) e, snoc_nS]
          have e2 := ownS_set (g := g) (p := pre ++ [[]]) (c := o2) (d := o2 ++ [pk row (pk fw pre.length)]) (r := post2)
          rw [hpl1] at e2
          show OT.lst ((ownS g ((pre ++ [[]]) ++ o2 :: post2)).set (pre.length + 1) (.lst ((o2 ++ [pk row (pk fw pre.length)]).map fun n => .leaf (nS g n)))) = _
          rw [e2]
        show mSeq _ _ [fz (nL sz), fz (nL fw), fz (sL g q), some (.nw ((OT.lst (ownS g ((pre ++ [[]]) ++ o2 :: post2))).put [pre.length + 1] (.lst (o2.map (fun n => OT.leaf (nS g n)) ++ [.leaf (nS g (pk row (pk fw pre.length)))])))), fz (nI pre.length), some (.nw (.lst ((row.eraseIdx (pk fw pre.length)).map fun n => .leaf (nS g n))))] _
        rw [hp1]
        have hel : (row.eraseIdx (pk fw pre.length)).length = old.length := by rw [List.length_eraseIdx, if_pos (by rw [hfull2]; exact hfi)]; omega
        refine s_seq fun K hK => ?_
        refine ⟨_, rfl, _, rfl, .inl ⟨_, _, rfl, leaves_nS g _, by rw [List.length_map, List.length_map, hel]; unfold sizeL; omega, _, fz_lst _, trivial, hK _ ?_⟩⟩
        clear hK
        rw [← List.map_append]
        refine ⟨_, rfl, trivial, sz.length - (pre.length + 1), by omega, pre ++ [[]], q ++ row.eraseIdx (pk fw pre.length), some (.nw (.lst ((row.eraseIdx (pk fw pre.length)).map fun n => .leaf (nS g n)))), _, by rw [hpl1], ?_, ?_, .inr ⟨o2, post2, pk row (pk fw pre.length), rfl, by rw [hpl1]; exact hvp, ?_, ?_⟩⟩
        · rw [hpl1, List.length_cons]
          rw [List.length_cons] at hpl
          omega
        · rw [hpl1]
          rfl
        · rw [List.length_append, hel]
          omega
        · have hd := drop_pk hj2
          rw [hc, hpl1, hd, csc, if_neg (by omega), hrow, drop_pk1, rw_drop, List.append_assoc]
          rfl
      · clear hK
        have hl := of_decide_eq_false hl
        rw [List.length_map, List.length_map] at hl
        have hd : sz.drop (pre.length + 1) = [] := List.drop_eq_nil_of_le (by omega)
        have hpost : post = [] := List.eq_nil_of_length_eq_zero (by omega)
        subst hpost
        refine s_seq fun K hK => ?_
        refine ⟨_, rfl, _, rfl, .inl ⟨_, _, rfl, leaves_nS g _, by rw [List.length_map, List.length_map]; unfold sizeL; omega, _, fz_lst _, trivial, hK _ ?_⟩⟩
        clear hK
        rw [← List.map_append]
        refine ⟨_, rfl, trivial, sz.length - (pre.length + 1), by omega, pre ++ [[]], q ++ row, some (.nw (.lst (row.map fun n => .leaf (nS g n)))), [], by rw [hpl1], by rw [hpl1, List.length_nil]; omega, ?_, .inl ⟨rfl, ?_⟩⟩
        · rw [hpl1, List.append_nil]
          rfl
        · rw [hc, hd, csc, if_neg (by omega), hrow]
    · have hne := of_decide_eq_false hb2
      have hcs2 : csc (pk sz pre.length :: sz.drop (pre.length + 1)) (fw.drop pre.length) (old :: post) x q = ((old ++ [x]) :: post, q) := by
        cases hd : sz.drop (pre.length + 1) with
        | nil => rw [csc, if_pos (by omega)]
        | cons s2 ss => rw [csc, if_pos (by omega)]
      rw [hcs2] at hc
      refine ⟨_, _, rfl, ownS_fz g _, _, rfl, _, rfl, _, rfl, by show 2 ≤ sizeL; unfold sizeL; omega, trivial, ?_⟩
      rw [hc] at h
      exact h

theorem wp_law_step (cs : Cs) (ss : R.Env) (Q : Rs → R.Env → Prop) (h : (F_law_step cs).io ss Q) : m_law_step cs (ss ++ List.replicate 2 none) { nx := fun e => Q (.fz .non) (outs [] 3 e), rt := fun r e => Q r (outs [] 3 e) } := by
  obtain ⟨sz, fw, g, x, q, cts, hR, hV, hb, rfl, h⟩ := h
  have hl0 := hR.l0
  have h30 := hR.l1
  have hvl := val_len hV
  obtain ⟨c0, cs0, rfl⟩ : ∃ c cs, cts = c :: cs := by
    cases cts with
    | nil => simp at hvl; omega
    | cons c cs => exact ⟨c, cs, rfl⟩
  have htot : totM (c0 :: cs0) = c0.length + totM cs0 := by simp [totM]
  unfold m_law_step
  refine s_seq fun K hK => ?_
  refine ⟨_, rfl, gT2_fz (hK _ ?_)⟩
  clear hK
  dsimp only [mRet, mCall, mCons, mVar, mSl, mPart, mNoP, mC, mOp, mLst]
  have e1 : cut' ((x :: q).map (nS g)) (some 1) none = q.map (nS g) := cut_from (c := 1) (by simp)
  have e2 : cut' ((x :: q).map (nS g)) none (some 1) = [nS g x] := cut_take (c := 1) (by simp)
  have e3 : cut' ((c0 :: cs0).map (sL g)) (some 1) none = cs0.map (sL g) := cut_from (c := 1) (by simp)
  refine ⟨_, rfl, _, rfl, _, rfl, w_sl (ds := (x :: q).map (nS g)) ?_⟩
  rw [e1]
  refine ⟨_, rfl, sL g c0, at_nat (j := 0) rfl, _, rfl, w_sl (ds := (x :: q).map (nS g)) ?_⟩
  rw [e2]
  refine w_add_fn (a := c0.map (nS g)) (b := [nS g x]) (by rw [List.length_map]; show _ + 1 ≤ sizeL; unfold sizeL; omega) ?_
  have e4 : c0.map (nS g) ++ [nS g x] = (c0 ++ [x]).map (nS g) := by rw [List.map_append] <;> rfl
  rw [e4]
  refine ⟨[.lst (((c0 ++ [x]).map (nS g)).map .leaf)], rfl, by show 1 ≤ sizeL; unfold sizeL; omega, _, rfl, w_sl (ds := (c0 :: cs0).map (sL g)) ?_⟩
  rw [e3, ffz_lst1]
  refine w_add_fn (a := [sL g (c0 ++ [x])]) (b := cs0.map (sL g)) (by rw [List.length_map]; show 1 + _ ≤ sizeL; rw [List.length_cons] at hvl; unfold sizeL; omega) ?_
  refine ⟨rfl, sz, fw, g, c0, cs0, x, q, hR, hV, by omega, ?_, trivial, trivial, h⟩
  show [_, _, some (Rs.nw (.lst ((q.map (nS g)).map .leaf))).lend, some (Rs.nw (.lst ((sL g (c0 ++ [x]) :: cs0.map (sL g)).map .leaf))).lend, _] = _
  rw [ffz_lst', ffz_lst']
  rfl

theorem wp_law_lists_are_separate (cs : Cs) (ss : R.Env) (Q : Rs → R.Env → Prop) (h : F_law_lists_are_separate cs ss Q) : m_law_lists_are_separate cs (ss ++ List.replicate 1 none) { nx := fun e => Q (.fz .non) (outs [0] 2 e), rt := fun r e => Q r (outs [0] 2 e) } := by
  obtain ⟨g, q, cts, hok, hq, hc, hcl, rfl, h⟩ := h
  obtain ⟨ok1, ok2⟩ := mem_parts hok
  unfold m_law_lists_are_separate
  refine s_seq fun K hK => ?_
  refine ⟨⟨_, rfl⟩, 0, _, 0, rfl, rfl, rfl, _, rfl, hK _ ?_⟩
  clear hK
  show mSeq _ _ [some (.nw (.tup [.lst (q.map fun n => .leaf (nS g n)).reverse, .lst (ownS g cts)])), fz (stD g q cts), none] _
  refine s_seq fun K hK => ?_
  refine ⟨⟨_, rfl⟩, 0, _, 0, rfl, rfl, rfl, _, rfl, by rw [List.length_reverse, List.length_map]; unfold sizeL; omega, _, rfl, hK _ ?_⟩
  clear hK
  show mSeq _ _ [some (.nw (.tup [.lst ((q.map fun n => .leaf (nS g n)).reverse ++ [.leaf (.str "zz")]), .lst (ownS g cts)])), fz (stD g q cts), none] _
  generalize OT.lst ((q.map fun n => .leaf (nS g n)).reverse ++ [.leaf (.str "zz")]) = A
  refine s_seq fun K hK => ?_
  refine mIfS_ff (fun P hP => ⟨_, rfl, _, _, rfl, rfl, _, rfl, sC g cts, rfl, oEq_same (pd_sC 6 ok2) (pdT_own 6 ok2) (pd_sC 6 ok2) hP⟩) (hK _ ?_)
  clear hK
  refine s_seq fun K hK => ?_
  refine ⟨_, rfl, _, _, rfl, rfl, _, rfl, by omega, by rw [ownS_len]; omega, rfl, fun i e => ∃ (pre : List OT) (y : Option Rs), pre.length = i ∧ i ≤ cts.length ∧ e = [some (.nw (.tup [A, .lst (pre ++ ownS g (cts.drop i))])), fz (stD g q cts), y], ⟨[], none, rfl, Nat.zero_le _, rfl⟩, ?_, ?_⟩
  · clear hK
    rintro i r e hr ⟨pre, y, hp, hi0, rfl⟩
    have hi := (List.getElem?_eq_some_iff.mp hr).1
    rw [rng_len, ownS_len] at hi
    have hi : i < cts.length := by omega
    rw [rng_get hr, show (R.D.int (0 + (i : Int))) = nI i by rw [Int.zero_add] <;> rfl]
    refine ⟨trivial, ?_⟩
    have hd : cts.drop i = pc cts i :: cts.drop (i + 1) := by rw [List.drop_eq_getElem_cons hi, pc_lt hi]
    rw [hd]
    show mSeq _ _ [some (.nw (.tup [A, .lst (pre ++ ownS g (pc cts i :: cts.drop (i + 1)))])), fz (stD g q cts), fz (nI i)] _
    have ho : ownS g (pc cts i :: cts.drop (i + 1)) = .lst ((pc cts i).map fun n => .leaf (nS g n)) :: ownS g (cts.drop (i + 1)) := rfl
    rw [ho]
    generalize hRow : ((pc cts i).map fun n => OT.leaf (nS g n)) = row
    have hrl : row.length ≤ 100 := by rw [← hRow, List.length_map]; exact hcl _ (pc_mem hi)
    have hat : (pre ++ OT.lst row :: ownS g (cts.drop (i + 1)))[i]? = some (.lst row) := by
      rw [← hp, List.getElem?_append_right (Nat.le_refl _), Nat.sub_self] <;> rfl
    have hln : (pre ++ OT.lst row :: ownS g (cts.drop (i + 1))).length = cts.length := by
      rw [List.length_append, List.length_cons, ownS_len, List.length_drop]
      omega
    refine s_seq fun K hK => ?_
    refine ⟨⟨_, rfl⟩, 1, _, 1, rfl, rfl, rfl, _, rfl, _, i, rfl, ixN_nat (by rw [hln]; exact hi), row, tree_at rfl ?_, by unfold sizeL; omega, _, rfl, hK _ ?_⟩
    · show ((pre ++ OT.lst row :: ownS g (cts.drop (i + 1)))[i]?).bind _ = _
      rw [hat]
      rfl
    clear hK
    have hput : (OT.tup [A, .lst (pre ++ OT.lst row :: ownS g (cts.drop (i + 1)))]).put [1, i] (.lst (row ++ [.leaf (.str "zz")])) = .tup [A, .lst (pre ++ OT.lst (row ++ [.leaf (.str "zz")]) :: ownS g (cts.drop (i + 1)))] := by
      rw [put_kid (t := .tup [A, .lst (pre ++ OT.lst row :: ownS g (cts.drop (i + 1)))]) (c := .lst (pre ++ OT.lst row :: ownS g (cts.drop (i + 1)))) rfl, put_kid (t := .lst (pre ++ OT.lst row :: ownS g (cts.drop (i + 1)))) hat]
      show OT.tup [A, .lst ((pre ++ OT.lst row :: ownS g (cts.drop (i + 1))).set i (.lst (row ++ [.leaf (.str "zz")])))] = _
      rw [← hp, List.set_append_right _ _ (Nat.le_refl _), Nat.sub_self] <;> rfl
    show mIfS _ _ _ [some (.nw ((OT.tup [A, .lst (pre ++ OT.lst row :: ownS g (cts.drop (i + 1)))]).put [1, i] (.lst (row ++ [.leaf (.str "zz")])))), fz (stD g q cts), fz (nI i)] _
    rw [hput]
    generalize OT.lst (row ++ [.leaf (.str "zz")]) = B
    have hcut : cut' (pre ++ B :: ownS g (cts.drop (i + 1))) (some ((i : Int) + 1)) none = ownS g (cts.drop (i + 1)) := by
      rw [show ((i : Int) + 1) = ((i + 1 : Nat) : Int) by omega, cutB, show pre ++ B :: ownS g (cts.drop (i + 1)) = (pre ++ [B]) ++ ownS g (cts.drop (i + 1)) by rw [List.append_assoc] <;> rfl]
      rw [List.drop_append_of_le_length (by rw [List.length_append, List.length_singleton, hp]; omega), List.drop_eq_nil_of_le (by rw [List.length_append, List.length_singleton, hp]; omega)] <;> rfl
    have hcut2 : cut' (cts.map (sL g)) (some ((i : Int) + 1)) none = (cts.drop (i + 1)).map (sL g) := by
      rw [show ((i : Int) + 1) = ((i + 1 : Nat) : Int) by omega, cutB, List.map_drop]
    have ok3 : ∀ c ∈ cts.drop (i + 1), ∀ n ∈ c, NameOk (g n) := fun c m => ok2 c (List.mem_of_mem_drop m)
    refine mIfS_ff (fun P hP => ?_) ⟨pre ++ [B], fz (nI i), by rw [List.length_append, List.length_singleton, hp], by omega, by rw [List.append_assoc] <;> rfl⟩
    dsimp only [mT, mOp, mSlB, mSl, mPart, mNoP, mVar, mC]
    refine ⟨_, rfl, _, _, rfl, rfl, _, rfl, _, .inl rfl, ?_⟩
    rw [hcut]
    refine ⟨_, rfl, sC g cts, rfl, _, rfl, ?_⟩
    rw [show (Rs.fz (nI i)).rd.ffz = .fz (.int (i : Int)) from rfl, show (Rs.fz (R.D.int 1)).ffz = .fz (.int 1) from rfl, w_add]
    dsimp only
    refine w_sl (ds := cts.map (sL g)) ?_
    rw [hcut2, ffz_lst]
    exact oEq_same (pd_sC 6 ok3) (pdT_own 6 ok3) (pd_sC 6 ok3) hP
  · rintro e ⟨pre, y, hp, hi0, rfl⟩
    rw [rng_len, ownS_len] at hp
    refine hK _ ?_
    clear hK
    refine s_seq fun K hK => ?_
    rw [rng_len, ownS_len]
    have hd : cts.drop ((cts.length : Int)).toNat = [] := List.drop_eq_nil_of_le (by omega)
    rw [hd]
    refine ⟨⟨_, rfl⟩, 1, _, 1, rfl, rfl, rfl, _, rfl, by rw [List.length_append, hp, ownS_len]; unfold sizeL; show _ + 0 < _; omega, [], rfl, Nat.zero_le _, _, rfl, hK _ ?_⟩
    clear hK
    exact ⟨trivial, h _⟩

theorem wp_law_check (cs : Cs) (ss : R.Env) (Q : Rs → R.Env → Prop) (h : (F_law_check cs).io ss Q) : m_law_check cs (ss ++ List.replicate 6 none) { nx := fun e => Q (.fz .non) (outs [] 5 e), rt := fun r e => Q r (outs [] 5 e) } := by
  obtain ⟨sz, fw, g, q, cts, n, hR, hS, hn, rfl, h⟩ := h
  have h30 := hR.l1
  unfold m_law_check
  refine s_seq fun K hK => ?_
  refine ⟨_, rfl, by omega, by omega, rfl, fun i e => ∃ q cts y5 y6 y7 y8 y9 y10, StOk sz fw g q cts ∧ e = [fz (cupD cs sz fw), fz (nL sz), fz (nL fw), fz (stD g q cts), fz (nI n), y5, y6, y7, y8, y9, y10], ⟨q, cts, none, none, none, none, none, none, hS, rfl⟩, ?_, ?_⟩
  · clear hK
    rintro i r e hr ⟨q1, cts1, y5, y6, y7, y8, y9, y10, hS1, rfl⟩
    rw [rng_get hr]
    obtain ⟨x, q1, rfl⟩ := hS1.cons hR
    have hvl := val_len hS1.val
    have h40 := hS1.hi
    rw [List.length_cons] at h40
    have hS2 := hS1.step hR
    have hvl2 := val_len hS2.val
    have h402 := hS2.hi
    refine ⟨trivial, ?_⟩
    refine s_seq fun K hK => ?_
    refine ⟨_, rfl, _, rfl, _, rfl, rfl, sz, fw, g, x, q1, cts1, hR, hS1.val, by omega, rfl, trivial, stD g (csc sz fw cts1 x q1).2 (csc sz fw cts1 x q1).1, .tup (.cons (.leaf _) (.cons (.leaf _) .nil)), trivial, hK _ ?_⟩
    clear hK
    generalize hq2 : (csc sz fw cts1 x q1).2 = q2 at *
    generalize hc2 : (csc sz fw cts1 x q1).1 = c2 at *
    refine s_seq fun K hK => ?_
    simp only [mAsgG, mTup, mCons]
    refine ⟨_, rfl, sL g (x :: q1), rfl, ?_⟩
    dsimp only [mNil, List.map_cons, List.map_nil, Rs.ffz, sL, oList]
    refine lc_any ((cts1.map (sL g)).map Rs.fz) true (fun k => .lst ((pc cts1 k).map fun n => .leaf (nS g n))) (fun Q' q => it_st (g := g) (q := x :: q1) (cts := cts1) rfl q) (by rw [List.length_map, List.length_map]; unfold sizeL; omega) (fun k r hr => ?_) ?_
    · obtain ⟨hk, rfl⟩ := get_sL hr
      refine ⟨trivial, rfl, _, rfl, _, rfl, ?_⟩
      rw [← leafs_nS]
      exact item_snoc (out := fun k => OT.lst ((pc cts1 k).map fun n => .leaf (nS g n)))
    rw [own_range]
    refine ⟨[.lst (((x :: q1).map (nS g)).map .leaf), .lst (ownS g cts1)], rfl, by show 2 ≤ sizeL; unfold sizeL; omega, trivial, hK _ ?_⟩
    clear hK
    rw [← leafs_nS]
    refine s_seq fun K hK => ?_
    refine ⟨by omega, by omega, rfl, fun i2 e => ∃ y8 y9 y10, e = [fz (cupD cs sz fw), fz (nL sz), fz (nL fw), fz (stD g (x :: q1) cts1), fz (nI n), fz (.int (0 + (i : Int))), fz (stD g q2 c2), some (.nw (stT g (x :: q1) cts1)), y8, y9, y10], ⟨y8, y9, y10, rfl⟩, ?_, ?_⟩
    · clear hK
      rintro i2 r e hr ⟨y8, y9, y10, rfl⟩
      rw [rng_get hr]
      refine ⟨trivial, ?_⟩
      refine s_seq fun K hK => ?_
      refine ⟨_, rfl, _, rfl, rfl, sz, fw, g, x, q1, cts1, .ex (stT g (x :: q1) cts1), .inr rfl, hR, hS1, rfl, ?_⟩
      rw [hq2, hc2]
      refine ⟨trivial, trivial, hK _ ?_⟩
      clear hK
      refine s_seq fun K hK => ?_
      refine mIfS_ff (fun P hP => mOr_ff (fun P hP => ⟨_, rfl, _, rfl, oEq_same (pd_st hS2.nms.ok) (pdT_st hS2.nms.ok) (pd_st hS2.nms.ok) hP⟩) (fun P hP => mOr_ff (fun P hP => ⟨_, rfl, _, rfl, hP⟩) (fun P hP => ⟨_, rfl, _, rfl, oEq_same (pd_st hS1.nms.ok) (pdT_st hS1.nms.ok) (pd_st hS1.nms.ok) hP⟩) hP) hP) (hK _ ?_)
      clear hK
      refine ⟨[stT g q2 c2, .leaf (stD g q2 c2)], _, rfl, [], rfl, rfl, g, q2, c2, hS2.nms.ok, by omega, by omega, fun c m => ?_, rfl, fun z => ⟨true, rfl, fz (.int (0 + (i2 : Int))), some (.nw z), y10, rfl⟩⟩
      have := (List.sublist_flatten_of_mem m).length_le
      rw [totM_flat] at this
      omega
    · rintro e ⟨y8, y9, y10, rfl⟩
      refine hK _ ?_
      clear hK
      refine s_seq fun K hK => ?_
      refine ⟨⟨_, rfl⟩, 0, _, 0, rfl, rfl, rfl, _, rfl, hK _ ?_⟩
      clear hK
      exact ⟨_, rfl, trivial, q2, c2, _, _, _, _, _, _, hS2, rfl⟩
  · rintro e ⟨q, cts, y5, y6, y7, y8, y9, y10, hS, rfl⟩
    exact hK _ ⟨trivial, h⟩

theorem wp_law_check_shared_list (cs : Cs) (ss : R.Env) (Q : Rs → R.Env → Prop) (h : (F_law_check_shared_list cs).io ss Q) : m_law_check_shared_list cs (ss ++ List.replicate 4 none) { nx := fun e => Q (.fz .non) (outs [] 4 e), rt := fun r e => Q r (outs [] 4 e) } := by
  obtain ⟨sz, fw, g, q, cts, hR, hS, rfl, h⟩ := h
  have h30 := hR.l1
  have hl0 := hR.l0
  have hvl := val_len hS.val
  have h40 := hS.hi
  have hml : (memb q cts).length = q.length + totM cts := by
    unfold memb
    rw [List.length_append, totM_flat]
  have hfl : (cts.map fun c => c.map (nS g)).flatten = cts.flatten.map (nS g) := List.map_flatten.symm
  unfold m_law_check_shared_list
  refine s_seq fun K hK => ?_
  dsimp only [mAsgG, mFz, mOp]
  refine ⟨_, rfl, sL g q, rfl, _, rfl, sC g cts, rfl, [], rfl, Nat.zero_le _, ?_⟩
  dsimp only [mNil]
  rw [List.map_cons, List.map_cons, List.map_nil, show (Rs.fz (sC g cts)).ffz = .fz (sC g cts) from rfl, show (Rs.nw (.lst [])).ffz = .fz (.lst []) from ffz_lst []]
  refine ⟨cts.map fun c => c.map (nS g), by rw [List.map_map] <;> rfl, fun z => ?_, by rw [hfl, List.length_map, totM_flat]; unfold sizeL; omega, ?_⟩
  · have := congrArg List.length z
    rw [List.length_map, List.length_nil] at this
    omega
  rw [hfl]
  refine w_add_fn (a := q.map (nS g)) (b := cts.flatten.map (nS g)) (by rw [List.length_map, List.length_map, totM_flat]; unfold sizeL; omega) ?_
  rw [← List.map_append]
  refine ⟨sL g (memb q cts), fz_lst _, trivial, hK _ ?_⟩
  clear hK
  have hp : memb (memb q cts) (List.replicate sz.length []) = memb q cts := by
    show memb q cts ++ (List.replicate sz.length []).flatten = _
    rw [flat_nils, List.append_nil]
  have ht0 : totM (List.replicate sz.length []) = 0 := by rw [← totM_flat, flat_nils] <;> rfl
  have hS0 : StOk sz fw g (memb q cts) (List.replicate sz.length []) := ⟨val_nil fun s m => (hR.s1 s m).1, by rw [hp]; exact hS.nms, by rw [ht0, hml]; exact hS.lo, by rw [ht0, hml]; exact hS.hi⟩
  generalize hM : memb q cts = M at *
  obtain ⟨x, q1, rfl⟩ := hS0.cons hR
  rw [List.length_cons] at hml
  have hS2 := hS0.step hR
  have hns : sC g (List.replicate sz.length []) = .lst (List.replicate sz.length (.lst [])) := by
    unfold sC
    rw [List.map_replicate] <;> rfl
  have hrep : ∀ Q : Rs → Prop, Q (.nw (.lst ((List.replicate sz.length (R.D.lst [])).map .leaf))) → oMul (Rs.nw (.lst [.lst []])).ffz (Rs.fz (.int (((sz.map nI).map OT.leaf).length : Nat))).ffz Q := by
    intro Q hQ
    rw [show (Rs.nw (.lst [.lst []])).ffz = .fz (.lst [.lst []]) from ffz_lst1 []]
    refine ⟨[.lst []], rfl, by omega, by rw [List.length_map, List.length_map]; omega, by rw [List.length_map, List.length_map]; unfold sizeL; show 1 * _ ≤ _; omega, ?_⟩
    rw [List.length_map, List.length_map, show ((sz.length : Int)).toNat = sz.length by omega, List.flatten_replicate_singleton]
    exact hQ
  refine s_seq fun K hK => ?_
  refine ⟨[], rfl, Nat.zero_le _, [.lst []], rfl, by show 1 ≤ sizeL; unfold sizeL; omega, _, rfl, _, rfl, hrep _ ⟨_, fz_lst _, trivial, hK _ ?_⟩⟩
  clear hK
  rw [← hns]
  refine s_seq fun K hK => ?_
  refine ⟨_, rfl, _, rfl, _, rfl, ?_⟩
  show mLc (mItL (mVar 1)) _ _ _ _ _ _
  refine lc_any ((sz.map nI).map Rs.fz) true (fun _ => .lst []) (fun Q' q => it_var_lst (ds := sz.map nI) rfl q) (by rw [List.length_map, List.length_map]; unfold sizeL; omega) (fun k r hr => ?_) ?_
  · obtain ⟨hk, rfl⟩ := get_nI hr
    exact ⟨trivial, rfl, [], rfl, Nat.zero_le _, _, rfl, item_snoc⟩
  have e0 : (List.range ((sz.map nI).map Rs.fz).length).map (fun _ => OT.lst []) = ownS g (List.replicate sz.length []) := by
    rw [List.length_map, List.length_map, List.map_const', List.length_range]
    unfold ownS
    rw [List.map_replicate] <;> rfl
  rw [e0]
  refine ⟨[.leaf (sL g (x :: q1)), .lst (ownS g (List.replicate sz.length []))], rfl, by show 2 ≤ sizeL; unfold sizeL; omega, rfl, sz, fw, g, x, q1, List.replicate sz.length [], hR, hS0.val, by rw [ht0]; omega, ?_, trivial, stD g (csc sz fw (List.replicate sz.length []) x q1).2 (csc sz fw (List.replicate sz.length []) x q1).1, .tup (.cons (.leaf _) (.cons (.leaf _) .nil)), trivial, hK _ ?_⟩
  · show [_, _, some (Rs.nw (.tup [.leaf (sL g (x :: q1)), .lst (ownS g (List.replicate sz.length []))])).lend] = _
    rw [lend_nw (fzd_st1 _ _ _)]
    rfl
  clear hK
  generalize hq2 : (csc sz fw (List.replicate sz.length []) x q1).2 = q2 at *
  generalize hc2 : (csc sz fw (List.replicate sz.length []) x q1).1 = c2 at *
  refine mAndV_tt (fun P hP => ⟨_, rfl, _, rfl, _, rfl, _, rfl, by show 2 ≤ sizeL; unfold sizeL; omega, rfl, sz, fw, g, x, q1, List.replicate sz.length [], .fz (stD g (x :: q1) (List.replicate sz.length [])), .inl rfl, hR, hS0, ?_, ?_⟩) ?_
  · show [_, some (Rs.nw (.tup ([sL g (x :: q1), sC g (List.replicate sz.length [])].map .leaf))).ffz.arg] = _
    rw [ffz_tup]
    rfl
  · rw [hq2, hc2]
    refine ⟨trivial, _, rfl, ?_⟩
    rw [ffz_nw (fzd_st _ _ _)]
    exact oEq_same (pd_st hS2.nms.ok) (pd_st hS2.nms.ok) (pd_st hS2.nms.ok) hP
  refine ⟨_, rfl, [], rfl, Nat.zero_le _, [.lst []], rfl, by show 1 ≤ sizeL; unfold sizeL; omega, _, rfl, _, rfl, hrep _ ?_⟩
  have hno : ∀ c ∈ List.replicate sz.length ([] : List Nat), ∀ n ∈ c, NameOk (g n) := fun c m n hn => by
    rw [List.eq_of_mem_replicate m] at hn
    cases hn
  rw [ffz_lst, ← hns]
  exact oEq_same (pd_sC 6 hno) (pd_sC 6 hno) (pd_sC 6 hno) ⟨trivial, h⟩

theorem wp_law (cs : Cs) (ss : R.Env) (Q : Rs → R.Env → Prop) (h : (F_law cs).io ss Q) : m_law cs (ss ++ List.replicate 6 none) { nx := fun e => Q (.fz .non) (outs [] 1 e), rt := fun r e => Q r (outs [] 1 e) } := by
  obtain ⟨ns, rfl, hl, h⟩ := h
  unfold m_law
  refine s_seq fun K hK => ?_
  refine ⟨_, rfl, _, rfl, by omega, by omega, rfl, fun i e => ∃ (y1 y2 y3 y4 y5 y6 : Option Rs), e = [fz (scrD ns), y1, y2, y3, y4, y5, y6], ⟨_, _, _, _, _, _, rfl⟩, ?_, ?_⟩
  · clear hK
    rintro i r e hr ⟨y1, y2, y3, y4, y5, y6, rfl⟩
    rw [rng_get hr, show (R.D.int (0 + (i : Int))) = nI i by rw [Int.zero_add] <;> rfl]
    refine ⟨trivial, ?_⟩
    refine s_seq fun K hK => ?_
    refine ⟨_, rfl, _, rfl, rfl, ns, i, rfl, trivial, trivial, hK _ ?_⟩
    clear hK
    refine s_seq fun K hK => ?_
    refine ⟨_, rfl, [.leaf (.int 6), .leaf (.int 6), .leaf (.int 30)], rfl, by show 3 ≤ sizeL; unfold sizeL; omega, _, rfl, rfl, [], 3, rfl, by omega, by omega, fun x hx hx2 => ⟨trivial, ?_⟩⟩
    have hx3 : ∃ m : Nat, at' [R.D.int 6, .int 6, .int 30] x = some (nI m) ∧ 1 ≤ m ∧ m ≤ 30 := by
      have : x = 0 ∨ x = 1 ∨ x = 2 := by omega
      rcases this with rfl | rfl | rfl
      · exact ⟨6, rfl, by omega, by omega⟩
      · exact ⟨6, rfl, by omega, by omega⟩
      · exact ⟨30, rfl, by omega, by omega⟩
    obtain ⟨mx, em, hm1, hm2⟩ := hx3
    refine ⟨nI mx, em, rfl, [], mx, 9, 30, rfl, hm1, hm2, by omega, by omega, by omega, fun sz fw hR hlm hsum => ⟨trivial, .tup [nL sz, nL fw], .tup (.cons (.leaf _) (.cons (by rw [leafs_nI]; exact fz_lst _) .nil)), gT2_fz (hK _ ?_)⟩⟩
    clear hK
    refine s_seq fun K hK => ?_
    refine ⟨_, rfl, _, rfl, [.leaf (.int 3), .leaf (.int 40)], rfl, by show 2 ≤ sizeL; unfold sizeL; omega, _, rfl, rfl, [], 2, rfl, by omega, by omega, fun y hy hy2 => ⟨trivial, ?_⟩⟩
    have hy3 : ∃ m : Nat, at' [R.D.int 3, .int 40] y = some (nI m) ∧ m ≤ 40 := by
      have : y = 0 ∨ y = 1 := by omega
      rcases this with rfl | rfl
      · exact ⟨3, rfl, by omega⟩
      · exact ⟨40, rfl, by omega⟩
    obtain ⟨more, em2, hmore⟩ := hy3
    refine ⟨nI more, em2, rfl, [], sz, fw, more, rfl, hR, hmore, fun g q cts hS => ⟨trivial, stD g q cts, .tup (.cons (.leaf _) (.cons (.leaf _) .nil)), trivial, hK _ ?_⟩⟩
    clear hK
    refine s_seq fun K hK => ?_
    refine ⟨_, rfl, _, rfl, rfl, rfl, rfl, sz, fw, nL fw, hR, rfl, .inl rfl, rfl, _, rfl, cupD cs sz fw, cup_fz cs sz fw, trivial, hK _ ?_⟩
    clear hK
    refine s_seq fun K hK => ?_
    refine mIfS_ff (fun P hP => mNot_tt (fun P hP => mT_tt (fun Q hQ => ⟨_, rfl, _, rfl, _, rfl, _, rfl, _, rfl, rfl, [], 60, rfl, by omega, by omega, fun z hz hz2 => ⟨trivial, rfl, sz, fw, g, q, cts, (1 + z).toNat, hR, hS, by omega, ?_, trivial, hQ⟩⟩) hP) hP) (hK _ ?_)
    · show [_, _, _, _, fz (.int (1 + z))] = [_, _, _, _, fz (.int (((1 + z).toNat : Nat) : Int))]
      rw [Int.toNat_of_nonneg (by omega)]
      rfl
    clear hK
    refine mIfS_ff (fun P hP => mNot_tt (fun P hP => mT_tt (fun Q hQ => ⟨_, rfl, _, rfl, _, rfl, _, rfl, rfl, sz, fw, g, q, cts, hR, hS, rfl, trivial, hQ⟩) hP) hP) ⟨_, _, _, _, _, _, rfl⟩
  · rintro e ⟨y1, y2, y3, y4, y5, y6, rfl⟩
    exact hK _ ⟨trivial, h⟩

section
variable {P : Program} {w : World} {K : PySem.W.Frag} {mg : PySem.Str → Option Value} {base : Heap} {f : Addr} {cs : Cs}
theorem b_is_integer  (T : Tt K mg cs) : ∀ (cdv : Value) (A : Around) (outer : List PySem.Env) (s : Shared) (H : Hp) (E : XK), Room 0 (A.deeper (envOfC "is_integer" (defScope s_is_integer) s.heap.objs.size f cdv)) → PSs (cxOf CX0 P w K mg base N_is_integer "is_integer" (defScope s_is_integer) f cdv A outer s H E).nox (defBody s_is_integer) (LS K [] (m_is_integer cs)) := fun cdv A outer s H E hr => (dss_one (ds_ret (dp_and (dp_is (n := "int") T.b_isinstance T.b_int (by decide) (by decide +kernel) (dp_var (i := 0))) (dp_and (dp_not (dp_is (n := "bool") T.b_isinstance T.b_bool (by decide) (by decide +kernel) (dp_var (i := 0)))) (dp_one (dp_ge (dp_var (i := 0)) (dp_var (i := 1))))))))
theorem b_are_sizes (h_is_integer : CalR P w K mg base "is_integer" 2 (F_is_integer cs) [] 1) (T : Tt K mg cs) : ∀ (cdv : Value) (A : Around) (outer : List PySem.Env) (s : Shared) (H : Hp) (E : XK), Room 1 (A.deeper (envOfC "are_sizes" (defScope s_are_sizes) s.heap.objs.size f cdv)) → PSs (cxOf CX0 P w K mg base N_are_sizes "are_sizes" (defScope s_are_sizes) f cdv A outer s H E).nox (defBody s_are_sizes) (LS K [] (m_are_sizes cs)) := fun cdv A outer s H E hr => (dss_cons (ds_if (PW.pt (dw_or (dt_not (dt_val (dp_is (n := "list") T.b_isinstance T.b_list (by decide) (by decide +kernel) (dp_var (i := 0))))) (dw_or1 (dt_not (dt_chain I_le I_le dp_int (dp_len T.b_len (da_cons (dp_var (i := 0)) da_nil)) (dp_globI T.c_MAX_CUPS)))))) (dss_one (ds_ret dp_bl)) dss_nil) (dss_cons (ds_if (dt_not (dt_val (dp_all rfl T.b_all (da_cons (dp_lc (own := [("size", 1)]) rfl sc_are_sizes.nd (di_list (dp_var (i := 0))) (blkOk_by (own := [("size", 1)]) (N := N_are_sizes) (sc := defScope s_are_sizes) (by decide +kernel)) (fun _ _ _ _ _ => (dg_name (i := 1) sc_are_sizes.nd rfl)) (fun _ _ _ _ _ => dts_nil) (fun _ _ _ _ _ => (dp_and (dp_cal h_is_integer hr (by first | decide | omega) (da_cons (dp_var (i := 1)) (da_cons dp_int da_nil))) (dp_one (dp_le (dp_var (i := 1)) (dp_globI T.c_MAX_SIZE)))))) da_nil)))) (dss_one (ds_ret dp_bl)) dss_nil) (dss_one (ds_ret (dp_le (dp_sub (dp_sum rfl T.b_sum (da_cons (dp_var (i := 0)) da_nil)) (dp_len T.b_len (da_cons (dp_var (i := 0)) da_nil))) (dp_globI T.c_MAX_EXTRA))))))
theorem b_are_forward_indices (h_is_integer_1 : CalR P w K mg base "is_integer" 2 (F_is_integer cs) [(.int 0)] 1) (T : Tt K mg cs) : ∀ (cdv : Value) (A : Around) (outer : List PySem.Env) (s : Shared) (H : Hp) (E : XK), Room 1 (A.deeper (envOfC "are_forward_indices" (defScope s_are_forward_indices) s.heap.objs.size f cdv)) → PSs (cxOf CX0 P w K mg base N_are_forward_indices "are_forward_indices" (defScope s_are_forward_indices) f cdv A outer s H E).nox (defBody s_are_forward_indices) (LS K [] (m_are_forward_indices cs)) := fun cdv A outer s H E hr => (dss_cons (ds_if (PW.pt (dw_or (dt_not (dt_val (dp_is (n := "list") T.b_isinstance T.b_list (by decide) (by decide +kernel) (dp_var (i := 0))))) (dw_or1 (dt_ne (hu_R hr) (dp_len T.b_len (da_cons (dp_var (i := 0)) da_nil)) (dp_sub (dp_len T.b_len (da_cons (dp_var (i := 1)) da_nil)) dp_int))))) (dss_one (ds_ret dp_bl)) dss_nil) (dss_one (ds_ret (dp_all rfl T.b_all (da_cons (dp_lc (own := [("index", 2), ("size", 3)]) rfl sc_are_forward_indices.nd (di_zip T.b_zip (dp_var (i := 0)) (dp_var (i := 1))) (blkOk_by (own := [("index", 2), ("size", 3)]) (N := N_are_forward_indices) (sc := defScope s_are_forward_indices) (by decide +kernel)) (fun _ _ _ _ _ => (dg_tup rfl (dgs_cons (dg_name (i := 2) sc_are_forward_indices.nd rfl) (dgs_cons (dg_name (i := 3) sc_are_forward_indices.nd rfl) dgs_nil)))) (fun _ _ _ _ _ => dts_nil) (fun _ _ _ _ _ => (dp_and (dp_cal h_is_integer_1 hr (by first | decide | omega) (da_cons (dp_var (i := 2)) da_nil)) (dp_one (dp_lt (dp_var (i := 2)) (dp_var (i := 3))))))) da_nil)))))
theorem b_CupRow_init (h_are_sizes : CalR P w K mg base "are_sizes" 1 (F_are_sizes cs) [] 2) (h_are_forward_indices : CalR P w K mg base "are_forward_indices" 2 (F_are_forward_indices cs) [] 2) (T : Tt K mg cs) : ∀ (cdv : Value) (A : Around) (outer : List PySem.Env) (s : Shared) (H : Hp) (E : XK), Room 2 (A.deeper (envOfC "CupRow.__init__" (defScope s_CupRow_init) s.heap.objs.size f cdv)) → PSs (cxOf CX0 P w K mg base N_CupRow_init "CupRow.__init__" (defScope s_CupRow_init) f cdv A outer s H E).nox (defBody s_CupRow_init) (LS K [0] (m_CupRow_init cs)) := fun cdv A outer s H E hr => (dss_cons (ds_if (dt_not (dt_val (dp_cal h_are_sizes hr (by first | decide | omega) (da_cons (dp_var (i := 1)) da_nil)))) (dss_one ds_never) dss_nil) (dss_cons (ds_asg (i := 3) sc_CupRow_init.nd rfl (dp_fz (dp_if (dt_isN (dp_var (i := 2))) (dp_mul (dp_lst (da_cons dp_int da_nil)) (dp_sub (dp_len T.b_len (da_cons (dp_var (i := 1)) da_nil)) dp_int)) (dp_var (i := 2))))) (dss_cons (ds_if (dt_not (dt_val (dp_cal h_are_forward_indices hr (by first | decide | omega) (da_cons (dp_var (i := 3)) (da_cons (dp_var (i := 1)) da_nil))))) (dss_one ds_never) dss_nil) (dss_cons (ds_setF T.k_CupRow T.n_CupRow_size_tuple (dpl_name (i := 0)) (dp_tuple T.b_tuple (da_cons (dp_var (i := 1)) da_nil))) (dss_cons (ds_setF T.k_CupRow T.n_CupRow_forward_tuple (dpl_name (i := 0)) (dp_tuple T.b_tuple (da_cons (dp_var (i := 3)) da_nil))) (dss_cons (ds_setF T.k_CupRow T.n_CupRow_weights (dpl_name (i := 0)) (dp_lst (da_cons dp_int da_nil))) (dss_one (ds_for PassesOwn.never rfl (di_list (dp_var (i := 1))) (dg_name (i := 4) sc_CupRow_init.nd rfl) (dss_one (ds_append (dpl_fld T.k_CupRow T.n_CupRow_weights (dpl_name (i := 0))) (dp_mul (dp_ix (dp_fld T.k_CupRow T.n_CupRow_weights (dp_var (i := 0))) (dp_neg dp_int)) (dp_var (i := 4)))))))))))))
theorem b_CupRow_min_members  (T : Tt K mg cs) : ∀ (cdv : Value) (A : Around) (outer : List PySem.Env) (s : Shared) (H : Hp) (E : XK), Room 0 (A.deeper (envOfC "CupRow.min_members" (defScope s_CupRow_min_members) s.heap.objs.size f cdv)) → PSs (cxOf CX0 P w K mg base N_CupRow_min_members "CupRow.min_members" (defScope s_CupRow_min_members) f cdv A outer s H E).nox (defBody s_CupRow_min_members) (LS K [] (m_CupRow_min_members cs)) := fun cdv A outer s H E hr => (dss_one (ds_ret (dp_add (dp_sub (dp_sum rfl T.b_sum (da_cons (dp_fld T.k_CupRow T.n_CupRow_size_tuple (dp_var (i := 0))) da_nil)) (dp_len T.b_len (da_cons (dp_fld T.k_CupRow T.n_CupRow_size_tuple (dp_var (i := 0))) da_nil))) dp_int)))
theorem b_require_cups  (T : Tt K mg cs) : ∀ (cdv : Value) (A : Around) (outer : List PySem.Env) (s : Shared) (H : Hp) (E : XK), Room 0 (A.deeper (envOfC "require_cups" (defScope s_require_cups) s.heap.objs.size f cdv)) → PSs (cxOf CX0 P w K mg base N_require_cups "require_cups" (defScope s_require_cups) f cdv A outer s H E).nox (defBody s_require_cups) (LS K [] (m_require_cups cs)) := fun cdv A outer s H E hr => (dss_one (ds_if (dt_not (dt_val (dp_isC T.b_isinstance T.g_CupRow T.is_CupRow (dp_var (i := 0))))) (dss_one ds_never) dss_nil))
theorem b_is_name  (T : Tt K mg cs) : ∀ (cdv : Value) (A : Around) (outer : List PySem.Env) (s : Shared) (H : Hp) (E : XK), Room 0 (A.deeper (envOfC "is_name" (defScope s_is_name) s.heap.objs.size f cdv)) → PSs (cxOf CX0 P w K mg base N_is_name "is_name" (defScope s_is_name) f cdv A outer s H E).nox (defBody s_is_name) (LS K [] (m_is_name cs)) := fun cdv A outer s H E hr => (dss_cons (ds_if (PW.pt (dw_or (dt_not (dt_val (dp_is (n := "str") T.b_isinstance T.b_str (by decide) (by decide +kernel) (dp_var (i := 0))))) (dw_or1 (dt_not (dt_chain I_le I_le dp_int (dp_len T.b_len (da_cons (dp_var (i := 0)) da_nil)) (dp_globI T.c_MAX_LETTERS)))))) (dss_one (ds_ret dp_bl)) dss_nil) (dss_one (ds_ret (dp_all rfl T.b_all (da_cons (dp_lc (own := [("letter", 1)]) rfl sc_is_name.nd (di_str (dp_var (i := 0))) (blkOk_by (own := [("letter", 1)]) (N := N_is_name) (sc := defScope s_is_name) (by decide +kernel)) (fun _ _ _ _ _ => (dg_name (i := 1) sc_is_name.nd rfl)) (fun _ _ _ _ _ => dts_nil) (fun _ _ _ _ _ => (dp_inS (dp_var (i := 1)) (dp_globS T.c_LETTERS)))) da_nil)))))
theorem b_is_name_list (h_is_name : CalR P w K mg base "is_name" 1 (F_is_name cs) [] 1) (T : Tt K mg cs) : ∀ (cdv : Value) (A : Around) (outer : List PySem.Env) (s : Shared) (H : Hp) (E : XK), Room 1 (A.deeper (envOfC "is_name_list" (defScope s_is_name_list) s.heap.objs.size f cdv)) → PSs (cxOf CX0 P w K mg base N_is_name_list "is_name_list" (defScope s_is_name_list) f cdv A outer s H E).nox (defBody s_is_name_list) (LS K [] (m_is_name_list cs)) := fun cdv A outer s H E hr => (dss_one (ds_ret (dp_and (dp_is (n := "list") T.b_isinstance T.b_list (by decide) (by decide +kernel) (dp_var (i := 0))) (dp_one (dp_all rfl T.b_all (da_cons (dp_lc (own := [("name", 1)]) rfl sc_is_name_list.nd (di_list (dp_var (i := 0))) (blkOk_by (own := [("name", 1)]) (N := N_is_name_list) (sc := defScope s_is_name_list) (by decide +kernel)) (fun _ _ _ _ _ => (dg_name (i := 1) sc_is_name_list.nd rfl)) (fun _ _ _ _ _ => dts_nil) (fun _ _ _ _ _ => (dp_cal h_is_name hr (by first | decide | omega) (da_cons (dp_var (i := 1)) da_nil)))) da_nil))))))
theorem b_all_members  (T : Tt K mg cs) : ∀ (cdv : Value) (A : Around) (outer : List PySem.Env) (s : Shared) (H : Hp) (E : XK), Room 0 (A.deeper (envOfC "all_members" (defScope s_all_members) s.heap.objs.size f cdv)) → PSs (cxOf CX0 P w K mg base N_all_members "all_members" (defScope s_all_members) f cdv A outer s H E).nox (defBody s_all_members) (LS K [] (m_all_members cs)) := fun cdv A outer s H E hr => (dss_cons (ds_asg (i := 2) sc_all_members.nd rfl (dp_fz (dp_list T.b_list (da_cons (dp_var (i := 0)) da_nil)))) (dss_cons (ds_for PassesOwn.never rfl (di_list (dp_var (i := 1))) (dg_name (i := 3) sc_all_members.nd rfl) (dss_one (ds_asg (i := 2) sc_all_members.nd rfl (dp_fz (dp_add (dp_var (i := 2)) (dp_var (i := 3))))))) (dss_one (ds_ret (dp_var (i := 2))))))
theorem b_copy_state  (T : Tt K mg cs) : ∀ (cdv : Value) (A : Around) (outer : List PySem.Env) (s : Shared) (H : Hp) (E : XK), Room 0 (A.deeper (envOfC "copy_state" (defScope s_copy_state) s.heap.objs.size f cdv)) → PSs (cxOf CX0 P w K mg base N_copy_state "copy_state" (defScope s_copy_state) f cdv A outer s H E).nox (defBody s_copy_state) (LS K [] (m_copy_state cs)) := fun cdv A outer s H E hr => (dss_one (ds_ret (dp_tup (da_cons (dp_list T.b_list (da_cons (dp_var (i := 0)) da_nil)) (da_cons (dp_lc (own := [("row", 2)]) rfl sc_copy_state.nd (di_list (dp_var (i := 1))) (blkOk_by (own := [("row", 2)]) (N := N_copy_state) (sc := defScope s_copy_state) (by decide +kernel)) (fun _ _ _ _ _ => (dg_name (i := 2) sc_copy_state.nd rfl)) (fun _ _ _ _ _ => dts_nil) (fun _ _ _ _ _ => (dp_list T.b_list (da_cons (dp_var (i := 2)) da_nil)))) da_nil)))))
theorem b_is_state (h_is_name_list : CalR P w K mg base "is_name_list" 1 (F_is_name_list cs) [] 2) (h_all_members : CalR P w K mg base "all_members" 2 (F_all_members cs) [] 1) (h_CupRow_min_members : MetR P w K mg base cs.CupRow "min_members" 1 (F_CupRow_min_members cs) [] 1) (T : Tt K mg cs) : ∀ (cdv : Value) (A : Around) (outer : List PySem.Env) (s : Shared) (H : Hp) (E : XK), Room 2 (A.deeper (envOfC "is_state" (defScope s_is_state) s.heap.objs.size f cdv)) → PSs (cxOf CX0 P w K mg base N_is_state "is_state" (defScope s_is_state) f cdv A outer s H E).nox (defBody s_is_state) (LS K [] (m_is_state cs)) := fun cdv A outer s H E hr => (dss_cons (ds_if (PW.pt (dw_or (dt_not (dt_val (dp_is (n := "tuple") T.b_isinstance T.b_tuple (by decide) (by decide +kernel) (dp_var (i := 1))))) (dw_or (dt_ne (hu_R hr) (dp_len T.b_len (da_cons (dp_var (i := 1)) da_nil)) dp_int) (dw_or (dt_not (dt_val (dp_cal h_is_name_list hr (by first | decide | omega) (da_cons (dp_ix (dp_var (i := 1)) dp_int) da_nil)))) (dw_or1 (dt_not (dt_val (dp_is (n := "list") T.b_isinstance T.b_list (by decide) (by decide +kernel) (dp_ix (dp_var (i := 1)) dp_int))))))))) (dss_one (ds_ret dp_bl)) dss_nil) (dss_cons (ds_asgG (dp_var (i := 1)) (dg_tup rfl (dgs_cons (dg_name (i := 2) sc_is_state.nd rfl) (dgs_cons (dg_name (i := 3) sc_is_state.nd rfl) dgs_nil)))) (dss_cons (ds_if (PW.pt (dw_or (dt_ne (hu_R hr) (dp_len T.b_len (da_cons (dp_var (i := 3)) da_nil)) (dp_len T.b_len (da_cons (dp_fld T.k_CupRow T.n_CupRow_size_tuple (dp_var (i := 0))) da_nil))) (dw_or1 (dt_not (dt_val (dp_all rfl T.b_all (da_cons (dp_lc (own := [("row", 5)]) rfl sc_is_state.nd (di_list (dp_var (i := 3))) (blkOk_by (own := [("row", 5)]) (N := N_is_state) (sc := defScope s_is_state) (by decide +kernel)) (fun _ _ _ _ _ => (dg_name (i := 5) sc_is_state.nd rfl)) (fun _ _ _ _ _ => dts_nil) (fun _ _ _ _ _ => (dp_cal h_is_name_list hr (by first | decide | omega) (da_cons (dp_var (i := 5)) da_nil)))) da_nil))))))) (dss_one (ds_ret dp_bl)) dss_nil) (dss_cons (ds_if (dt_not (dt_val (dp_all rfl T.b_all (da_cons (dp_lc (own := [("row", 5), ("size", 6)]) rfl sc_is_state.nd (di_zipM T.b_zip (dp_var (i := 3)) (dp_fld T.k_CupRow T.n_CupRow_size_tuple (dp_var (i := 0)))) (blkOk_by (own := [("row", 5), ("size", 6)]) (N := N_is_state) (sc := defScope s_is_state) (by decide +kernel)) (fun _ _ _ _ _ => (dg_tup rfl (dgs_cons (dg_name (i := 5) sc_is_state.nd rfl) (dgs_cons (dg_name (i := 6) sc_is_state.nd rfl) dgs_nil)))) (fun _ _ _ _ _ => dts_nil) (fun _ _ _ _ _ => (dp_lt (dp_len T.b_len (da_cons (dp_var (i := 5)) da_nil)) (dp_var (i := 6))))) da_nil)))) (dss_one (ds_ret dp_bl)) dss_nil) (dss_cons (ds_asg (i := 4) sc_is_state.nd rfl (dp_fz (dp_cal h_all_members hr (by first | decide | omega) (da_cons (dp_var (i := 2)) (da_cons (dp_var (i := 3)) da_nil))))) (dss_one (ds_ret (dp_and (dp_eq (hu_R hr) (dp_lenSet rfl T.b_len T.b_set (dp_var (i := 4))) (dp_len T.b_len (da_cons (dp_var (i := 4)) da_nil))) (dp_one (dp_chain I_le I_le (dp_mth0 h_CupRow_min_members hr (by first | decide | omega) (dp_var (i := 0)) ) (dp_len T.b_len (da_cons (dp_var (i := 4)) da_nil)) (dp_globI T.c_MAX_MEMBERS)))))))))))
theorem b_require_state (h_is_state : CalR P w K mg base "is_state" 2 (F_is_state cs) [] 3) (h_copy_state : CalR P w K mg base "copy_state" 2 (F_copy_state cs) [] 1) (T : Tt K mg cs) : ∀ (cdv : Value) (A : Around) (outer : List PySem.Env) (s : Shared) (H : Hp) (E : XK), Room 3 (A.deeper (envOfC "require_state" (defScope s_require_state) s.heap.objs.size f cdv)) → PSs (cxOf CX0 P w K mg base N_require_state "require_state" (defScope s_require_state) f cdv A outer s H E).nox (defBody s_require_state) (LS K [] (m_require_state cs)) := fun cdv A outer s H E hr => (dss_cons (ds_if (dt_not (dt_val (dp_cal h_is_state hr (by first | decide | omega) (da_cons (dp_var (i := 0)) (da_cons (dp_var (i := 1)) da_nil))))) (dss_one ds_never) dss_nil) (dss_one (ds_ret (dp_cal h_copy_state hr (by first | decide | omega) (da_cons (dp_ix (dp_var (i := 1)) dp_int) (da_cons (dp_ix (dp_var (i := 1)) dp_int) da_nil))))))
theorem b_empty_full_cups  (T : Tt K mg cs) : ∀ (cdv : Value) (A : Around) (outer : List PySem.Env) (s : Shared) (H : Hp) (E : XK), Room 0 (A.deeper (envOfC "empty_full_cups" (defScope s_empty_full_cups) s.heap.objs.size f cdv)) → PSs (cxOf CX0 P w K mg base N_empty_full_cups "empty_full_cups" (defScope s_empty_full_cups) f cdv A outer s H E).nox (defBody s_empty_full_cups) (LS K [1, 2] (m_empty_full_cups cs)) := fun cdv A outer s H E hr => (dss_cons (ds_while PassesOwn.never (PW.pt (dw_and (dt_lt (dp_var (i := 3)) (dp_len T.b_len (da_cons (dp_var (i := 2)) da_nil))) (dw_and1 (dt_eq (hu_R hr) (dp_len T.b_len (da_cons (dp_ix (dp_var (i := 2)) (dp_var (i := 3))) da_nil)) (dp_ix (dp_fld T.k_CupRow T.n_CupRow_size_tuple (dp_var (i := 0))) (dp_var (i := 3))))))) (dss_cons (ds_take (j := 4) sc_empty_full_cups.nd rfl (dpl_ix (dpl_name (i := 2)) (dp_var (i := 3)))) (dss_cons (ds_setI (dpl_name (i := 2)) (dp_var (i := 3)) (dp_lst da_nil)) (dss_cons (ds_if (dt_eq (hu_R hr) (dp_var (i := 3)) (dp_sub (dp_len T.b_len (da_cons (dp_var (i := 2)) da_nil)) dp_int)) (dss_cons (ds_extend (dpl_name (i := 1)) (dp_var (i := 4))) (dss_one (ds_fz (h := (ds_ret (dp_var (i := 4))))))) dss_nil) (dss_cons (ds_appPop (j := 4) (dpl_ix (dpl_name (i := 2)) (dp_add (dp_var (i := 3)) dp_int)) (pe_var (i := 4) rfl (by first | exact Or.inl rfl | exact Or.inr (Or.inl rfl) | exact Or.inr (Or.inr rfl)) (by decide) (by decide)) (dp_ix (dp_fld T.k_CupRow T.n_CupRow_forward_tuple (dp_var (i := 0))) (dp_var (i := 3)))) (dss_cons (ds_extend (dpl_name (i := 1)) (dp_var (i := 4))) (dss_one (ds_aug_add (i := 3) sc_empty_full_cups.nd rfl dp_int)))))))) (dss_one (ds_ret dp_non)))
theorem b_apply_step (h_empty_full_cups : CalIO P w K mg base "empty_full_cups" 4 (F_empty_full_cups cs) [] 1) (T : Tt K mg cs) : ∀ (cdv : Value) (A : Around) (outer : List PySem.Env) (s : Shared) (H : Hp) (E : XK), Room 1 (A.deeper (envOfC "apply_step" (defScope s_apply_step) s.heap.objs.size f cdv)) → PSs (cxOf CX0 P w K mg base N_apply_step "apply_step" (defScope s_apply_step) f cdv A outer s H E).nox (defBody s_apply_step) (LS K [1, 2] (m_apply_step cs)) := fun cdv A outer s H E hr => (dss_cons (ds_appPop (j := 1) (dpl_ix (dpl_name (i := 2)) dp_int) (pe_var (i := 1) rfl (by first | exact Or.inl rfl | exact Or.inr (Or.inl rfl) | exact Or.inr (Or.inr rfl)) (by decide) (by decide)) dp_int) (dss_one (ds_retX (dm_cal h_empty_full_cups hr (by first | decide | omega) (dva_cons (dva_cons (dva_cons (dva_nil (da_cons dp_int da_nil)) (pe_var (i := 2) rfl (by first | exact Or.inl rfl | exact Or.inr (Or.inl rfl) | exact Or.inr (Or.inr rfl)) (by decide) (by decide))) (pe_var (i := 1) rfl (by first | exact Or.inl rfl | exact Or.inr (Or.inl rfl) | exact Or.inr (Or.inr rfl)) (by decide) (by decide))) (pe_var (i := 0) rfl (by first | exact Or.inl rfl | exact Or.inr (Or.inl rfl) | exact Or.inr (Or.inr rfl)) (by decide) (by decide)))))))
theorem b_next_state (h_require_cups : CalR P w K mg base "require_cups" 1 (F_require_cups cs) [] 1) (h_require_state : CalR P w K mg base "require_state" 2 (F_require_state cs) [] 4) (h_apply_step : CalIO P w K mg base "apply_step" 3 (F_apply_step cs) [] 2) (T : Tt K mg cs) : ∀ (cdv : Value) (A : Around) (outer : List PySem.Env) (s : Shared) (H : Hp) (E : XK), Room 4 (A.deeper (envOfC "next_state" (defScope s_next_state) s.heap.objs.size f cdv)) → PSs (cxOf CX0 P w K mg base N_next_state "next_state" (defScope s_next_state) f cdv A outer s H E).nox (defBody s_next_state) (LS K [] (m_next_state cs)) := fun cdv A outer s H E hr => (dss_cons (ds_drop (dp_cal h_require_cups hr (by first | decide | omega) (da_cons (dp_var (i := 0)) da_nil))) (dss_cons (ds_asgG (dp_cal h_require_state hr (by first | decide | omega) (da_cons (dp_var (i := 0)) (da_cons (dp_var (i := 1)) da_nil))) (dg_tup rfl (dgs_cons (dg_name (i := 2) sc_next_state.nd rfl) (dgs_cons (dg_name (i := 3) sc_next_state.nd rfl) dgs_nil)))) (dss_cons (ds_dropX (dm_cal h_apply_step hr (by first | decide | omega) (dva_cons (dva_cons (dva_cons (dva_nil da_nil) (pe_var (i := 3) rfl (by first | exact Or.inl rfl | exact Or.inr (Or.inl rfl) | exact Or.inr (Or.inr rfl)) (by decide) (by decide))) (pe_var (i := 2) rfl (by first | exact Or.inl rfl | exact Or.inr (Or.inl rfl) | exact Or.inr (Or.inr rfl)) (by decide) (by decide))) (pe_var (i := 0) rfl (by first | exact Or.inl rfl | exact Or.inr (Or.inl rfl) | exact Or.inr (Or.inr rfl)) (by decide) (by decide))))) (dss_one (ds_retP (pav_cons (i := 2) (pav_cons (i := 3) pav_nil)))))))
theorem b_law_script_value  (T : Tt K mg cs) : ∀ (cdv : Value) (A : Around) (outer : List PySem.Env) (s : Shared) (H : Hp) (E : XK), Room 0 (A.deeper (envOfC "_law_script_value" (defScope s_law_script_value) s.heap.objs.size f cdv)) → PSs (cxOf CX0 P w K mg base N_law_script_value "_law_script_value" (defScope s_law_script_value) f cdv A outer s H E).nox (defBody s_law_script_value) (LS K [] (m_law_script_value cs)) := fun cdv A outer s H E hr => (dss_cons (ds_if (dt_lt (dp_var (i := 1)) (dp_len T.b_len (da_cons (dp_var (i := 0)) da_nil))) (dss_one (ds_ret (dp_ix (dp_var (i := 0)) (dp_var (i := 1))))) dss_nil) (dss_one (ds_ret dp_int)))
theorem b_law_mix  (T : Tt K mg cs) : ∀ (cdv : Value) (A : Around) (outer : List PySem.Env) (s : Shared) (H : Hp) (E : XK), Room 0 (A.deeper (envOfC "_law_mix" (defScope s_law_mix) s.heap.objs.size f cdv)) → PSs (cxOf CX0 P w K mg base N_law_mix "_law_mix" (defScope s_law_mix) f cdv A outer s H E).nox (defBody s_law_mix) (LS K [] (m_law_mix cs)) := fun cdv A outer s H E hr => (dss_cons (ds_asg (i := 2) sc_law_mix.nd rfl (dp_fz (dp_add (dp_mod (dp_int1 T.b_int (da_cons (dp_var (i := 0)) da_nil)) dp_int) (dp_mul (dp_div (dp_var (i := 0)) dp_int) dp_int)))) (dss_cons (ds_asg (i := 2) sc_law_mix.nd rfl (dp_fz (dp_mod (dp_int1 T.b_int (da_cons (dp_mul (dp_add (dp_add (dp_var (i := 2)) (dp_mul dp_int (dp_var (i := 1)))) dp_int) dp_int) da_nil)) dp_int))) (dss_cons (ds_asg (i := 2) sc_law_mix.nd rfl (dp_fz (dp_mod (dp_int1 T.b_int (da_cons (dp_mul (dp_var (i := 2)) (dp_add (dp_add (dp_div (dp_var (i := 2)) dp_int) dp_int) (dp_var (i := 1)))) da_nil)) dp_int))) (dss_one (ds_ret (dp_mod (dp_int1 T.b_int (da_cons (dp_mul (dp_var (i := 2)) (dp_add (dp_div (dp_var (i := 2)) dp_int) dp_int)) da_nil)) dp_int))))))
theorem b_law_draw_source (h_law_mix : CalR P w K mg base "_law_mix" 2 (F_law_mix cs) [] 1) (h_law_script_value : CalR P w K mg base "_law_script_value" 2 (F_law_script_value cs) [] 1) (T : Tt K mg cs) : ∀ (cdv : Value) (A : Around) (outer : List PySem.Env) (s : Shared) (H : Hp) (E : XK), Room 1 (A.deeper (envOfC "_law_draw_source" (defScope s_law_draw_source) s.heap.objs.size f cdv)) → PSs (cxOf CX0 P w K mg base N_law_draw_source "_law_draw_source" (defScope s_law_draw_source) f cdv A outer s H E).nox (defBody s_law_draw_source) (LS K [] (m_law_draw_source cs)) := fun cdv A outer s H E hr => (dss_cons (ds_if (dt_lt (dp_var (i := 1)) (dp_len T.b_len (da_cons (dp_var (i := 0)) da_nil))) (dss_one (ds_ret (dp_src (dp_lst (da_cons (dp_ix (dp_var (i := 0)) (dp_var (i := 1))) (da_cons (dp_ix (dp_var (i := 0)) (dp_var (i := 1))) (da_cons dp_int da_nil))))))) dss_nil) (dss_cons (ds_asg (i := 2) sc_law_draw_source.nd rfl (dp_fz (dp_cal h_law_mix hr (by first | decide | omega) (da_cons (dp_cal h_law_script_value hr (by first | decide | omega) (da_cons (dp_var (i := 0)) (da_cons dp_int da_nil))) (da_cons (dp_add dp_int (dp_var (i := 1))) da_nil))))) (dss_one (ds_ret (dp_src (dp_lst (da_cons (dp_var (i := 2)) (da_cons (dp_var (i := 2)) (da_cons dp_int da_nil)))))))))
theorem b_law_draw (h_law_mix : CalR P w K mg base "_law_mix" 2 (F_law_mix cs) [] 1) (T : Tt K mg cs) : ∀ (cdv : Value) (A : Around) (outer : List PySem.Env) (s : Shared) (H : Hp) (E : XK), Room 1 (A.deeper (envOfC "_law_draw" (defScope s_law_draw) s.heap.objs.size f cdv)) → PSs (cxOf CX0 P w K mg base N_law_draw "_law_draw" (defScope s_law_draw) f cdv A outer s H E).nox (defBody s_law_draw) (LS K [] (m_law_draw cs)) := fun cdv A outer s H E hr => (dss_cons (ds_if (dt_ge (dp_ix (dp_var (i := 0)) dp_int) (dp_pow dp_int dp_int)) (dss_cons (ds_asg (i := 2) sc_law_draw.nd rfl (dp_fz (dp_mod (dp_int1 T.b_int (da_cons (dp_ix (dp_var (i := 0)) dp_int) da_nil)) (dp_var (i := 1))))) (dss_cons (ds_setVol (dp_var (i := 0)) dp_int (dp_div (dp_ix (dp_var (i := 0)) dp_int) (dp_var (i := 1)))) (dss_one (ds_ret (dp_var (i := 2)))))) dss_nil) (dss_cons (ds_setVol (dp_var (i := 0)) dp_int (dp_add (dp_ix (dp_var (i := 0)) dp_int) dp_int)) (dss_one (ds_ret (dp_mod (dp_int1 T.b_int (da_cons (dp_cal h_law_mix hr (by first | decide | omega) (da_cons (dp_ix (dp_var (i := 0)) dp_int) (da_cons (dp_ix (dp_var (i := 0)) dp_int) da_nil))) da_nil)) (dp_var (i := 1)))))))
theorem b_law_name_for  (T : Tt K mg cs) : ∀ (cdv : Value) (A : Around) (outer : List PySem.Env) (s : Shared) (H : Hp) (E : XK), Room 0 (A.deeper (envOfC "_law_name_for" (defScope s_law_name_for) s.heap.objs.size f cdv)) → PSs (cxOf CX0 P w K mg base N_law_name_for "_law_name_for" (defScope s_law_name_for) f cdv A outer s H E).nox (defBody s_law_name_for) (LS K [] (m_law_name_for cs)) := fun cdv A outer s H E hr => (dss_cons (ds_asg (i := 1) sc_law_name_for.nd rfl (dp_fz dp_str)) (dss_cons (ds_while PassesOwn.never (dt_ge (dp_var (i := 0)) dp_int) (dss_cons (ds_asg (i := 1) sc_law_name_for.nd rfl (dp_fz (dp_add (dp_ix dp_str (dp_mod (dp_int1 T.b_int (da_cons (dp_var (i := 0)) da_nil)) dp_int)) (dp_var (i := 1))))) (dss_one (ds_asg (i := 0) sc_law_name_for.nd rfl (dp_fz (dp_sub (dp_div (dp_var (i := 0)) dp_int) dp_int)))))) (dss_one (ds_ret (dp_var (i := 1))))))
theorem b_law_draw_names (h_law_draw : CalR P w K mg base "_law_draw" 2 (F_law_draw cs) [] 2) (h_law_name_for : CalR P w K mg base "_law_name_for" 1 (F_law_name_for cs) [] 1) (T : Tt K mg cs) : ∀ (cdv : Value) (A : Around) (outer : List PySem.Env) (s : Shared) (H : Hp) (E : XK), Room 2 (A.deeper (envOfC "_law_draw_names" (defScope s_law_draw_names) s.heap.objs.size f cdv)) → PSs (cxOf CX0 P w K mg base N_law_draw_names "_law_draw_names" (defScope s_law_draw_names) f cdv A outer s H E).nox (defBody s_law_draw_names) (LS K [] (m_law_draw_names cs)) := fun cdv A outer s H E hr => (dss_cons (ds_asg (i := 2) sc_law_draw_names.nd rfl (dp_fz (dp_ix (dp_lst (da_cons dp_int (da_cons dp_int (da_cons dp_int (da_cons dp_int da_nil))))) (dp_cal h_law_draw hr (by first | decide | omega) (da_cons (dp_var (i := 0)) (da_cons dp_int da_nil)))))) (dss_cons (ds_asg (i := 3) sc_law_draw_names.nd rfl (dp_fz (dp_ix (dp_lst (da_cons dp_int (da_cons dp_int (da_cons dp_int (da_cons dp_int da_nil))))) (dp_cal h_law_draw hr (by first | decide | omega) (da_cons (dp_var (i := 0)) (da_cons dp_int da_nil)))))) (dss_cons (ds_if (dt_eq (hu_R hr) (dp_mod (dp_int1 T.b_int (da_cons (dp_var (i := 1)) da_nil)) (dp_var (i := 3))) dp_int) (dss_one (ds_asg (i := 3) sc_law_draw_names.nd rfl (dp_fz dp_int))) dss_nil) (dss_one (ds_ret (dp_lc (own := [("_law_at", 4)]) rfl sc_law_draw_names.nd (di_rng1 T.b_range (dp_var (i := 1))) (blkOk_by (own := [("_law_at", 4)]) (N := N_law_draw_names) (sc := defScope s_law_draw_names) (by decide +kernel)) (fun _ _ _ _ _ => (dg_name (i := 4) sc_law_draw_names.nd rfl)) (fun _ _ _ _ _ => dts_nil) (fun _ _ _ _ _ => (dp_cal h_law_name_for hr (by first | decide | omega) (da_cons (dp_add (dp_var (i := 2)) (dp_mod (dp_int1 T.b_int (da_cons (dp_mul (dp_var (i := 4)) (dp_var (i := 3))) da_nil)) (dp_var (i := 1)))) da_nil)))))))))
theorem b_law_draw_cups (h_law_draw : CalR P w K mg base "_law_draw" 2 (F_law_draw cs) [] 2) (T : Tt K mg cs) : ∀ (cdv : Value) (A : Around) (outer : List PySem.Env) (s : Shared) (H : Hp) (E : XK), Room 2 (A.deeper (envOfC "_law_draw_cups" (defScope s_law_draw_cups) s.heap.objs.size f cdv)) → PSs (cxOf CX0 P w K mg base N_law_draw_cups "_law_draw_cups" (defScope s_law_draw_cups) f cdv A outer s H E).nox (defBody s_law_draw_cups) (LS K [] (m_law_draw_cups cs)) := fun cdv A outer s H E hr => (dss_cons (ds_asg (i := 4) sc_law_draw_cups.nd rfl (dp_lst da_nil)) (dss_cons (ds_asg (i := 5) sc_law_draw_cups.nd rfl (dp_fz (dp_var (i := 3)))) (dss_cons (ds_for PassesOwn.never rfl (di_rng1 T.b_range (dp_add dp_int (dp_cal h_law_draw hr (by first | decide | omega) (da_cons (dp_var (i := 0)) (da_cons (dp_var (i := 1)) da_nil))))) (dg_name (i := 6) sc_law_draw_cups.nd rfl) (dss_cons (ds_asg (i := 7) sc_law_draw_cups.nd rfl (dp_fz (dp_add dp_int (dp_min2 rfl T.b_min (da_cons (dp_var (i := 5)) (da_cons (dp_cal h_law_draw hr (by first | decide | omega) (da_cons (dp_var (i := 0)) (da_cons (dp_ix (dp_lst (da_cons dp_int (da_cons dp_int (da_cons (dp_var (i := 2)) da_nil)))) (dp_cal h_law_draw hr (by first | decide | omega) (da_cons (dp_var (i := 0)) (da_cons dp_int da_nil)))) da_nil))) da_nil)))))) (dss_cons (ds_append (dpl_name (i := 4)) (dp_var (i := 7))) (dss_one (ds_asg (i := 5) sc_law_draw_cups.nd rfl (dp_fz (dp_sub (dp_var (i := 5)) (dp_sub (dp_var (i := 7)) dp_int)))))))) (dss_cons (ds_asg (i := 8) sc_law_draw_cups.nd rfl (dp_fz (dp_cal h_law_draw hr (by first | decide | omega) (da_cons (dp_var (i := 0)) (da_cons dp_int da_nil))))) (dss_one (ds_fz (h := (ds_ret (dp_tup (da_cons (dp_var (i := 4)) (da_cons (dp_lc (own := [("_law_size", 7)]) rfl sc_law_draw_cups.nd (di_list (dp_sl (dp_var (i := 4)) do_none (do_some (dp_neg dp_int)))) (blkOk_by (own := [("_law_size", 7)]) (N := N_law_draw_cups) (sc := defScope s_law_draw_cups) (by decide +kernel)) (fun _ _ _ _ _ => (dg_name (i := 7) sc_law_draw_cups.nd rfl)) (fun _ _ _ _ _ => dts_nil) (fun _ _ _ _ _ => (dp_ix (dp_lst (da_cons dp_int (da_cons (dp_sub (dp_var (i := 7)) dp_int) (da_cons (dp_cal h_law_draw hr (by first | decide | omega) (da_cons (dp_var (i := 0)) (da_cons (dp_var (i := 7)) da_nil))) da_nil)))) (dp_var (i := 8))))) da_nil)))))))))))
theorem b_law_min_members  (T : Tt K mg cs) : ∀ (cdv : Value) (A : Around) (outer : List PySem.Env) (s : Shared) (H : Hp) (E : XK), Room 0 (A.deeper (envOfC "_law_min_members" (defScope s_law_min_members) s.heap.objs.size f cdv)) → PSs (cxOf CX0 P w K mg base N_law_min_members "_law_min_members" (defScope s_law_min_members) f cdv A outer s H E).nox (defBody s_law_min_members) (LS K [] (m_law_min_members cs)) := fun cdv A outer s H E hr => (dss_one (ds_ret (dp_add dp_int (dp_sum rfl T.b_sum (da_cons (dp_lc (own := [("_law_size", 1)]) rfl sc_law_min_members.nd (di_list (dp_var (i := 0))) (blkOk_by (own := [("_law_size", 1)]) (N := N_law_min_members) (sc := defScope s_law_min_members) (by decide +kernel)) (fun _ _ _ _ _ => (dg_name (i := 1) sc_law_min_members.nd rfl)) (fun _ _ _ _ _ => dts_nil) (fun _ _ _ _ _ => (dp_sub (dp_var (i := 1)) dp_int))) da_nil)))))
theorem b_law_draw_state (h_law_min_members : CalR P w K mg base "_law_min_members" 1 (F_law_min_members cs) [] 1) (h_law_draw_names : CalR P w K mg base "_law_draw_names" 2 (F_law_draw_names cs) [] 3) (h_law_draw : CalR P w K mg base "_law_draw" 2 (F_law_draw cs) [] 2) (T : Tt K mg cs) : ∀ (cdv : Value) (A : Around) (outer : List PySem.Env) (s : Shared) (H : Hp) (E : XK), Room 3 (A.deeper (envOfC "_law_draw_state" (defScope s_law_draw_state) s.heap.objs.size f cdv)) → PSs (cxOf CX0 P w K mg base N_law_draw_state "_law_draw_state" (defScope s_law_draw_state) f cdv A outer s H E).nox (defBody s_law_draw_state) (LS K [] (m_law_draw_state cs)) := fun cdv A outer s H E hr => (dss_cons (ds_asg (i := 3) sc_law_draw_state.nd rfl (dp_fz (dp_cal h_law_min_members hr (by first | decide | omega) (da_cons (dp_var (i := 1)) da_nil)))) (dss_cons (ds_asg (i := 4) sc_law_draw_state.nd rfl (dp_fz (dp_cal h_law_draw_names hr (by first | decide | omega) (da_cons (dp_var (i := 0)) (da_cons (dp_add (dp_var (i := 3)) (dp_cal h_law_draw hr (by first | decide | omega) (da_cons (dp_var (i := 0)) (da_cons (dp_add (dp_min2 rfl T.b_min (da_cons (dp_var (i := 2)) (da_cons (dp_sub dp_int (dp_var (i := 3))) da_nil))) dp_int) da_nil)))) da_nil))))) (dss_cons (ds_asg (i := 5) sc_law_draw_state.nd rfl (dp_fz (dp_cal h_law_draw hr (by first | decide | omega) (da_cons (dp_var (i := 0)) (da_cons (dp_len T.b_len (da_cons (dp_var (i := 4)) da_nil)) da_nil))))) (dss_cons (ds_asg (i := 6) sc_law_draw_state.nd rfl (dp_fz (dp_add (dp_sl (dp_var (i := 4)) (do_some (dp_var (i := 5))) do_none) (dp_sl (dp_var (i := 4)) do_none (do_some (dp_var (i := 5))))))) (dss_cons (ds_asg (i := 7) sc_law_draw_state.nd rfl (dp_lst da_nil)) (dss_cons (ds_asg (i := 8) sc_law_draw_state.nd rfl (dp_fz (dp_eq (hu_R hr) (dp_cal h_law_draw hr (by first | decide | omega) (da_cons (dp_var (i := 0)) (da_cons dp_int da_nil))) dp_int))) (dss_cons (ds_for PassesOwn.never rfl (di_list (dp_var (i := 1))) (dg_name (i := 9) sc_law_draw_state.nd rfl) (dss_cons (ds_asg (i := 10) sc_law_draw_state.nd rfl (dp_fz (dp_ix (dp_lst (da_cons (dp_cal h_law_draw hr (by first | decide | omega) (da_cons (dp_var (i := 0)) (da_cons (dp_var (i := 9)) da_nil))) (da_cons dp_int da_nil))) (dp_int1 T.b_int (da_cons (dp_var (i := 8)) da_nil))))) (dss_cons (ds_append (dpl_name (i := 7)) (dp_sl (dp_var (i := 6)) do_none (do_some (dp_var (i := 10))))) (dss_one (ds_asg (i := 6) sc_law_draw_state.nd rfl (dp_fz (dp_sl (dp_var (i := 6)) (do_some (dp_var (i := 10))) do_none))))))) (dss_one (ds_fz (h := (ds_ret (dp_tup (da_cons (dp_var (i := 6)) (da_cons (dp_var (i := 7)) da_nil))))))))))))))
theorem b_law_empty_cups  (T : Tt K mg cs) : ∀ (cdv : Value) (A : Around) (outer : List PySem.Env) (s : Shared) (H : Hp) (E : XK), Room 0 (A.deeper (envOfC "_law_empty_cups" (defScope s_law_empty_cups) s.heap.objs.size f cdv)) → PSs (cxOf CX0 P w K mg base N_law_empty_cups "_law_empty_cups" (defScope s_law_empty_cups) f cdv A outer s H E).nox (defBody s_law_empty_cups) (LS K [] (m_law_empty_cups cs)) := fun cdv A outer s H E hr => (dss_cons (ds_par2 (i := 2) (j := 3) rfl sc_law_empty_cups.nd rfl rfl (by decide) (dp_fz (dp_list T.b_list (da_cons (dp_var (i := 2)) da_nil))) (dp_lc (own := [("_law_items", 5)]) rfl sc_law_empty_cups.nd (di_list (dp_var (i := 3))) (blkOk_by (own := [("_law_items", 5)]) (N := N_law_empty_cups) (sc := defScope s_law_empty_cups) (by decide +kernel)) (fun _ _ _ _ _ => (dg_name (i := 5) sc_law_empty_cups.nd rfl)) (fun _ _ _ _ _ => dts_nil) (fun _ _ _ _ _ => (dp_list T.b_list (da_cons (dp_var (i := 5)) da_nil))))) (dss_cons (ds_while PassesOwn.never (PW.pt (dw_and (dt_lt (dp_var (i := 4)) (dp_len T.b_len (da_cons (dp_var (i := 0)) da_nil))) (dw_and1 (dt_eq (hu_R hr) (dp_len T.b_len (da_cons (dp_ix (dp_var (i := 3)) (dp_var (i := 4))) da_nil)) (dp_ix (dp_var (i := 0)) (dp_var (i := 4))))))) (dss_cons (ds_take (j := 5) sc_law_empty_cups.nd rfl (dpl_ix (dpl_name (i := 3)) (dp_var (i := 4)))) (dss_cons (ds_setI (dpl_name (i := 3)) (dp_var (i := 4)) (dp_lst da_nil)) (dss_cons (ds_if (dt_lt (dp_add (dp_var (i := 4)) dp_int) (dp_len T.b_len (da_cons (dp_var (i := 0)) da_nil))) (dss_one (ds_appPop (j := 5) (dpl_ix (dpl_name (i := 3)) (dp_add (dp_var (i := 4)) dp_int)) (pe_var (i := 5) rfl (by first | exact Or.inl rfl | exact Or.inr (Or.inl rfl) | exact Or.inr (Or.inr rfl)) (by decide) (by decide)) (dp_ix (dp_var (i := 1)) (dp_var (i := 4))))) dss_nil) (dss_cons (ds_asg (i := 2) sc_law_empty_cups.nd rfl (dp_fz (dp_add (dp_var (i := 2)) (dp_var (i := 5))))) (dss_one (ds_asg (i := 4) sc_law_empty_cups.nd rfl (dp_fz (dp_add (dp_var (i := 4)) dp_int))))))))) (dss_one (ds_fz (h := (ds_ret (dp_tup (da_cons (dp_var (i := 2)) (da_cons (dp_var (i := 3)) da_nil)))))))))
theorem b_law_step (h_law_empty_cups : CalR P w K mg base "_law_empty_cups" 5 (F_law_empty_cups cs) [] 1) (T : Tt K mg cs) : ∀ (cdv : Value) (A : Around) (outer : List PySem.Env) (s : Shared) (H : Hp) (E : XK), Room 1 (A.deeper (envOfC "_law_step" (defScope s_law_step) s.heap.objs.size f cdv)) → PSs (cxOf CX0 P w K mg base N_law_step "_law_step" (defScope s_law_step) f cdv A outer s H E).nox (defBody s_law_step) (LS K [] (m_law_step cs)) := fun cdv A outer s H E hr => (dss_cons (ds_asgG (dp_fz (dp_var (i := 2))) (dg_tup rfl (dgs_cons (dg_name (i := 3) sc_law_step.nd rfl) (dgs_cons (dg_name (i := 4) sc_law_step.nd rfl) dgs_nil)))) (dss_one (ds_ret (dp_cal h_law_empty_cups hr (by first | decide | omega) (da_cons (dp_var (i := 0)) (da_cons (dp_var (i := 1)) (da_cons (dp_sl (dp_var (i := 3)) (do_some dp_int) do_none) (da_cons (dp_add (dp_lst (da_cons (dp_add (dp_ix (dp_var (i := 4)) dp_int) (dp_sl (dp_var (i := 3)) do_none (do_some dp_int))) da_nil)) (dp_sl (dp_var (i := 4)) (do_some dp_int) do_none)) (da_cons dp_int da_nil)))))))))
theorem b_law_lists_are_separate  (T : Tt K mg cs) : ∀ (cdv : Value) (A : Around) (outer : List PySem.Env) (s : Shared) (H : Hp) (E : XK), Room 0 (A.deeper (envOfC "_law_lists_are_separate" (defScope s_law_lists_are_separate) s.heap.objs.size f cdv)) → PSs (cxOf CX0 P w K mg base N_law_lists_are_separate "_law_lists_are_separate" (defScope s_law_lists_are_separate) f cdv A outer s H E).nox (defBody s_law_lists_are_separate) (LS K [0] (m_law_lists_are_separate cs)) := fun cdv A outer s H E hr => (dss_cons (ds_rev (dpl_ixT (dpl_name (i := 0)) dp_int)) (dss_cons (ds_append (dpl_ixT (dpl_name (i := 0)) dp_int) dp_str) (dss_cons (ds_if (dt_ne (hu_R hr) (dp_ix (dp_var (i := 0)) dp_int) (dp_ix (dp_var (i := 1)) dp_int)) (dss_one (ds_ret dp_bl)) dss_nil) (dss_cons (ds_for PassesOwn.never rfl (di_rng1 T.b_range (dp_len T.b_len (da_cons (dp_ix (dp_var (i := 0)) dp_int) da_nil))) (dg_name (i := 2) sc_law_lists_are_separate.nd rfl) (dss_cons (ds_append (dpl_ix (dpl_ixT (dpl_name (i := 0)) dp_int) (dp_var (i := 2))) dp_str) (dss_one (ds_if (dt_ne (hu_R hr) (dp_slB (dp_ix (dp_var (i := 0)) dp_int) (do_some (dp_add (dp_var (i := 2)) dp_int)) do_none) (dp_sl (dp_ix (dp_var (i := 1)) dp_int) (do_some (dp_add (dp_var (i := 2)) dp_int)) do_none)) (dss_one (ds_ret dp_bl)) dss_nil)))) (dss_cons (ds_append (dpl_ixT (dpl_name (i := 0)) dp_int) (dp_lst da_nil)) (dss_one (ds_ret dp_bl)))))))
theorem b_law_check (h_law_step : CalR P w K mg base "_law_step" 3 (F_law_step cs) [] 2) (h_next_state : CalR P w K mg base "next_state" 2 (F_next_state cs) [] 5) (h_law_lists_are_separate : CalIO P w K mg base "_law_lists_are_separate" 2 (F_law_lists_are_separate cs) [] 1) (T : Tt K mg cs) : ∀ (cdv : Value) (A : Around) (outer : List PySem.Env) (s : Shared) (H : Hp) (E : XK), Room 5 (A.deeper (envOfC "_law_check" (defScope s_law_check) s.heap.objs.size f cdv)) → PSs (cxOf CX0 P w K mg base N_law_check "_law_check" (defScope s_law_check) f cdv A outer s H E).nox (defBody s_law_check) (LS K [] (m_law_check cs)) := fun cdv A outer s H E hr => (dss_cons (ds_for PassesOwn.never rfl (di_rng1 T.b_range (dp_var (i := 4))) (dg_name (i := 5) sc_law_check.nd rfl) (dss_cons (ds_asg (i := 6) sc_law_check.nd rfl (dp_fz (dp_cal h_law_step hr (by first | decide | omega) (da_cons (dp_var (i := 1)) (da_cons (dp_var (i := 2)) (da_cons (dp_var (i := 3)) da_nil)))))) (dss_cons (ds_asg (i := 7) sc_law_check.nd rfl (dp_tup (da_cons (dp_list T.b_list (da_cons (dp_ix (dp_var (i := 3)) dp_int) da_nil)) (da_cons (dp_lc (own := [("_law_items", 10)]) rfl sc_law_check.nd (di_list (dp_ix (dp_var (i := 3)) dp_int)) (blkOk_by (own := [("_law_items", 10)]) (N := N_law_check) (sc := defScope s_law_check) (by decide +kernel)) (fun _ _ _ _ _ => (dg_name (i := 10) sc_law_check.nd rfl)) (fun _ _ _ _ _ => dts_nil) (fun _ _ _ _ _ => (dp_list T.b_list (da_cons (dp_var (i := 10)) da_nil)))) da_nil)))) (dss_cons (ds_for PassesOwn.never rfl (di_rng1 T.b_range dp_int) (dg_name (i := 8) sc_law_check.nd rfl) (dss_cons (ds_asg (i := 9) sc_law_check.nd rfl (dp_cal h_next_state hr (by first | decide | omega) (da_cons (dp_var (i := 0)) (da_cons (dp_var (i := 7)) da_nil)))) (dss_cons (ds_if (PW.pt (dw_or (dt_ne (hu_R hr) (dp_var (i := 9)) (dp_var (i := 6))) (dw_or (dt_not (dt_val (dp_is (n := "tuple") T.b_isinstance T.b_tuple (by decide) (by decide +kernel) (dp_var (i := 9))))) (dw_or1 (dt_ne (hu_R hr) (dp_var (i := 7)) (dp_var (i := 3))))))) (dss_one (ds_ret dp_bl)) dss_nil) (dss_one (ds_ifXn (dm_cal h_law_lists_are_separate hr (by first | decide | omega) (dva_cons (dva_cons (dva_nil da_nil) (pe_var (i := 6) rfl (by first | exact Or.inl rfl | exact Or.inr (Or.inl rfl) | exact Or.inr (Or.inr rfl)) (by decide) (by decide))) (pe_var (i := 9) rfl (by first | exact Or.inl rfl | exact Or.inr (Or.inl rfl) | exact Or.inr (Or.inr rfl)) (by decide) (by decide)))) (dss_one (ds_ret dp_bl)) dss_nil))))) (dss_cons (ds_clear (dpl_ixT (dpl_name (i := 7)) dp_int)) (dss_one (ds_asg (i := 3) sc_law_check.nd rfl (dp_fz (dp_var (i := 6)))))))))) (dss_one (ds_ret dp_bl)))
theorem b_law_check_shared_list (h_law_step : CalR P w K mg base "_law_step" 3 (F_law_step cs) [] 2) (h_next_state : CalR P w K mg base "next_state" 2 (F_next_state cs) [] 5) (T : Tt K mg cs) : ∀ (cdv : Value) (A : Around) (outer : List PySem.Env) (s : Shared) (H : Hp) (E : XK), Room 5 (A.deeper (envOfC "_law_check_shared_list" (defScope s_law_check_shared_list) s.heap.objs.size f cdv)) → PSs (cxOf CX0 P w K mg base N_law_check_shared_list "_law_check_shared_list" (defScope s_law_check_shared_list) f cdv A outer s H E).nox (defBody s_law_check_shared_list) (LS K [] (m_law_check_shared_list cs)) := fun cdv A outer s H E hr => (dss_cons (ds_asg (i := 4) sc_law_check_shared_list.nd rfl (dp_fz (dp_add (dp_ix (dp_var (i := 3)) dp_int) (dp_sumL rfl T.b_sum (da_cons (dp_ix (dp_var (i := 3)) dp_int) (da_cons (dp_lst da_nil) da_nil)))))) (dss_cons (ds_asg (i := 5) sc_law_check_shared_list.nd rfl (dp_fz (dp_mul (dp_lst (da_cons (dp_lst da_nil) da_nil)) (dp_len T.b_len (da_cons (dp_var (i := 1)) da_nil))))) (dss_cons (ds_asg (i := 6) sc_law_check_shared_list.nd rfl (dp_fz (dp_cal h_law_step hr (by first | decide | omega) (da_cons (dp_var (i := 1)) (da_cons (dp_var (i := 2)) (da_cons (dp_tup (da_cons (dp_var (i := 4)) (da_cons (dp_lc (own := [("_law_size", 7)]) rfl sc_law_check_shared_list.nd (di_list (dp_var (i := 1))) (blkOk_by (own := [("_law_size", 7)]) (N := N_law_check_shared_list) (sc := defScope s_law_check_shared_list) (by decide +kernel)) (fun _ _ _ _ _ => (dg_name (i := 7) sc_law_check_shared_list.nd rfl)) (fun _ _ _ _ _ => dts_nil) (fun _ _ _ _ _ => (dp_lst da_nil))) da_nil))) da_nil)))))) (dss_one (ds_ret (dp_and (dp_eq (hu_R hr) (dp_cal h_next_state hr (by first | decide | omega) (da_cons (dp_var (i := 0)) (da_cons (dp_tup (da_cons (dp_var (i := 4)) (da_cons (dp_var (i := 5)) da_nil))) da_nil))) (dp_var (i := 6))) (dp_one (dp_eq (hu_R hr) (dp_var (i := 5)) (dp_mul (dp_lst (da_cons (dp_lst da_nil) da_nil)) (dp_len T.b_len (da_cons (dp_var (i := 1)) da_nil)))))))))))
theorem b_law (h_law_draw_source : CalR P w K mg base "_law_draw_source" 2 (F_law_draw_source cs) [] 2) (h_law_draw_cups : CalR P w K mg base "_law_draw_cups" 4 (F_law_draw_cups cs) [] 3) (h_law_draw : CalR P w K mg base "_law_draw" 2 (F_law_draw cs) [] 2) (h_law_draw_state : CalR P w K mg base "_law_draw_state" 3 (F_law_draw_state cs) [] 4) (h_CupRow_init_k : MakKR P w K mg base "CupRow" cs.CupRow 3 (F_CupRow_init cs) 1 ["forward"] 3) (h_law_check : CalR P w K mg base "_law_check" 5 (F_law_check cs) [] 6) (h_law_check_shared_list : CalR P w K mg base "_law_check_shared_list" 4 (F_law_check_shared_list cs) [] 6) (T : Tt K mg cs) : ∀ (cdv : Value) (A : Around) (outer : List PySem.Env) (s : Shared) (H : Hp) (E : XK), Room 6 (A.deeper (envOfC "law" (defScope s_law) s.heap.objs.size f cdv)) → PSs (cxOf CX0 P w K mg base N_law "law" (defScope s_law) f cdv A outer s H E).nox (defBody s_law) (LS K [] (m_law cs)) := fun cdv A outer s H E hr => (dss_cons (ds_for PassesOwn.never rfl (di_rng1 T.b_range (dp_max2 rfl T.b_max (da_cons dp_int (da_cons (dp_min2 rfl T.b_min (da_cons dp_int (da_cons (dp_len T.b_len (da_cons (dp_var (i := 0)) da_nil)) da_nil))) da_nil)))) (dg_name (i := 1) sc_law.nd rfl) (dss_cons (ds_asg (i := 2) sc_law.nd rfl (dp_fz (dp_cal h_law_draw_source hr (by first | decide | omega) (da_cons (dp_var (i := 0)) (da_cons (dp_var (i := 1)) da_nil))))) (dss_cons (ds_asgG (dp_fz (dp_cal h_law_draw_cups hr (by first | decide | omega) (da_cons (dp_var (i := 2)) (da_cons (dp_ix (dp_lst (da_cons dp_int (da_cons dp_int (da_cons dp_int da_nil)))) (dp_cal h_law_draw hr (by first | decide | omega) (da_cons (dp_var (i := 2)) (da_cons dp_int da_nil)))) (da_cons dp_int (da_cons dp_int da_nil)))))) (dg_tup rfl (dgs_cons (dg_name (i := 3) sc_law.nd rfl) (dgs_cons (dg_name (i := 4) sc_law.nd rfl) dgs_nil)))) (dss_cons (ds_asg (i := 5) sc_law.nd rfl (dp_fz (dp_cal h_law_draw_state hr (by first | decide | omega) (da_cons (dp_var (i := 2)) (da_cons (dp_var (i := 3)) (da_cons (dp_ix (dp_lst (da_cons dp_int (da_cons dp_int da_nil))) (dp_cal h_law_draw hr (by first | decide | omega) (da_cons (dp_var (i := 2)) (da_cons dp_int da_nil)))) da_nil)))))) (dss_cons (ds_asg (i := 6) sc_law.nd rfl (dp_fz (dp_makek h_CupRow_init_k hr (by first | decide | omega) (da_cons (dp_var (i := 3)) da_nil) (dk_cons (dp_var (i := 4)) dk_nil)))) (dss_cons (ds_if (dt_not (dt_val (dp_cal h_law_check hr (by first | decide | omega) (da_cons (dp_var (i := 6)) (da_cons (dp_var (i := 3)) (da_cons (dp_var (i := 4)) (da_cons (dp_var (i := 5)) (da_cons (dp_add dp_int (dp_cal h_law_draw hr (by first | decide | omega) (da_cons (dp_var (i := 2)) (da_cons dp_int da_nil)))) da_nil)))))))) (dss_one (ds_ret dp_bl)) dss_nil) (dss_one (ds_if (dt_not (dt_val (dp_cal h_law_check_shared_list hr (by first | decide | omega) (da_cons (dp_var (i := 6)) (da_cons (dp_var (i := 3)) (da_cons (dp_var (i := 4)) (da_cons (dp_var (i := 5)) da_nil))))))) (dss_one (ds_ret dp_bl)) dss_nil)))))))) (dss_one (ds_ret dp_bl)))
end
abbrev dD_is_integer : He.DefD := ⟨("is_integer", none), "is_integer", "is_integer", defArgs s_is_integer, defBody s_is_integer, defScope s_is_integer, [.int 0], []⟩
abbrev dD_are_sizes : He.DefD := ⟨("are_sizes", none), "are_sizes", "are_sizes", defArgs s_are_sizes, defBody s_are_sizes, defScope s_are_sizes, [], []⟩
abbrev dD_are_forward_indices : He.DefD := ⟨("are_forward_indices", none), "are_forward_indices", "are_forward_indices", defArgs s_are_forward_indices, defBody s_are_forward_indices, defScope s_are_forward_indices, [], []⟩
abbrev dD_CupRow_init : He.DefD := ⟨("CupRow", some "__init__"), "__init__", "CupRow.__init__", defArgs s_CupRow_init, defBody s_CupRow_init, defScope s_CupRow_init, [], [("forward", .non)]⟩
abbrev dD_CupRow_min_members : He.DefD := ⟨("CupRow", some "min_members"), "min_members", "CupRow.min_members", defArgs s_CupRow_min_members, defBody s_CupRow_min_members, defScope s_CupRow_min_members, [], []⟩
abbrev dD_require_cups : He.DefD := ⟨("require_cups", none), "require_cups", "require_cups", defArgs s_require_cups, defBody s_require_cups, defScope s_require_cups, [], []⟩
abbrev dD_is_name : He.DefD := ⟨("is_name", none), "is_name", "is_name", defArgs s_is_name, defBody s_is_name, defScope s_is_name, [], []⟩
abbrev dD_is_name_list : He.DefD := ⟨("is_name_list", none), "is_name_list", "is_name_list", defArgs s_is_name_list, defBody s_is_name_list, defScope s_is_name_list, [], []⟩
abbrev dD_all_members : He.DefD := ⟨("all_members", none), "all_members", "all_members", defArgs s_all_members, defBody s_all_members, defScope s_all_members, [], []⟩
abbrev dD_copy_state : He.DefD := ⟨("copy_state", none), "copy_state", "copy_state", defArgs s_copy_state, defBody s_copy_state, defScope s_copy_state, [], []⟩
abbrev dD_is_state : He.DefD := ⟨("is_state", none), "is_state", "is_state", defArgs s_is_state, defBody s_is_state, defScope s_is_state, [], []⟩
abbrev dD_require_state : He.DefD := ⟨("require_state", none), "require_state", "require_state", defArgs s_require_state, defBody s_require_state, defScope s_require_state, [], []⟩
abbrev dD_empty_full_cups : He.DefD := ⟨("empty_full_cups", none), "empty_full_cups", "empty_full_cups", defArgs s_empty_full_cups, defBody s_empty_full_cups, defScope s_empty_full_cups, [], []⟩
abbrev dD_apply_step : He.DefD := ⟨("apply_step", none), "apply_step", "apply_step", defArgs s_apply_step, defBody s_apply_step, defScope s_apply_step, [], []⟩
abbrev dD_next_state : He.DefD := ⟨("next_state", none), "next_state", "next_state", defArgs s_next_state, defBody s_next_state, defScope s_next_state, [], []⟩
abbrev dD_law_script_value : He.DefD := ⟨("_law_script_value", none), "_law_script_value", "_law_script_value", defArgs s_law_script_value, defBody s_law_script_value, defScope s_law_script_value, [], []⟩
abbrev dD_law_mix : He.DefD := ⟨("_law_mix", none), "_law_mix", "_law_mix", defArgs s_law_mix, defBody s_law_mix, defScope s_law_mix, [], []⟩
abbrev dD_law_draw_source : He.DefD := ⟨("_law_draw_source", none), "_law_draw_source", "_law_draw_source", defArgs s_law_draw_source, defBody s_law_draw_source, defScope s_law_draw_source, [], []⟩
abbrev dD_law_draw : He.DefD := ⟨("_law_draw", none), "_law_draw", "_law_draw", defArgs s_law_draw, defBody s_law_draw, defScope s_law_draw, [], []⟩
abbrev dD_law_name_for : He.DefD := ⟨("_law_name_for", none), "_law_name_for", "_law_name_for", defArgs s_law_name_for, defBody s_law_name_for, defScope s_law_name_for, [], []⟩
abbrev dD_law_draw_names : He.DefD := ⟨("_law_draw_names", none), "_law_draw_names", "_law_draw_names", defArgs s_law_draw_names, defBody s_law_draw_names, defScope s_law_draw_names, [], []⟩
abbrev dD_law_draw_cups : He.DefD := ⟨("_law_draw_cups", none), "_law_draw_cups", "_law_draw_cups", defArgs s_law_draw_cups, defBody s_law_draw_cups, defScope s_law_draw_cups, [], []⟩
abbrev dD_law_min_members : He.DefD := ⟨("_law_min_members", none), "_law_min_members", "_law_min_members", defArgs s_law_min_members, defBody s_law_min_members, defScope s_law_min_members, [], []⟩
abbrev dD_law_draw_state : He.DefD := ⟨("_law_draw_state", none), "_law_draw_state", "_law_draw_state", defArgs s_law_draw_state, defBody s_law_draw_state, defScope s_law_draw_state, [], []⟩
abbrev dD_law_empty_cups : He.DefD := ⟨("_law_empty_cups", none), "_law_empty_cups", "_law_empty_cups", defArgs s_law_empty_cups, defBody s_law_empty_cups, defScope s_law_empty_cups, [], []⟩
abbrev dD_law_step : He.DefD := ⟨("_law_step", none), "_law_step", "_law_step", defArgs s_law_step, defBody s_law_step, defScope s_law_step, [], []⟩
abbrev dD_law_lists_are_separate : He.DefD := ⟨("_law_lists_are_separate", none), "_law_lists_are_separate", "_law_lists_are_separate", defArgs s_law_lists_are_separate, defBody s_law_lists_are_separate, defScope s_law_lists_are_separate, [], []⟩
abbrev dD_law_check : He.DefD := ⟨("_law_check", none), "_law_check", "_law_check", defArgs s_law_check, defBody s_law_check, defScope s_law_check, [], []⟩
abbrev dD_law_check_shared_list : He.DefD := ⟨("_law_check_shared_list", none), "_law_check_shared_list", "_law_check_shared_list", defArgs s_law_check_shared_list, defBody s_law_check_shared_list, defScope s_law_check_shared_list, [], []⟩
abbrev dD_law : He.DefD := ⟨("law", none), "law", "law", defArgs s_law, defBody s_law, defScope s_law, [], []⟩
def fn : List He.DefD := [dD_is_integer, dD_are_sizes, dD_are_forward_indices, dD_CupRow_init, dD_CupRow_min_members, dD_require_cups, dD_is_name, dD_is_name_list, dD_all_members, dD_copy_state, dD_is_state, dD_require_state, dD_empty_full_cups, dD_apply_step, dD_next_state, dD_law_script_value, dD_law_mix, dD_law_draw_source, dD_law_draw, dD_law_name_for, dD_law_draw_names, dD_law_draw_cups, dD_law_min_members, dD_law_draw_state, dD_law_empty_cups, dD_law_step, dD_law_lists_are_separate, dD_law_check, dD_law_check_shared_list, dD_law]
abbrev csK (K : PySem.W.Frag) : Cs := ⟨He.ga K "CupLadderError", He.ga K "InvalidCups", He.ga K "InvalidState", He.ga K "CupRow"⟩
def fa : List He.Fa := [.glo "CupLadderError", .glo "InvalidCups", .glo "InvalidState", .glo "CupRow", .free "all", .free "bool", .free "int", .free "isinstance", .free "len", .free "list", .free "max", .free "min", .free "range", .free "set", .free "str", .free "sum", .free "tuple", .free "zip", .str "LETTERS" "abcdefghijklmnopqrstuvwxyz", .int "MAX_CUPS" 30, .int "MAX_EXTRA" 30, .int "MAX_LETTERS" 8, .int "MAX_MEMBERS" 40, .int "MAX_SIZE" 9, .cls "CupRow", .noat "CupRow" "forward_tuple", .noat "CupRow" "size_tuple", .noat "CupRow" "weights", .glo "_law_mix", .glo "_law_script_value", .glo "_law_draw_source", .glo "_law_draw", .glo "_law_draw_cups", .glo "_law_min_members", .glo "_law_name_for", .glo "_law_draw_names", .glo "_law_draw_state", .glo "is_integer", .glo "are_sizes", .glo "are_forward_indices", .mkr "CupRow", .glo "_law_empty_cups", .glo "_law_step", .glo "require_cups", .glo "is_name", .glo "is_name_list", .glo "all_members", .meth "CupRow" "min_members", .glo "is_state", .glo "copy_state", .glo "require_state", .glo "empty_full_cups", .glo "apply_step", .glo "next_state", .glo "_law_lists_are_separate", .glo "_law_check", .glo "_law_check_shared_list", .glo "law"]
def names0 : List PySem.Str := ["_wall", "CupLadderError", "InvalidCups", "InvalidState", "MAX_CUPS", "MAX_SIZE", "MAX_EXTRA", "is_integer", "are_sizes", "are_forward_indices", "CupRow", "require_cups", "LETTERS", "MAX_LETTERS", "MAX_MEMBERS", "is_name", "is_name_list", "all_members", "copy_state", "is_state", "require_state", "empty_full_cups", "apply_step", "next_state", "_law_script_value", "_law_mix", "_law_draw_source", "_law_draw", "_law_name_for", "_law_draw_names"]
def names1 : List PySem.Str := ["_law_draw_cups", "_law_min_members", "_law_draw_state", "_law_empty_cups", "_law_step", "_law_lists_are_separate", "_law_check", "_law_check_shared_list"]
def names : List PySem.Str := names0 ++ names1
def isl : List PySem.Str := ["CupRow"]
abbrev rowR : PySem.W.OpenRow := PySem.W.OpenLaw.row PySem.Challenge.rw_cupladder_k03_single_steps
abbrev hk : PySem.W.Hook := R.hookE 5 fa fn isl
def ob (s : PySem.W.SharedT) : He.AlD × Bool := R.obsE 5 fa fn isl (HandSHeadRun.getT s)
theorem ob_eq (s : PySem.W.SharedT) : ob s = hk.obs s.abs := R.obsE_eq (HandSHeadRun.getT_eq s)
abbrev qv := PySem.W.view rowR.prog [42]
theorem run (w : World) : HandSHeadRun.RunEq rowR qv hk ob 4000 names w := by
  intro os
  kernel_rfl
theorem facts {P : Program} {w : World} {K : PySem.W.Frag} {h : Heap} {mg : PySem.Str → Option Value} {f : Addr} (X : K.In h) (G : h.Ns mainGlobals mg) (hfa : mg ("law" : PySem.Str) = some (.ref f)) (c : He.SaysD fa fn K) (ci : isl.all (isB K) = true) : ∃ (cs : Cs) (fd : FuncData), (∀ (s : Shared) (v : Value), BindsTo s fd ⟨[v], []⟩ [("_law_script", v)]) ∧ ∀ base : Heap, K.In base → base.Ns mainGlobals mg → FnOk P w K mg base CX0 7 f fd ["_law_script"] (spR K 1 (F_law cs).io) := by
  obtain ⟨fd0, FD0⟩ := c.def_ 0 (d := dD_is_integer) rfl
  obtain ⟨fd1, FD1⟩ := c.def_ 1 (d := dD_are_sizes) rfl
  obtain ⟨fd2, FD2⟩ := c.def_ 2 (d := dD_are_forward_indices) rfl
  obtain ⟨fd3, FD3⟩ := c.def_ 3 (d := dD_CupRow_init) rfl
  obtain ⟨fd4, FD4⟩ := c.def_ 4 (d := dD_CupRow_min_members) rfl
  obtain ⟨fd5, FD5⟩ := c.def_ 5 (d := dD_require_cups) rfl
  obtain ⟨fd6, FD6⟩ := c.def_ 6 (d := dD_is_name) rfl
  obtain ⟨fd7, FD7⟩ := c.def_ 7 (d := dD_is_name_list) rfl
  obtain ⟨fd8, FD8⟩ := c.def_ 8 (d := dD_all_members) rfl
  obtain ⟨fd9, FD9⟩ := c.def_ 9 (d := dD_copy_state) rfl
  obtain ⟨fd10, FD10⟩ := c.def_ 10 (d := dD_is_state) rfl
  obtain ⟨fd11, FD11⟩ := c.def_ 11 (d := dD_require_state) rfl
  obtain ⟨fd12, FD12⟩ := c.def_ 12 (d := dD_empty_full_cups) rfl
  obtain ⟨fd13, FD13⟩ := c.def_ 13 (d := dD_apply_step) rfl
  obtain ⟨fd14, FD14⟩ := c.def_ 14 (d := dD_next_state) rfl
  obtain ⟨fd15, FD15⟩ := c.def_ 15 (d := dD_law_script_value) rfl
  obtain ⟨fd16, FD16⟩ := c.def_ 16 (d := dD_law_mix) rfl
  obtain ⟨fd17, FD17⟩ := c.def_ 17 (d := dD_law_draw_source) rfl
  obtain ⟨fd18, FD18⟩ := c.def_ 18 (d := dD_law_draw) rfl
  obtain ⟨fd19, FD19⟩ := c.def_ 19 (d := dD_law_name_for) rfl
  obtain ⟨fd20, FD20⟩ := c.def_ 20 (d := dD_law_draw_names) rfl
  obtain ⟨fd21, FD21⟩ := c.def_ 21 (d := dD_law_draw_cups) rfl
  obtain ⟨fd22, FD22⟩ := c.def_ 22 (d := dD_law_min_members) rfl
  obtain ⟨fd23, FD23⟩ := c.def_ 23 (d := dD_law_draw_state) rfl
  obtain ⟨fd24, FD24⟩ := c.def_ 24 (d := dD_law_empty_cups) rfl
  obtain ⟨fd25, FD25⟩ := c.def_ 25 (d := dD_law_step) rfl
  obtain ⟨fd26, FD26⟩ := c.def_ 26 (d := dD_law_lists_are_separate) rfl
  obtain ⟨fd27, FD27⟩ := c.def_ 27 (d := dD_law_check) rfl
  obtain ⟨fd28, FD28⟩ := c.def_ 28 (d := dD_law_check_shared_list) rfl
  obtain ⟨fd29, FD29⟩ := c.def_ 29 (d := dD_law) rfl
  have T : Tt K mg (csK K) := ⟨He.free_ok X G (c.fact 4 (f := .free "all") rfl),
    He.free_ok X G (c.fact 5 (f := .free "bool") rfl),
    He.free_ok X G (c.fact 6 (f := .free "int") rfl),
    He.free_ok X G (c.fact 7 (f := .free "isinstance") rfl),
    He.free_ok X G (c.fact 8 (f := .free "len") rfl),
    He.free_ok X G (c.fact 9 (f := .free "list") rfl),
    He.free_ok X G (c.fact 10 (f := .free "max") rfl),
    He.free_ok X G (c.fact 11 (f := .free "min") rfl),
    He.free_ok X G (c.fact 12 (f := .free "range") rfl),
    He.free_ok X G (c.fact 13 (f := .free "set") rfl),
    He.free_ok X G (c.fact 14 (f := .free "str") rfl),
    He.free_ok X G (c.fact 15 (f := .free "sum") rfl),
    He.free_ok X G (c.fact 16 (f := .free "tuple") rfl),
    He.free_ok X G (c.fact 17 (f := .free "zip") rfl),
    He.str_ok X G (c.fact 18 (f := .str "LETTERS" "abcdefghijklmnopqrstuvwxyz") rfl),
    He.int_ok X G (c.fact 19 (f := .int "MAX_CUPS" 30) rfl),
    He.int_ok X G (c.fact 20 (f := .int "MAX_EXTRA" 30) rfl),
    He.int_ok X G (c.fact 21 (f := .int "MAX_LETTERS" 8) rfl),
    He.int_ok X G (c.fact 22 (f := .int "MAX_MEMBERS" 40) rfl),
    He.int_ok X G (c.fact 23 (f := .int "MAX_SIZE" 9) rfl),
    He.glo_ok X G (c.fact 3 (f := .glo "CupRow") rfl),
    isB_ok (List.all_eq_true.mp ci "CupRow" (by decide)) (He.cls_ok (c.fact 24 (f := .cls "CupRow") rfl)),
    He.cls_ok (c.fact 24 (f := .cls "CupRow") rfl),
    He.noat_ok (c.fact 25 (f := .noat "CupRow" "forward_tuple") rfl),
    He.noat_ok (c.fact 26 (f := .noat "CupRow" "size_tuple") rfl),
    He.noat_ok (c.fact 27 (f := .noat "CupRow" "weights") rfl)⟩
  have e := hfa.symm.trans (He.glo_ok X G (c.fact 57 (f := .glo "law") rfl))
  cases e
  have bL := FunD.bindsA (ps := ["_law_script"]) FD29 fun _ _ _ _ _ _ us hl => match us, hl with | [_], _ => rfl
  refine ⟨csK K, fd29, fun s v => bL s [v] rfl, fun base _ _ => ?_⟩
  have ok_law_mix : FnOk P w K mg base CX0 1 _ fd16 P_law_mix (spR K 2 (F_law_mix (csK K)).io) := fn_R FD16 sc_law_mix rfl (b_law_mix  T) (fun ss Q _ q => wp_law_mix (csK K) ss Q q)
  have h_law_mix : CalR P w K mg base "_law_mix" 2 (F_law_mix (csK K)) [] 1 := by
      exact ⟨_, fd16, P_law_mix, [], [], ok_law_mix, He.glo_ok X G (c.fact 28 (f := .glo "_law_mix") rfl), FD16.kp, (FunD.bindsN (ps := P_law_mix) FD16 fun _ _ _ _ _ _ us hl => match us, hl with | [_, _], _ => rfl), .nil, fun _ => .nil⟩
  have ok_law_script_value : FnOk P w K mg base CX0 1 _ fd15 P_law_script_value (spR K 2 (F_law_script_value (csK K)).io) := fn_R FD15 sc_law_script_value rfl (b_law_script_value  T) (fun ss Q _ q => wp_law_script_value (csK K) ss Q q)
  have h_law_script_value : CalR P w K mg base "_law_script_value" 2 (F_law_script_value (csK K)) [] 1 := by
      exact ⟨_, fd15, P_law_script_value, [], [], ok_law_script_value, He.glo_ok X G (c.fact 29 (f := .glo "_law_script_value") rfl), FD15.kp, (FunD.bindsN (ps := P_law_script_value) FD15 fun _ _ _ _ _ _ us hl => match us, hl with | [_, _], _ => rfl), .nil, fun _ => .nil⟩
  have ok_law_draw_source : FnOk P w K mg base CX0 2 _ fd17 P_law_draw_source (spR K 2 (F_law_draw_source (csK K)).io) := fn_R FD17 sc_law_draw_source rfl (b_law_draw_source h_law_mix h_law_script_value T) (fun ss Q _ q => wp_law_draw_source (csK K) ss Q q)
  have h_law_draw_source : CalR P w K mg base "_law_draw_source" 2 (F_law_draw_source (csK K)) [] 2 := by
      exact ⟨_, fd17, P_law_draw_source, [], [], ok_law_draw_source, He.glo_ok X G (c.fact 30 (f := .glo "_law_draw_source") rfl), FD17.kp, (FunD.bindsN (ps := P_law_draw_source) FD17 fun _ _ _ _ _ _ us hl => match us, hl with | [_, _], _ => rfl), .nil, fun _ => .nil⟩
  have ok_law_draw : FnOk P w K mg base CX0 2 _ fd18 P_law_draw (spR K 2 (F_law_draw (csK K)).io) := fn_R FD18 sc_law_draw rfl (b_law_draw h_law_mix T) (fun ss Q _ q => wp_law_draw (csK K) ss Q q)
  have h_law_draw : CalR P w K mg base "_law_draw" 2 (F_law_draw (csK K)) [] 2 := by
      exact ⟨_, fd18, P_law_draw, [], [], ok_law_draw, He.glo_ok X G (c.fact 31 (f := .glo "_law_draw") rfl), FD18.kp, (FunD.bindsN (ps := P_law_draw) FD18 fun _ _ _ _ _ _ us hl => match us, hl with | [_, _], _ => rfl), .nil, fun _ => .nil⟩
  have ok_law_draw_cups : FnOk P w K mg base CX0 3 _ fd21 P_law_draw_cups (spR K 4 (F_law_draw_cups (csK K)).io) := fn_R FD21 sc_law_draw_cups rfl (b_law_draw_cups h_law_draw T) (fun ss Q _ q => wp_law_draw_cups (csK K) ss Q q)
  have h_law_draw_cups : CalR P w K mg base "_law_draw_cups" 4 (F_law_draw_cups (csK K)) [] 3 := by
      exact ⟨_, fd21, P_law_draw_cups, [], [], ok_law_draw_cups, He.glo_ok X G (c.fact 32 (f := .glo "_law_draw_cups") rfl), FD21.kp, (FunD.bindsN (ps := P_law_draw_cups) FD21 fun _ _ _ _ _ _ us hl => match us, hl with | [_, _, _, _], _ => rfl), .nil, fun _ => .nil⟩
  have ok_law_min_members : FnOk P w K mg base CX0 1 _ fd22 P_law_min_members (spR K 1 (F_law_min_members (csK K)).io) := fn_R FD22 sc_law_min_members rfl (b_law_min_members  T) (fun ss Q _ q => wp_law_min_members (csK K) ss Q q)
  have h_law_min_members : CalR P w K mg base "_law_min_members" 1 (F_law_min_members (csK K)) [] 1 := by
      exact ⟨_, fd22, P_law_min_members, [], [], ok_law_min_members, He.glo_ok X G (c.fact 33 (f := .glo "_law_min_members") rfl), FD22.kp, (FunD.bindsN (ps := P_law_min_members) FD22 fun _ _ _ _ _ _ us hl => match us, hl with | [_], _ => rfl), .nil, fun _ => .nil⟩
  have ok_law_name_for : FnOk P w K mg base CX0 1 _ fd19 P_law_name_for (spR K 1 (F_law_name_for (csK K)).io) := fn_R FD19 sc_law_name_for rfl (b_law_name_for  T) (fun ss Q _ q => wp_law_name_for (csK K) ss Q q)
  have h_law_name_for : CalR P w K mg base "_law_name_for" 1 (F_law_name_for (csK K)) [] 1 := by
      exact ⟨_, fd19, P_law_name_for, [], [], ok_law_name_for, He.glo_ok X G (c.fact 34 (f := .glo "_law_name_for") rfl), FD19.kp, (FunD.bindsN (ps := P_law_name_for) FD19 fun _ _ _ _ _ _ us hl => match us, hl with | [_], _ => rfl), .nil, fun _ => .nil⟩
  have ok_law_draw_names : FnOk P w K mg base CX0 3 _ fd20 P_law_draw_names (spR K 2 (F_law_draw_names (csK K)).io) := fn_R FD20 sc_law_draw_names rfl (b_law_draw_names h_law_draw h_law_name_for T) (fun ss Q _ q => wp_law_draw_names (csK K) ss Q q)
  have h_law_draw_names : CalR P w K mg base "_law_draw_names" 2 (F_law_draw_names (csK K)) [] 3 := by
      exact ⟨_, fd20, P_law_draw_names, [], [], ok_law_draw_names, He.glo_ok X G (c.fact 35 (f := .glo "_law_draw_names") rfl), FD20.kp, (FunD.bindsN (ps := P_law_draw_names) FD20 fun _ _ _ _ _ _ us hl => match us, hl with | [_, _], _ => rfl), .nil, fun _ => .nil⟩
  have ok_law_draw_state : FnOk P w K mg base CX0 4 _ fd23 P_law_draw_state (spR K 3 (F_law_draw_state (csK K)).io) := fn_R FD23 sc_law_draw_state rfl (b_law_draw_state h_law_min_members h_law_draw_names h_law_draw T) (fun ss Q _ q => wp_law_draw_state (csK K) ss Q q)
  have h_law_draw_state : CalR P w K mg base "_law_draw_state" 3 (F_law_draw_state (csK K)) [] 4 := by
      exact ⟨_, fd23, P_law_draw_state, [], [], ok_law_draw_state, He.glo_ok X G (c.fact 36 (f := .glo "_law_draw_state") rfl), FD23.kp, (FunD.bindsN (ps := P_law_draw_state) FD23 fun _ _ _ _ _ _ us hl => match us, hl with | [_, _, _], _ => rfl), .nil, fun _ => .nil⟩
  have ok_is_integer : FnOk P w K mg base CX0 1 _ fd0 P_is_integer (spR K 2 (F_is_integer (csK K)).io) := fn_R FD0 sc_is_integer rfl (b_is_integer  T) (fun ss Q _ q => wp_is_integer (csK K) ss Q q)
  have h_is_integer : CalR P w K mg base "is_integer" 2 (F_is_integer (csK K)) [] 1 := by
      obtain ⟨ds, dv, bb⟩ := FunD.binds1 (ps := P_is_integer) FD0 2 1 (by simp [He.DefD.dvs]) rfl fun _ _ _ _ _ _ _ us its hl hi => match us, hl, its, hi with | [_, _], _, [_], _ => ⟨_, rfl, rfl⟩
      exact ⟨_, fd0, P_is_integer, ds, _, ok_is_integer, He.glo_ok X G (c.fact 37 (f := .glo "is_integer") rfl), FD0.kp, bb, dv, fun _ => .nil⟩
  have h_is_integer_1 : CalR P w K mg base "is_integer" 2 (F_is_integer (csK K)) [(.int 0)] 1 := by
      obtain ⟨ds, dv, bb⟩ := FunD.binds1 (ps := P_is_integer) FD0 1 0 (by simp [He.DefD.dvs]) rfl fun _ _ _ _ _ _ _ us its hl hi => match us, hl, its, hi with | [_], _, [_], _ => ⟨_, rfl, rfl⟩
      exact ⟨_, fd0, P_is_integer, ds, _, ok_is_integer, He.glo_ok X G (c.fact 37 (f := .glo "is_integer") rfl), FD0.kp, bb, dv, fun _ => (.cons (.int _) .nil)⟩
  have ok_are_sizes : FnOk P w K mg base CX0 2 _ fd1 P_are_sizes (spR K 1 (F_are_sizes (csK K)).io) := fn_R FD1 sc_are_sizes rfl (b_are_sizes h_is_integer T) (fun ss Q _ q => wp_are_sizes (csK K) ss Q q)
  have h_are_sizes : CalR P w K mg base "are_sizes" 1 (F_are_sizes (csK K)) [] 2 := by
      exact ⟨_, fd1, P_are_sizes, [], [], ok_are_sizes, He.glo_ok X G (c.fact 38 (f := .glo "are_sizes") rfl), FD1.kp, (FunD.bindsN (ps := P_are_sizes) FD1 fun _ _ _ _ _ _ us hl => match us, hl with | [_], _ => rfl), .nil, fun _ => .nil⟩
  have ok_are_forward_indices : FnOk P w K mg base CX0 2 _ fd2 P_are_forward_indices (spR K 2 (F_are_forward_indices (csK K)).io) := fn_R FD2 sc_are_forward_indices rfl (b_are_forward_indices h_is_integer_1 T) (fun ss Q _ q => wp_are_forward_indices (csK K) ss Q q)
  have h_are_forward_indices : CalR P w K mg base "are_forward_indices" 2 (F_are_forward_indices (csK K)) [] 2 := by
      exact ⟨_, fd2, P_are_forward_indices, [], [], ok_are_forward_indices, He.glo_ok X G (c.fact 39 (f := .glo "are_forward_indices") rfl), FD2.kp, (FunD.bindsN (ps := P_are_forward_indices) FD2 fun _ _ _ _ _ _ us hl => match us, hl with | [_, _], _ => rfl), .nil, fun _ => .nil⟩
  have ok_CupRow_init : FnOk P w K mg base CX0 3 _ fd3 P_CupRow_init (spR K 3 (F_CupRow_init (csK K))) := fn_R FD3 sc_CupRow_init rfl (b_CupRow_init h_are_sizes h_are_forward_indices T) (fun ss Q _ q => wp_CupRow_init (csK K) ss Q q)
  have h_CupRow_init_k : MakKR P w K mg base "CupRow" (csK K).CupRow 3 (F_CupRow_init (csK K)) 1 ["forward"] 3 := by
      obtain ⟨mv, bb⟩ := FunD.kbinds0 (ps := P_CupRow_init) FD3 2 ["forward"] [] (fun us _ ws => us ++ ws) (by simp [He.DefD.kws]) (fun _ m => by cases m) (fun r1 _ r3 => r1.append r3) fun _ _ _ _ _ _ us mv ws hl hm hw => match us, hl, mv, hm, ws, hw with | [_, _], _, [], _, [_], _ => rfl
      exact ⟨_, fd3, P_CupRow_init, _, He.mkr_ok (c.fact 40 (f := .mkr "CupRow") rfl), ok_CupRow_init, He.glo_ok X G (c.fact 3 (f := .glo "CupRow") rfl), bb⟩
  have ok_law_empty_cups : FnOk P w K mg base CX0 1 _ fd24 P_law_empty_cups (spR K 5 (F_law_empty_cups (csK K)).io) := fn_R FD24 sc_law_empty_cups rfl (b_law_empty_cups  T) (fun ss Q _ q => wp_law_empty_cups (csK K) ss Q q)
  have h_law_empty_cups : CalR P w K mg base "_law_empty_cups" 5 (F_law_empty_cups (csK K)) [] 1 := by
      exact ⟨_, fd24, P_law_empty_cups, [], [], ok_law_empty_cups, He.glo_ok X G (c.fact 41 (f := .glo "_law_empty_cups") rfl), FD24.kp, (FunD.bindsN (ps := P_law_empty_cups) FD24 fun _ _ _ _ _ _ us hl => match us, hl with | [_, _, _, _, _], _ => rfl), .nil, fun _ => .nil⟩
  have ok_law_step : FnOk P w K mg base CX0 2 _ fd25 P_law_step (spR K 3 (F_law_step (csK K)).io) := fn_R FD25 sc_law_step rfl (b_law_step h_law_empty_cups T) (fun ss Q _ q => wp_law_step (csK K) ss Q q)
  have h_law_step : CalR P w K mg base "_law_step" 3 (F_law_step (csK K)) [] 2 := by
      exact ⟨_, fd25, P_law_step, [], [], ok_law_step, He.glo_ok X G (c.fact 42 (f := .glo "_law_step") rfl), FD25.kp, (FunD.bindsN (ps := P_law_step) FD25 fun _ _ _ _ _ _ us hl => match us, hl with | [_, _, _], _ => rfl), .nil, fun _ => .nil⟩
  have ok_require_cups : FnOk P w K mg base CX0 1 _ fd5 P_require_cups (spR K 1 (F_require_cups (csK K)).io) := fn_R FD5 sc_require_cups rfl (b_require_cups  T) (fun ss Q _ q => wp_require_cups (csK K) ss Q q)
  have h_require_cups : CalR P w K mg base "require_cups" 1 (F_require_cups (csK K)) [] 1 := by
      exact ⟨_, fd5, P_require_cups, [], [], ok_require_cups, He.glo_ok X G (c.fact 43 (f := .glo "require_cups") rfl), FD5.kp, (FunD.bindsN (ps := P_require_cups) FD5 fun _ _ _ _ _ _ us hl => match us, hl with | [_], _ => rfl), .nil, fun _ => .nil⟩
  have ok_is_name : FnOk P w K mg base CX0 1 _ fd6 P_is_name (spR K 1 (F_is_name (csK K)).io) := fn_R FD6 sc_is_name rfl (b_is_name  T) (fun ss Q _ q => wp_is_name (csK K) ss Q q)
  have h_is_name : CalR P w K mg base "is_name" 1 (F_is_name (csK K)) [] 1 := by
      exact ⟨_, fd6, P_is_name, [], [], ok_is_name, He.glo_ok X G (c.fact 44 (f := .glo "is_name") rfl), FD6.kp, (FunD.bindsN (ps := P_is_name) FD6 fun _ _ _ _ _ _ us hl => match us, hl with | [_], _ => rfl), .nil, fun _ => .nil⟩
  have ok_is_name_list : FnOk P w K mg base CX0 2 _ fd7 P_is_name_list (spR K 1 (F_is_name_list (csK K)).io) := fn_R FD7 sc_is_name_list rfl (b_is_name_list h_is_name T) (fun ss Q _ q => wp_is_name_list (csK K) ss Q q)
  have h_is_name_list : CalR P w K mg base "is_name_list" 1 (F_is_name_list (csK K)) [] 2 := by
      exact ⟨_, fd7, P_is_name_list, [], [], ok_is_name_list, He.glo_ok X G (c.fact 45 (f := .glo "is_name_list") rfl), FD7.kp, (FunD.bindsN (ps := P_is_name_list) FD7 fun _ _ _ _ _ _ us hl => match us, hl with | [_], _ => rfl), .nil, fun _ => .nil⟩
  have ok_all_members : FnOk P w K mg base CX0 1 _ fd8 P_all_members (spR K 2 (F_all_members (csK K)).io) := fn_R FD8 sc_all_members rfl (b_all_members  T) (fun ss Q _ q => wp_all_members (csK K) ss Q q)
  have h_all_members : CalR P w K mg base "all_members" 2 (F_all_members (csK K)) [] 1 := by
      exact ⟨_, fd8, P_all_members, [], [], ok_all_members, He.glo_ok X G (c.fact 46 (f := .glo "all_members") rfl), FD8.kp, (FunD.bindsN (ps := P_all_members) FD8 fun _ _ _ _ _ _ us hl => match us, hl with | [_, _], _ => rfl), .nil, fun _ => .nil⟩
  have ok_CupRow_min_members : FnOk P w K mg base CX0 1 _ fd4 P_CupRow_min_members (spR K 1 (F_CupRow_min_members (csK K)).io) := fn_R FD4 sc_CupRow_min_members rfl (b_CupRow_min_members  T) (fun ss Q _ q => wp_CupRow_min_members (csK K) ss Q q)
  have h_CupRow_min_members : MetR P w K mg base (csK K).CupRow "min_members" 1 (F_CupRow_min_members (csK K)) [] 1 := by
      exact ⟨_, fd4, P_CupRow_min_members, [], [], T.k_CupRow, He.meth_ok (c.fact 47 (f := .meth "CupRow" "min_members") rfl), ok_CupRow_min_members, (FunD.bindsN (ps := P_CupRow_min_members) FD4 fun _ _ _ _ _ _ us hl => match us, hl with | [_], _ => rfl), .nil, fun _ => .nil⟩
  have ok_is_state : FnOk P w K mg base CX0 3 _ fd10 P_is_state (spR K 2 (F_is_state (csK K)).io) := fn_R FD10 sc_is_state rfl (b_is_state h_is_name_list h_all_members h_CupRow_min_members T) (fun ss Q _ q => wp_is_state (csK K) ss Q q)
  have h_is_state : CalR P w K mg base "is_state" 2 (F_is_state (csK K)) [] 3 := by
      exact ⟨_, fd10, P_is_state, [], [], ok_is_state, He.glo_ok X G (c.fact 48 (f := .glo "is_state") rfl), FD10.kp, (FunD.bindsN (ps := P_is_state) FD10 fun _ _ _ _ _ _ us hl => match us, hl with | [_, _], _ => rfl), .nil, fun _ => .nil⟩
  have ok_copy_state : FnOk P w K mg base CX0 1 _ fd9 P_copy_state (spR K 2 (F_copy_state (csK K)).io) := fn_R FD9 sc_copy_state rfl (b_copy_state  T) (fun ss Q _ q => wp_copy_state (csK K) ss Q q)
  have h_copy_state : CalR P w K mg base "copy_state" 2 (F_copy_state (csK K)) [] 1 := by
      exact ⟨_, fd9, P_copy_state, [], [], ok_copy_state, He.glo_ok X G (c.fact 49 (f := .glo "copy_state") rfl), FD9.kp, (FunD.bindsN (ps := P_copy_state) FD9 fun _ _ _ _ _ _ us hl => match us, hl with | [_, _], _ => rfl), .nil, fun _ => .nil⟩
  have ok_require_state : FnOk P w K mg base CX0 4 _ fd11 P_require_state (spR K 2 (F_require_state (csK K)).io) := fn_R FD11 sc_require_state rfl (b_require_state h_is_state h_copy_state T) (fun ss Q _ q => wp_require_state (csK K) ss Q q)
  have h_require_state : CalR P w K mg base "require_state" 2 (F_require_state (csK K)) [] 4 := by
      exact ⟨_, fd11, P_require_state, [], [], ok_require_state, He.glo_ok X G (c.fact 50 (f := .glo "require_state") rfl), FD11.kp, (FunD.bindsN (ps := P_require_state) FD11 fun _ _ _ _ _ _ us hl => match us, hl with | [_, _], _ => rfl), .nil, fun _ => .nil⟩
  have ok_empty_full_cups : FnOk P w K mg base CX0 1 _ fd12 P_empty_full_cups (spR K 4 (F_empty_full_cups (csK K))) := fn_R FD12 sc_empty_full_cups rfl (b_empty_full_cups  T) (fun ss Q _ q => wp_empty_full_cups (csK K) ss Q q)
  have h_empty_full_cups : CalIO P w K mg base "empty_full_cups" 4 (F_empty_full_cups (csK K)) [] 1 := by
      exact ⟨_, fd12, P_empty_full_cups, [], [], ok_empty_full_cups, He.glo_ok X G (c.fact 51 (f := .glo "empty_full_cups") rfl), FD12.kp, (FunD.bindsN (ps := P_empty_full_cups) FD12 fun _ _ _ _ _ _ us hl => match us, hl with | [_, _, _, _], _ => rfl), .nil, fun _ => .nil⟩
  have ok_apply_step : FnOk P w K mg base CX0 2 _ fd13 P_apply_step (spR K 3 (F_apply_step (csK K))) := fn_R FD13 sc_apply_step rfl (b_apply_step h_empty_full_cups T) (fun ss Q _ q => wp_apply_step (csK K) ss Q q)
  have h_apply_step : CalIO P w K mg base "apply_step" 3 (F_apply_step (csK K)) [] 2 := by
      exact ⟨_, fd13, P_apply_step, [], [], ok_apply_step, He.glo_ok X G (c.fact 52 (f := .glo "apply_step") rfl), FD13.kp, (FunD.bindsN (ps := P_apply_step) FD13 fun _ _ _ _ _ _ us hl => match us, hl with | [_, _, _], _ => rfl), .nil, fun _ => .nil⟩
  have ok_next_state : FnOk P w K mg base CX0 5 _ fd14 P_next_state (spR K 2 (F_next_state (csK K)).io) := fn_R FD14 sc_next_state rfl (b_next_state h_require_cups h_require_state h_apply_step T) (fun ss Q _ q => wp_next_state (csK K) ss Q q)
  have h_next_state : CalR P w K mg base "next_state" 2 (F_next_state (csK K)) [] 5 := by
      exact ⟨_, fd14, P_next_state, [], [], ok_next_state, He.glo_ok X G (c.fact 53 (f := .glo "next_state") rfl), FD14.kp, (FunD.bindsN (ps := P_next_state) FD14 fun _ _ _ _ _ _ us hl => match us, hl with | [_, _], _ => rfl), .nil, fun _ => .nil⟩
  have ok_law_lists_are_separate : FnOk P w K mg base CX0 1 _ fd26 P_law_lists_are_separate (spR K 2 (F_law_lists_are_separate (csK K))) := fn_R FD26 sc_law_lists_are_separate rfl (b_law_lists_are_separate  T) (fun ss Q _ q => wp_law_lists_are_separate (csK K) ss Q q)
  have h_law_lists_are_separate : CalIO P w K mg base "_law_lists_are_separate" 2 (F_law_lists_are_separate (csK K)) [] 1 := by
      exact ⟨_, fd26, P_law_lists_are_separate, [], [], ok_law_lists_are_separate, He.glo_ok X G (c.fact 54 (f := .glo "_law_lists_are_separate") rfl), FD26.kp, (FunD.bindsN (ps := P_law_lists_are_separate) FD26 fun _ _ _ _ _ _ us hl => match us, hl with | [_, _], _ => rfl), .nil, fun _ => .nil⟩
  have ok_law_check : FnOk P w K mg base CX0 6 _ fd27 P_law_check (spR K 5 (F_law_check (csK K)).io) := fn_R FD27 sc_law_check rfl (b_law_check h_law_step h_next_state h_law_lists_are_separate T) (fun ss Q _ q => wp_law_check (csK K) ss Q q)
  have h_law_check : CalR P w K mg base "_law_check" 5 (F_law_check (csK K)) [] 6 := by
      exact ⟨_, fd27, P_law_check, [], [], ok_law_check, He.glo_ok X G (c.fact 55 (f := .glo "_law_check") rfl), FD27.kp, (FunD.bindsN (ps := P_law_check) FD27 fun _ _ _ _ _ _ us hl => match us, hl with | [_, _, _, _, _], _ => rfl), .nil, fun _ => .nil⟩
  have ok_law_check_shared_list : FnOk P w K mg base CX0 6 _ fd28 P_law_check_shared_list (spR K 4 (F_law_check_shared_list (csK K)).io) := fn_R FD28 sc_law_check_shared_list rfl (b_law_check_shared_list h_law_step h_next_state T) (fun ss Q _ q => wp_law_check_shared_list (csK K) ss Q q)
  have h_law_check_shared_list : CalR P w K mg base "_law_check_shared_list" 4 (F_law_check_shared_list (csK K)) [] 6 := by
      exact ⟨_, fd28, P_law_check_shared_list, [], [], ok_law_check_shared_list, He.glo_ok X G (c.fact 56 (f := .glo "_law_check_shared_list") rfl), FD28.kp, (FunD.bindsN (ps := P_law_check_shared_list) FD28 fun _ _ _ _ _ _ us hl => match us, hl with | [_, _, _, _], _ => rfl), .nil, fun _ => .nil⟩
  have ok_law : FnOk P w K mg base CX0 7 _ fd29 P_law (spR K 1 (F_law (csK K)).io) := fn_R FD29 sc_law rfl (b_law h_law_draw_source h_law_draw_cups h_law_draw h_law_draw_state h_CupRow_init_k h_law_check h_law_check_shared_list T) (fun ss Q _ q => wp_law (csK K) ss Q q)
  exact ok_law
end Cl
open PySem PySem.W PySem.Calls PyProof.Rows
theorem PySem.Challenge.cw_cupladder_k03_single_steps_holds : PySem.Challenge.rw_cupladder_k03_single_steps.Holds := by
  w_on; o_law
  refine HandSHeadRun.head_any (r := OpenLaw.row PySem.Challenge.rw_cupladder_k03_single_steps) (q := view (OpenLaw.row PySem.Challenge.rw_cupladder_k03_single_steps).prog [42]) (H := Cl.hk) (ob := Cl.ob) (M := 4000) (loose := Cl.names) (d := HandSHeadRun.topDef (OpenLaw.row PySem.Challenge.rw_cupladder_k03_single_steps).prog 42) (kwd := []) Cl.ob_eq
    (by kernel_rfl) (fun s => by kernel_rfl) Cl.run (by kernel_rfl) (by kernel_rfl) (by kernel_rfl) (by rfl) (by first | assumption | decide +kernel) (by decide +kernel) ⟨rfl, rfl, rfl, rfl, rfl, by decide +kernel⟩ ?hw ?hc
  case hw => w_witness2
  case hc =>
    refine L2.walk_ofE (l := PySem.Challenge.rw_cupladder_k03_single_steps) (n := 63) (k := 7) (x := "_law_script") (CX := L2.CX0) rfl (by decide) (by kernel_rfl) ⟨rfl, by decide, by decide⟩ ?F (fun _ _ _ _ z => z)
    intro w mg fa h Y G hmg0
    obtain ⟨K, KX, c, ci⟩ := Y
    have hmg : mg ("law" : PySem.Str) = some (.ref fa) := by
      have e : (HandSHeadRun.topDef (OpenLaw.row PySem.Challenge.rw_cupladder_k03_single_steps).prog 42).name = ("law" : PySem.Str) := by kernel_rfl
      rw [← e]
      exact hmg0
    obtain ⟨cs, fd, hb, hF⟩ := Cl.facts (P := (PySem.Challenge.rw_cupladder_k03_single_steps).prog) (w := w) KX G hmg c ci
    exact ⟨K, fd, R.spR K 1 (Cl.F_law cs).io, KX, hb, fun H a ns hl hO hS => R.sp_end hS fun Q q => ⟨ns, rfl, hl, q⟩, hF⟩

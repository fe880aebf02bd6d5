import PyProof.Rows.All
import Wide.All
import OpenK.AllK
import Wide.FinOn
import HandS.ForMost
import HandS.ForExc
import HandS.Wide
import HandS.Defaults
import HandS.IsInst
import HandS.ExcIs
import HandS.Lambda
import HandS.Flow
import HandS.StrMore
import HandS.TupAny
import HandS.SetTxt0
import HandS.SetFor
import HandS.SetKeys
import HandS.SortInts
import HandS.SortKw
import HandS.Strs
import HandS.Conv
import HandS.Deep
import HandS.Walk
import HandS.MakeKw
import KE.KDictZip
import HandS.ListItems
import HandS.Zip
import HandS.TryOnly
import KE.DataCmp
import HandS.EndTab
import HandS.EndBits
import PyProof.ReprRoads
import PyProof.RowDictHeap
import HandS.SortOrd
import KE.KSortTupAny
import KE.KSortKey
import PyProof.ReprLen
import PySem.Challenge.RW_boundslots_k01_lots_as_sets
set_option Elab.async false
set_option linter.all false
set_option maxRecDepth 100000
set_option maxHeartbeats 0
/-! Rules whose readings compute: a name, a constant, an operator leave nothing to be said where the values are known. -/
namespace Bs
open PySem PySem.Spec PyProof.Rows L2
section
variable {X : Cx}
theorem PE.imp {e : Expr} {t t' : TE} (h : PE X e t) (i : ∀ σ H Q, t' σ H Q → t σ H Q) : PE X e t' := ⟨fun p s σ H Q I q => h.run p s σ H Q I (i σ H Q q)⟩
theorem PT.imp {e : Expr} {t t' : TT} (h : PT X e t) (i : ∀ σ H Q, t' σ H Q → t σ H Q) : PT X e t' := ⟨fun p s σ H Q I q => h.run p s σ H Q I (i σ H Q q)⟩
theorem OpR.imp {f : Value → Value → Sem Value} {r r' : R2} (h : OpR X f r) (i : ∀ x y H Q, r' x y H Q → r x y H Q) : OpR X f r' :=
  fun p s σ H x y v u Q I rx ry q => h p s σ H x y v u Q I rx ry (i x y H Q q)
theorem CallR.imp {f : Value} {r r' : List V → Hp → VK → Prop} (h : CallR X f r) (i : ∀ xs H Q, r' xs H Q → r xs H Q) : CallR X f r' :=
  fun p s σ H xs us Q I rx q => h p s σ H xs us Q I rx (i xs H Q q)
/-! ### names -/
def vr (i : Nat) : TE := fun σ H Q => match σ[i]? with
  | some (some v) => Q v H
  | _ => False
theorem nm (i : Nat) {x : Str} {pos : Pos} (hN : X.N[i]? = some x := by rfl) (hv : Vis X.env.scope x := by first | exact Or.inl rfl | exact Or.inr (Or.inl rfl) | exact Or.inr (Or.inr rfl)) (hd : (x == ("__debug__" : Str)) = false := by decide)
    (hcd : (x == ("__classdict__" : Str)) = false := by decide) : PE X (.Name x pos) (vr i) := by
  refine PE.imp (pe_var (i := i) hN hv hd hcd) fun σ H Q h => ?_
  unfold vr at h
  split at h
  · rename_i v e
    exact ⟨v, e, h⟩
  · exact h.elim
/-! ### values as tests -/
def asB (t : TE) : TT := fun σ H Q => t σ H fun x H1 => match x with
  | .bl k => Q k H1
  | _ => False
/-- the ends of a reading may be weakened: a PE with any end -/
theorem tst {e : Expr} {t : TE} (h : PE X e t) (he : ∀ whole, isTrue e X.env whole = (do let v ← whole; standAt e.pos; holding [v] (truthy v)) := by intro _; rfl) : PT X e (asB t) := by
  refine ⟨fun pins s σ H Q I hw => ?_⟩
  refine isTrue_plain (thn (h.run pins s σ H _ I hw) fun v s1 ⟨x, H1, I1, r1, q1⟩ => ?_) (he _)
  cases x with
  | bl d =>
    cases r1
    exact wpAny_truthy_bool ⟨H1, I1, q1⟩
  | _ => exact (show False from q1).elim
theorem cmpT {op : CmpOp} {r : R2} {a b : Expr} {ta tb : TE} {pos : Pos} (ho : OpR X (compareOp op) r) (ha : PE X a ta) (hb : PE X b tb) (hm : behindInMarks op b = false) : PT X (.Compare a [op] [b] pos) (asB (tOp r ta tb)) := by
  refine ⟨fun pins s σ H Q I h => ?_⟩
  refine wpAny_isTrue_Compare1 (thn (ha.run pins s σ H _ I h) fun v s1 ⟨x, H1, I1, r1, q1⟩ => thn (hb.run pins s1 σ H1 _ I1 q1) fun u s2 ⟨y, H2, I2, r2, q2⟩ =>
    thn (ho pins s2 σ H2 x y v u _ I2 r1 r2 q2) fun c s3 ⟨z, H3, I3, r3, q3⟩ => ?_) hm
  cases z with
  | bl k =>
    cases r3
    exact wpAny_truthy_bool ⟨H3, I3, q3⟩
  | _ => exact (show False from q3).elim
/-! ### operators -/
/-- a list or a tuple may be read -/
abbrev Sq (K : PySem.W.Frag) (H : Hp) (a : Addr) (xs : List V) : Prop := SqL K H a xs ∨ SqT K H a xs
def uAdd : R2 := fun x y H Q => match x, y with
  | .int i, .int j => Q (.int (i + j)) H
  | .str a, .str b => a.length + b.length ≤ sizeLine ∧ Q (.str (a ++ b)) H
  | .ref p, .ref q => ∃ xs ys, H p = some (.lst xs) ∧ H q = some (.lst ys) ∧ xs.length + ys.length ≤ sizeLine ∧ ∀ l, H l = none → Q (.ref l) (upd H l (.lst (xs ++ ys)))
  | _, _ => False
theorem o_add : OpR X (binaryOp .Add) uAdd := by
  refine OpR.imp (op_add.or (op_add_str.or op_cat)) fun x y H Q h => ?_
  unfold uAdd at h
  split at h
  · exact .inl ⟨_, _, rfl, rfl, h⟩
  · exact .inr (.inl ⟨_, _, rfl, rfl, h.1, h.2⟩)
  · obtain ⟨xs, ys, h1, h2, h3, h4⟩ := h
    exact .inr (.inr ⟨_, _, xs, ys, rfl, rfl, h1, h2, h3, h4⟩)
  · exact h.elim
def uI (C : Int → Int → Prop) (g : Int → Int → V) : R2 := fun x y H Q => match x, y with
  | .int i, .int j => C i j ∧ Q (g i j) H
  | _, _ => False
theorem uI_of {f : Value → Value → Sem Value} {C : Int → Int → Prop} {g : Int → Int → V} (h : OpR X f (rI C g)) : OpR X f (uI C g) := OpR.imp h fun x y H Q q => by
  unfold uI at q
  split at q
  · exact ⟨_, _, rfl, rfl, q.1, q.2⟩
  · exact q.elim
def uI0 (g : Int → Int → V) : R2 := fun x y H Q => match x, y with
  | .int i, .int j => Q (g i j) H
  | _, _ => False
theorem uI0_of {f : Value → Value → Sem Value} {g : Int → Int → V} (h : OpR X f (rI0 g)) : OpR X f (uI0 g) := OpR.imp h fun x y H Q q => by
  unfold uI0 at q
  split at q
  · exact ⟨_, _, rfl, rfl, q⟩
  · exact q.elim
theorem o_sub : OpR X (binaryOp .Sub) (uI0 fun i j => .int (i - j)) := uI0_of op_sub
theorem o_mod : OpR X (binaryOp .Mod) (uI (fun _ j => 0 < j) fun i j => .int (i % j)) := uI_of op_mod
theorem o_fdiv : OpR X (binaryOp .FloorDiv) (uI CDivW fun i j => .int (i / j)) := uI_of op_fdivW
theorem o_pow : OpR X (binaryOp .Pow) (uI CPow fun i j => .int (i ^ j.toNat)) := uI_of op_pow
theorem o_lt : OpR X (compareOp .Lt) (uI0 fun i j => .bl (decide (i < j))) := uI0_of op_lt
theorem o_le0 : OpR X (compareOp .LtE) (uI0 fun i j => .bl (decide (i ≤ j))) := uI0_of op_le
theorem o_gt : OpR X (compareOp .Gt) (uI0 fun i j => .bl (decide (j < i))) := uI0_of op_gt
theorem o_ge : OpR X (compareOp .GtE) (uI0 fun i j => .bl (decide (j ≤ i))) := uI0_of op_ge
/-- a product: small on one side, or together below a million bits; a list by an int; a text by an int -/
def uMul : R2 := fun x y H Q => match x, y with
  | .int i, .int j => (CMul i j ∨ CMulW i j) ∧ Q (.int (i * j)) H
  | .ref p, .int k => ∃ xs, H p = some (.lst xs) ∧ -(2 ^ 63) ≤ k ∧ k < 2 ^ 63 ∧ xs.length * k.toNat ≤ sizeLine ∧ ∀ l, H l = none → Q (.ref l) (upd H l (.lst (List.replicate k.toNat xs).flatten))
  | .str z, .int k => (-(2 ^ 20) ≤ k ∧ k ≤ 2 ^ 20) ∧ z.length * k.toNat ≤ sizeLine ∧ Q (.str (Txt.mul z k)) H
  | _, _ => False
theorem op_mulS : OpR X (binaryOp .Mult) (fun x y H Q => ∃ z k, x = .str z ∧ y = .int k ∧ (-(2 ^ 20) ≤ k ∧ k ≤ 2 ^ 20) ∧ z.length * k.toNat ≤ sizeLine ∧ Q (.str (Txt.mul z k)) H) := by
  intro pins s σ H x y v u Q I rx ry h
  obtain ⟨z, k, rfl, rfl, ⟨hk0, hk1⟩, hz, q⟩ := h
  obtain ⟨t, rfl⟩ := rx
  obtain ⟨t', rfl⟩ := ry
  have hz' : z.length * k.toNat ≤ 2 ^ 24 := hz
  refine SB.mul ⟨?_, fun h1 h2 h3 => ?_, fun _ _ => ?_⟩ fun t' tk => ⟨.str _, H, I.tok _, ⟨_, rfl⟩, q⟩
  · have h1 : decide (k < -(2 ^ 63 : Int)) = false := decide_eq_false (by omega)
    have h2 : decide (k ≥ 2 ^ 63) = false := decide_eq_false (by omega)
    rw [h1, h2]; rfl
  · have hk : k = (k.toNat : Int) := by omega
    have hp : (0 : Int) < k := by omega
    have h4 : (z.length : Int) * k ≤ 2 ^ 24 := by rw [hk]; exact_mod_cast hz'
    have h5 : ((2 ^ 63 - 1) / k + 1) ≤ (z.length : Int) := h3
    have h6 : (2 ^ 63 - 1) / k * k + (2 ^ 63 - 1) % k = 2 ^ 63 - 1 := by rw [Int.mul_comm]; exact Int.mul_ediv_add_emod _ _
    have h7 : (2 ^ 63 - 1) % k < k := Int.emod_lt_of_pos _ hp
    have h8 : ((2 ^ 63 - 1) / k + 1) * k ≤ (z.length : Int) * k := Int.mul_le_mul_of_nonneg_right h5 (by omega)
    rw [Int.add_mul] at h8
    omega
  · exact decide_eq_false (by have : sizeLine = 2 ^ 24 := rfl; omega)
theorem o_mul : OpR X (binaryOp .Mult) uMul := by
  refine OpR.imp (op_mul.or (op_mulW.or (op_rep.or op_mulS))) fun x y H Q h => ?_
  unfold uMul at h
  split at h
  · obtain ⟨h1 | h1, h2⟩ := h
    · exact .inl ⟨_, _, rfl, rfl, h1, h2⟩
    · exact .inr (.inl ⟨_, _, rfl, rfl, h1, h2⟩)
  · obtain ⟨xs, h1, h2⟩ := h
    exact .inr (.inr (.inl ⟨_, _, xs, rfl, rfl, h1, h2⟩))
  · obtain ⟨h1, h2, h3⟩ := h
    exact .inr (.inr (.inr ⟨_, _, rfl, rfl, h1, h2, h3⟩))
  · exact h.elim
def uNeg : V → Hp → VK → Prop := fun x H Q => match x with
  | .int i => Q (.int (-i)) H
  | _ => False
theorem u_neg : UnR X (unaryOp .USub) uNeg := by
  intro pins s σ H x v Q I rx h
  refine un_neg pins s σ H x v Q I rx ?_
  unfold uNeg at h
  split at h
  · exact ⟨_, rfl, h⟩
  · exact h.elim
/-! ### places, cuts -/
def uIx (K : PySem.W.Frag) : R2 := fun x y H Q => match x, y with
  | .ref p, .int i => ∃ xs v, Sq K H p xs ∧ atI xs i = some v ∧ Q v H
  | .str z, .int i => z.length ≤ sizeLine ∧ ∃ c, atI z.cps.toList i = some c ∧ Q (.str ⟨#[c]⟩) H
  | _, _ => False
theorem x_any : IxR X (uIx X.K) := by
  have h : IxR X (rIx X.K) := ix_seq
  intro value slice pins s σ H x y v u Q I rx ry q hs
  refine h value slice pins s σ H x y v u Q I rx ry ?_ hs
  unfold uIx at q
  split at q
  · obtain ⟨xs, w, h1 | h1, h2, h3⟩ := q
    · exact .inl ⟨_, xs, _, w, rfl, rfl, h1, h2, h3⟩
    · exact .inr (.inl ⟨_, xs, _, w, rfl, rfl, h1, h2, h3⟩)
  · obtain ⟨h1, c, h2, h3⟩ := q
    exact .inr (.inr ⟨_, _, c, rfl, rfl, h1, h2, h3⟩)
  · exact q.elim
def uSet : V → V → V → Hp → (Hp → Prop) → Prop := fun o i v H Q => match o, i with
  | .ref p, .int k => ∃ xs j, H p = some (.lst xs) ∧ ixN xs.length k = some j ∧ Q (upd H p (.lst (xs.set j v)))
  | _, _ => False
theorem s_list : PSet X uSet := by
  intro pins s σ H o i v ov iv vv Q I r1 r2 r3 q
  refine set_list pins s σ H o i v ov iv vv Q I r1 r2 r3 ?_
  unfold uSet at q
  split at q
  · obtain ⟨xs, j, h1, h2, h3⟩ := q
    exact ⟨_, xs, _, j, rfl, rfl, h1, h2, h3⟩
  · exact q.elim

/-! ### parts: of a list, of a tuple, of a text -/
theorem SlR.imp {r r' : V → Option Int → Option Int → Hp → VK → Prop} (h : SlR X r) (i : ∀ x l u H Q, r' x l u H Q → r x l u H Q) : SlR X r' :=
  fun p s σ H x v vl vu lo hi sl Q I rx hs pl pu q => h p s σ H x v vl vu lo hi sl Q I rx hs pl pu (i x lo hi H Q q)
def uSl (K : PySem.W.Frag) : V → Option Int → Option Int → Hp → VK → Prop := fun x lo hi H Q => match x with
  | .str z => z.length ≤ sizeLine ∧ Q (.str (cutS z lo hi)) H
  | .ref p => (∃ xs, SqL K H p xs ∧ ∀ l, H l = none → Q (.ref l) (upd H l (.lst (cutV xs lo hi)))) ∨
      ∃ xs, SqT K H p xs ∧ (HT.sIx xs.length 0 lo = 0 ∧ HT.sIx xs.length xs.length hi = xs.length → Q (.ref p) H) ∧
        (¬(HT.sIx xs.length 0 lo = 0 ∧ HT.sIx xs.length xs.length hi = xs.length) → ∀ l, H l = none → Q (.ref l) (upd H l (.tup (cutV xs lo hi))))
  | _ => False
theorem sl_any : SlR X (uSl X.K) := by
  refine SlR.imp (sl_str.or (sl_list.or sl_tupA)) fun x l u H Q h => ?_
  unfold uSl at h
  split at h
  · exact .inl ⟨_, rfl, h.1, h.2⟩
  · rcases h with ⟨xs, h1, h2⟩ | ⟨xs, h1, h2, h3⟩
    · exact .inr (.inl ⟨_, xs, rfl, h1, h2⟩)
    · exact .inr (.inr ⟨_, xs, rfl, h1, h2, h3⟩)
  · exact h.elim
/-- an expression whose value is an int -/
theorem PEi {e : Expr} {te : TE} (h : PE X e te) : PE X e (fun σ H Q => te σ H fun x H1 => Q x H1) := h
def pI (te : TE) : TO := fun σ H Q => te σ H fun x H1 => match x with
  | .int i => Q (some i) H1
  | _ => False
theorem po {i : Expr} {te : TE} (h : PE X i te) : PO X (some i) (pI te) := by
  have key : ∀ (pins : List (Addr × Obj)) (s : Shared) (σ : L2.St) (H : Hp) (Q : Option Int → Hp → Prop), L2.Inv X pins σ H s → pI te σ H Q →
      wpAny (model X.prog X.w) X.A (evalPart (some i) X.env) (fun u s' => ∃ o H', L2.Inv X pins σ H' s' ∧ IsPart u o ∧ Q o H') X.xe s := by
    intro pins s σ H Q I hw
    show wpAny (model X.prog X.w) X.A (eval i X.env) _ X.xe s
    refine thn (h.run pins s σ H _ I hw) fun v s1 ⟨x, H1, I1, r1, q1⟩ => ?_
    cases x with
    | int j =>
      obtain ⟨t, rfl⟩ := r1
      exact ⟨some j, H1, I1, .int j t, q1⟩
    | _ => exact (show False from q1).elim
  exact ⟨key⟩
/-! ### comparing -/
def uEq (K : PySem.W.Frag) : R2 := fun x y H Q => match x, y with
  | .ref p, .ref q => ∃ d e, Dp K H (.ref p) d ∧ Dp K H (.ref q) e ∧ SeqAt.shaped d = true ∧ SeqAt.shaped e = true ∧ Q (.bl (PyData.eqv d e)) H
  | x, y => scal x y = true ∧ Q (.bl (decide (x = y))) H
theorem o_eq {k : Nat} (hr : Room k X.A) : OpR X (compareOp .Eq) (uEq X.K) := by
  refine OpR.imp (op_eq.or (op_eqD hr.units)) fun x y H Q h => ?_
  unfold uEq at h
  split at h
  · obtain ⟨d, e, h⟩ := h
    exact .inr ⟨d, e, h⟩
  · exact .inl h
def uNe (K : PySem.W.Frag) : R2 := fun x y H Q => match x, y with
  | .ref p, .ref q => ∃ d e, Dp K H (.ref p) d ∧ Dp K H (.ref q) e ∧ SeqAt.shaped d = true ∧ SeqAt.shaped e = true ∧ Q (.bl (!PyData.eqv d e)) H
  | x, y => scal x y = true ∧ Q (.bl (!decide (x = y))) H
theorem o_ne {k : Nat} (hr : Room k X.A) : OpR X (compareOp .NotEq) (uNe X.K) := by
  refine OpR.imp (op_ne.or (op_neD hr.units)) fun x y H Q h => ?_
  unfold uNe at h
  split at h
  · obtain ⟨d, e, h⟩ := h
    exact .inr ⟨d, e, h⟩
  · exact .inl h
/-- texts: is it behind, or the same -/
def uLe : R2 := fun x y H Q => match x, y with
  | .int i, .int j => Q (.bl (decide (i ≤ j))) H
  | .str a, .str b => Q (.bl (!decide (b.cps.toList < a.cps.toList))) H
  | _, _ => False
theorem o_le : OpR X (compareOp .LtE) uLe := by
  refine OpR.imp (op_le.or op_le_str) fun x y H Q h => ?_
  unfold uLe at h
  split at h
  · exact .inl ⟨_, _, rfl, rfl, h⟩
  · exact .inr ⟨_, _, rfl, rfl, h⟩
  · exact h.elim
/-- a text within a text; a flat thing in a list or a tuple of flat things -/
def inS (a b : Str) : Bool := !(Builtin.Str.occurrences b a 0 b.length 1).isEmpty
def uIn (K : PySem.W.Frag) (neg : Bool) : R2 := fun x y H Q => match x, y with
  | .str a, .str b => Q (.bl (if neg then !inS a b else inS a b)) H
  | x, .ref p => ∃ xs, Sq K H p xs ∧ flatV x = true ∧ xs.all flatV = true ∧ Q (.bl (if neg then !inV x xs else inV x xs)) H
  | _, _ => False
theorem o_in : OpR X (compareOp .In) (uIn X.K false) := by
  refine OpR.imp (op_in_str.or op_in_seq) fun x y H Q h => ?_
  unfold uIn at h
  split at h
  · exact .inl ⟨_, _, rfl, rfl, h⟩
  · obtain ⟨xs, h1, h2, h3, h4⟩ := h
    exact .inr ⟨_, xs, rfl, h1, h2, h3, h4⟩
  · exact h.elim
theorem o_notIn : OpR X (compareOp .NotIn) (uIn X.K true) := by
  refine OpR.imp (op_notIn_str.or op_notIn_seq) fun x y H Q h => ?_
  unfold uIn at h
  split at h
  · exact .inl ⟨_, _, rfl, rfl, h⟩
  · obtain ⟨xs, h1, h2, h3, h4⟩ := h
    exact .inr ⟨_, xs, rfl, h1, h2, h3, h4⟩
  · exact h.elim
def uIs : R2 := fun x y H Q => match y with
  | .non => Q (.bl (decide (x = .non))) H
  | _ => False
theorem o_is : OpR X (compareOp .Is) uIs := by
  refine OpR.imp op_isN fun x y H Q h => ?_
  unfold uIs at h
  split at h
  · exact ⟨rfl, h⟩
  · exact h.elim
def uIsNot : R2 := fun x y H Q => match y with
  | .non => Q (.bl (!decide (x = .non))) H
  | _ => False
theorem o_isNot : OpR X (compareOp .IsNot) uIsNot := by
  refine OpR.imp op_notN fun x y H Q h => ?_
  unfold uIsNot at h
  split at h
  · exact ⟨rfl, h⟩
  · exact h.elim
/-! ### built-ins -/
/-- the built-in type of a value -/
def tyOf (H : Hp) : V → Option String
  | .non => some "NoneType"
  | .bl _ => some "bool"
  | .int _ => some "int"
  | .str _ => some "str"
  | .ref p => match H p with
    | some (.lst _) => some "list"
    | some (.tup _) => some "tuple"
    | some (.dK _) => some "dict"
    | some (.dT _) => some "dict"
    | _ => none
  | _ => none
def tys : List String := ["NoneType", "bool", "int", "str", "list", "tuple", "dict"]
def isSub (t c : String) : Bool := t == c || (t == "bool" && c == "int")
theorem tyOf_mem {H : Hp} {x : V} {t : String} (h : tyOf H x = some t) : t ∈ tys := by
  unfold tyOf at h
  split at h <;> first
    | (cases h; done)
    | (cases h; decide)
    | (split at h <;> first | (cases h; done) | (cases h; decide))
theorem tyX_of {K : PySem.W.Frag} {H : Hp} {x : V} {t : String} (h : tyOf H x = some t) : TyX K H x (.type t) := by
  unfold tyOf at h
  split at h
  · cases h; exact .base .non
  · cases h; exact .base (.bl _)
  · cases h; exact .base (.int _)
  · cases h; exact .base (.str _)
  · split at h
    · rename_i e; cases h; exact .base (.lst e)
    · rename_i e; cases h; exact .base (.tup e)
    · rename_i e; cases h; exact .base (.dK e)
    · rename_i e; cases h; exact .base (.dT e)
    · cases h
  · cases h
theorem kitB_all : ∀ t ∈ tys, ∀ c ∈ tys, kitB t c = some (isSub t c) := by decide +kernel
def uIsi : List V → Hp → VK → Prop := fun xs H Q => match xs with
  | [x, .ty c] => ∃ t, tyOf H x = some t ∧ tys.contains c = true ∧ Q (.bl (isSub t c)) H
  | _ => False
theorem b_isi : CallR X (.builtin "isinstance") uIsi := by
  refine CallR.imp call_isi fun xs H Q h => ?_
  unfold uIsi at h
  split at h
  · rename_i x c
    obtain ⟨t, h1, h2, h3⟩ := h
    exact ⟨x, .ty c, .type t, .type c, _, rfl, .ty c, tyX_of h1, kit_ty (kitB_all t (tyOf_mem h1) c (by simpa using h2)), h3⟩
  · exact h.elim
def uLen (K : PySem.W.Frag) : List V → Hp → VK → Prop := fun xs H Q => match xs with
  | [.str z] => z.length ≤ sizeLine ∧ Q (.int z.length) H
  | [.ref p] => (∃ xs, Sq K H p xs ∧ Q (.int xs.length) H) ∨ ∃ kvs, H p = some (.dK kvs) ∧ Q (.int kvs.length) H
  | _ => False
theorem CallR.or {f : Value} {r r' : List V → Hp → VK → Prop} (h : CallR X f r) (h' : CallR X f r') : CallR X f (fun xs H Q => r xs H Q ∨ r' xs H Q) := by
  intro pins s σ H xs us Q I rx q
  rcases q with q | q
  · exact h pins s σ H xs us Q I rx q
  · exact h' pins s σ H xs us Q I rx q
theorem b_len : CallR X (.builtin "len") (uLen X.K) := by
  refine CallR.imp (call_len.or call_lenD) fun xs H Q h => ?_
  unfold uLen at h
  split at h
  · exact .inl ⟨_, _, rfl, ⟨h.1, rfl⟩, h.2⟩
  · rename_i p
    rcases h with ⟨ys, h1 | h1, h2⟩ | ⟨kvs, h1, h2⟩
    · exact .inl ⟨_, _, rfl, .inl ⟨ys, h1, rfl⟩, h2⟩
    · exact .inl ⟨_, _, rfl, .inr ⟨ys, h1, rfl⟩, h2⟩
    · exact .inr ⟨p, kvs, rfl, h1, h2⟩
  · exact h.elim
def uInt : List V → Hp → VK → Prop := fun xs H Q => match xs with
  | [.int i] => Q (.int i) H
  | [.bl k] => Q (.int (if k then 1 else 0)) H
  | _ => False
theorem b_int : CallR X (.type "int") uInt := by
  refine CallR.imp call_int1 fun xs H Q h => ?_
  unfold uInt at h
  split at h
  · exact .inl ⟨_, rfl, h⟩
  · exact .inr ⟨_, rfl, h⟩
  · exact h.elim
def uMax : List V → Hp → VK → Prop := fun xs H Q => match xs with
  | [.int i, .int j] => Q (.int (if j > i then j else i)) H
  | _ => False
theorem b_max (hc : X.calm = true) : CallR X (.builtin "max") uMax := by
  refine CallR.imp (call_max2 hc) fun xs H Q h => ?_
  unfold uMax at h
  split at h
  · exact ⟨_, _, rfl, h⟩
  · exact h.elim
def uList (K : PySem.W.Frag) : List V → Hp → VK → Prop := fun xs H Q => match xs with
  | [.ref p] => ∃ ys, Sq K H p ys ∧ ∀ l, H l = none → Q (.ref l) (upd H l (.lst ys))
  | _ => False
theorem b_list : CallR X (.type "list") (uList X.K) := by
  refine CallR.imp call_list_of fun xs H Q h => ?_
  unfold uList at h
  split at h
  · obtain ⟨ys, h1, h2⟩ := h
    exact ⟨_, ys, rfl, h1, h2⟩
  · exact h.elim
def uAll (K : PySem.W.Frag) : List V → Hp → VK → Prop := fun xs H Q => match xs with
  | [.ref p] => ∃ bs : List Bool, SqL K H p (bs.map V.bl) ∧ Q (.bl (bs.all id)) H
  | _ => False
theorem b_all (hc : X.calm = true) : CallR X (.builtin "all") (uAll X.K) := by
  refine CallR.imp (cr_all hc) fun xs H Q h => ?_
  unfold uAll at h
  split at h
  · obtain ⟨bs, h1, h2⟩ := h
    exact ⟨_, bs, rfl, h1, h2⟩
  · exact h.elim
/-- a list display, its place not that of the modules -/
def tLstN (t : TA) : TE := fun σ H Q => t σ H fun xs H1 => xs.length ≤ sizeLine ∧ ∀ p, H1 p = none → p ≠ sysModules → Q (.ref p) (upd H1 p (.lst xs))
theorem pe_lstN {es : List Expr} {t : TA} {pos : Pos} (h : PA X es t) : PE X (.List es pos) (tLstN t) := by
  refine ⟨fun pins s σ H Q I hq => ?_⟩
  refine wpAny_List_spliced (thn (h.run pos pins s σ H _ I hq) fun us s1 ⟨xs, H1, I1, r, z, q⟩ => ⟨by rw [← r.length]; exact z, ?_⟩)
  have hf : H1 s1.heap.objs.size = none := I1.hok.fresh (Nat.le_refl _)
  exact ⟨.ref s1.heap.objs.size, upd H1 s1.heap.objs.size (.lst xs), I1.laid (t' := s1.toks) (fun b u e => Heap.get?_push_of_some _ e) (Nat.le_refl _) ⟨z, us, 0, r, Heap.get?_push_size _ rfl⟩, rfl, q _ hf (Nat.ne_of_gt I1.big)⟩
/-- what is never reached -/
theorem pe_no {e : Expr} : PE X e (fun _ _ _ => False) := ⟨fun _ _ _ _ _ _ h => h.elim⟩
/-! ### constants of the module -/
section
variable {pos : Pos} {x : Str}
theorem pe_gS {z : Str} {t : Tok} (hg : Gl X x) (hm : X.mg x = some (.str z t)) (hd : (x == ("__debug__" : Str)) = false := by decide) : PE X (.Name x pos) (tC (.str z)) := pe_glob hg hm ⟨_, rfl⟩ hd
theorem pe_gI {i : Int} {t : Tok} (hg : Gl X x) (hm : X.mg x = some (.int i t)) (hd : (x == ("__debug__" : Str)) = false := by decide) : PE X (.Name x pos) (tC (.int i)) := pe_glob hg hm ⟨_, rfl⟩ hd
theorem pe_gR {a : Addr} (hg : Gl X x) (hm : X.mg x = some (.ref a)) (hd : (x == ("__debug__" : Str)) = false := by decide) : PE X (.Name x pos) (tC (.ref a)) := pe_glob hg hm rfl hd
end
/-! ### the names of built-in types -/
section
variable {pos : Pos}
theorem n_str (hg : Gl X "str") (hm : X.mg "str" = none) : PE X (.Name "str" pos) (tC (.ty "str")) := pe_bltn hg hm (by decide +kernel : bootBuiltins "str" = some (.type "str")) rfl
theorem n_int (hg : Gl X "int") (hm : X.mg "int" = none) : PE X (.Name "int" pos) (tC (.ty "int")) := pe_bltn hg hm (by decide +kernel : bootBuiltins "int" = some (.type "int")) rfl
theorem n_bool (hg : Gl X "bool") (hm : X.mg "bool" = none) : PE X (.Name "bool" pos) (tC (.ty "bool")) := pe_bltn hg hm (by decide +kernel : bootBuiltins "bool" = some (.type "bool")) rfl
theorem n_list (hg : Gl X "list") (hm : X.mg "list" = none) : PE X (.Name "list" pos) (tC (.ty "list")) := pe_bltn hg hm (by decide +kernel : bootBuiltins "list" = some (.type "list")) rfl
theorem n_tuple (hg : Gl X "tuple") (hm : X.mg "tuple" = none) : PE X (.Name "tuple" pos) (tC (.ty "tuple")) := pe_bltn hg hm (by decide +kernel : bootBuiltins "tuple" = some (.type "tuple")) rfl
theorem n_dict (hg : Gl X "dict") (hm : X.mg "dict" = none) : PE X (.Name "dict" pos) (tC (.ty "dict")) := pe_bltn hg hm (by decide +kernel : bootBuiltins "dict" = some (.type "dict")) rfl
end
end
end Bs
/-! Walks over whatever is walked, targets of several names, calls of defs by a bundle. -/
namespace Bs
open PySem PySem.Spec PyProof.Rows L2
section
variable {X : Cx} {tg : Expr}
/-- a list, a tuple, a text that is walked -/
def iAny (K : PySem.W.Frag) (te : TE) : TI := fun σ H R => te σ H fun x H1 => match x with
  | .str z => R (Its z) H1
  | .ref a => ((∃ xs, SqL K H1 a xs) ∧ R (Itl K a) H1) ∨ ((∃ xs, SqT K H1 a xs) ∧ R (Itt K a) H1)
  | _ => False
theorem pi_any {l : Expr} {tl : TE} (hl : PE X l tl) : PI X tg l (iAny X.K tl) := by
  refine ⟨fun pins s σ H R I h => ?_⟩
  refine thn (hl.run pins s σ H _ I h) fun v s1 ⟨x, H1, I1, r1, q1⟩ => ?_
  have one : ∀ (a : Expr) (t : TI), (∀ (tl : TE), PE X l tl → PI X tg l t) → True := fun _ _ _ => trivial
  cases x with
  | str z =>
    obtain ⟨t, rfl⟩ := r1
    cases ha : z.cps.all (· < 128)
    · exact wpAny_pyIter_wide ha (pi_one (tk := s1.toks) I1 _ (turn_str _ z t "str_iterator" (.inr rfl)) ⟨_, Heap.get?_push_size _ rfl, rfl, rfl⟩ q1)
    · exact wpAny_pyIter_ascii ha (pi_one (tk := s1.toks) I1 _ (turn_str _ z t "str_ascii_iterator" (.inl rfl)) ⟨_, Heap.get?_push_size _ rfl, rfl, rfl⟩ q1)
  | ref a =>
    cases r1
    rcases q1 with ⟨⟨xs, hq⟩, q⟩ | ⟨⟨xs, hq⟩, q⟩
    · obtain ⟨its, rv, p, hz⟩ := I1.list hq
      refine wpAny_pyIter_list p.isList ?_
      refine ⟨s1.heap.objs.size, [s1.heap.objs.size], _, _, H1, rfl, I1.kept (t' := s1.toks) fun b o e => Heap.get?_push_of_some _ e, turn_list a _, ⟨_, Heap.get?_push_size _ rfl, rfl, rfl⟩, fun b hb => ?_, q⟩
      have e : b = s1.heap.objs.size := by simpa using hb
      subst e
      exact I1.fpOk (Nat.le_refl _) (I1.hok.fresh (Nat.le_refl _))
    · obtain ⟨its, rv, p, hz⟩ := I1.tuple hq
      refine wpAny_pyIter_tuple (show s1.heap.IsTuple a its.toArray from p) ?_
      refine ⟨s1.heap.objs.size, [s1.heap.objs.size], _, _, H1, rfl, I1.kept (t' := s1.toks) fun b o e => Heap.get?_push_of_some _ e, turn_tuple a _, ⟨_, Heap.get?_push_size _ rfl, rfl, rfl⟩, fun b hb => ?_, q⟩
      have e : b = s1.heap.objs.size := by simpa using hb
      subst e
      exact I1.fpOk (Nat.le_refl _) (I1.hok.fresh (Nat.le_refl _))
  | _ => exact (show False from q1).elim
/-- a, b, .. = a list or a tuple of that length -/
def gAny (K : PySem.W.Frag) (n : Nat) (t : TGs) : TG := fun v σ H Q => match v with
  | .ref a => ∃ xs, Sq K H a xs ∧ xs.length = n ∧ t xs σ H Q
  | _ => False
theorem pg_any {es : List Expr} {k : Nat} {t : TGs} {n : Nat} {pos : Pos} (hc : X.calm = true) (h : PGs X es t)
    (hn : (assignEach es X.env).length = n := by rfl) (hst : (assignEach es X.env).findIdx? (·.1) = none := by rfl) : PG X (.Tuple es k pos) (gAny X.K n t) := by
  refine ⟨fun pins s σ H v u Q I r hw => ?_⟩
  unfold gAny at hw
  split at hw
  · obtain ⟨xs, h1 | h1, h2⟩ := hw
    · exact (pg_lst hc h hn hst).run pins s σ H _ u Q I r ⟨_, xs, rfl, h1, h2⟩
    · exact (pg_tup hc h hn hst).run pins s σ H _ u Q I r ⟨_, xs, rfl, h1, h2⟩
  · exact hw.elim
end
/-! ### loops, as they are told -/
section
variable {K : PySem.W.Frag} {a : Addr} {xs : List V} {g : TG} {tb : TS} {D : Ends} {σ : L2.St} {H : Hp} {x : V}
/-- for .. in a list or a tuple that the body leaves -/
theorem for_sq (Pv : Nat → L2.St → Hp → Prop) (h0 : Pv 0 σ H) (hl : (∀ i σ H, i ≤ xs.length → Pv i σ H → SqL K H a xs) ∨ (∀ i σ H, i ≤ xs.length → Pv i σ H → SqT K H a xs))
    (hs : ∀ i x σ H, xs[i]? = some x → Pv i σ H → g x σ H fun σ2 H2 => tb { D with nx := Pv (i + 1), ct := Pv (i + 1), bk := D.nx } σ2 H2) (hd : ∀ σ H, Pv xs.length σ H → D.nx σ H)
    {R : It → Hp → Prop} (hR : R = fun J H1 => ∃ W : Nat → Nat → L2.St → Hp → Prop, (∃ m, W 0 m σ H1) ∧ ∀ i m σ H, W i m σ H →
      (J.stop i H ∧ D.nx σ H) ∨ (J.go i H ∧ ∃ N : L2.St → Hp → Prop, (∀ σ' H', N σ' H' → ∃ m', m' < m ∧ W (i + 1) m' σ' H') ∧ ∀ x H', J.yld i H x H' → g x σ H' fun σ2 H2 => tb { D with nx := N, ct := N, bk := D.nx } σ2 H2)) :
    ((∃ xs, SqL K H a xs) ∧ R (Itl K a) H) ∨ ((∃ xs, SqT K H a xs) ∧ R (Itt K a) H) := by
  subst hR
  rcases hl with hl | hl
  · exact .inl ⟨⟨xs, hl 0 σ H (Nat.zero_le _) h0⟩, for_list Pv h0 hl hs hd⟩
  · exact .inr ⟨⟨xs, hl 0 σ H (Nat.zero_le _) h0⟩, for_tup Pv h0 hl hs hd⟩
/-- for c in a text -/
theorem for_txt {z : Str} (Pv : Nat → L2.St → Hp → Prop) (h0 : Pv 0 σ H)
    (hs : ∀ i c σ H, z.cps.toList[i]? = some c → Pv i σ H → g (.str ⟨#[c]⟩) σ H fun σ2 H2 => tb { D with nx := Pv (i + 1), ct := Pv (i + 1), bk := D.nx } σ2 H2) (hd : ∀ σ H, Pv z.cps.toList.length σ H → D.nx σ H) :
    ∃ W : Nat → Nat → L2.St → Hp → Prop, (∃ m, W 0 m σ H) ∧ ∀ i m σ H, W i m σ H →
      ((Its z).stop i H ∧ D.nx σ H) ∨ ((Its z).go i H ∧ ∃ N : L2.St → Hp → Prop, (∀ σ' H', N σ' H' → ∃ m', m' < m ∧ W (i + 1) m' σ' H') ∧ ∀ x H', (Its z).yld i H x H' → g x σ H' fun σ2 H2 => tb { D with nx := N, ct := N, bk := D.nx } σ2 H2) := by
  refine ⟨fun i m σ H => m = z.cps.toList.length - i ∧ i ≤ z.cps.toList.length ∧ Pv i σ H, ⟨_, rfl, Nat.zero_le _, h0⟩, ?_⟩
  rintro i m σ H ⟨rfl, hi, p⟩
  by_cases hlt : i < z.cps.toList.length
  · refine .inr ⟨(by have := hlt; simp at this; exact this : i < z.cps.size), Pv (i + 1), fun σ' H' p' => ⟨z.cps.toList.length - (i + 1), by omega, rfl, hlt, p'⟩, fun x H' y => ?_⟩
    obtain ⟨rfl, c, hc, rfl⟩ := y
    exact hs i c σ _ (by simpa using hc) p
  · have e : i = z.cps.toList.length := by omega
    subst e
    exact .inl ⟨by show z.cps.size ≤ _; simp, hd σ H p⟩
end
/-! ### a comprehension, as it is told -/
section
variable {K : PySem.W.Frag} {a : Addr} {xs : List V} {g : TG} {tt : TT} {te : TE} {vs : List Nat} {σ : L2.St} {H1 : Hp} {D : Addr} {Qd : Hp → Prop}
theorem lc_txt {z : Str} (Pv : Nat → Hp → Prop) (h0 : Pv 0 (upd H1 D (.lst [])))
    (hs : ∀ i c H, z.cps.toList[i]? = some c → Pv i H → g (.str ⟨#[c]⟩) (wipe σ vs) H fun σ2 H2 => wipe σ2 vs = wipe σ vs ∧ tt σ2 H2 fun b H3 =>
      if b = true then te σ2 H3 fun y H4 => ∃ acc, H4 D = some (.lst acc) ∧ acc.length < sizeLine ∧ Pv (i + 1) (upd H4 D (.lst (acc ++ [y]))) else Pv (i + 1) H3) (hd : ∀ H, Pv z.cps.toList.length H → Qd H) :
    ∃ W : Nat → Nat → Hp → Prop, (∃ m, W 0 m (upd H1 D (.lst []))) ∧ ∀ i m H, W i m H → ((Its z).stop i H ∧ Qd H) ∨ ((Its z).go i H ∧ ∃ Nx : Hp → Prop, (∀ H', Nx H' → ∃ m', m' < m ∧ W (i + 1) m' H') ∧
      ∀ x H', (Its z).yld i H x H' → g x (wipe σ vs) H' fun σ2 H2 => wipe σ2 vs = wipe σ vs ∧ tt σ2 H2 fun b H3 =>
        if b = true then te σ2 H3 fun y H4 => ∃ acc, H4 D = some (.lst acc) ∧ acc.length < sizeLine ∧ Nx (upd H4 D (.lst (acc ++ [y]))) else Nx H3) := by
  refine ⟨fun i m H => m = z.cps.toList.length - i ∧ i ≤ z.cps.toList.length ∧ Pv i H, ⟨_, rfl, Nat.zero_le _, h0⟩, ?_⟩
  rintro i m H ⟨rfl, hi, p⟩
  by_cases hlt : i < z.cps.toList.length
  · refine .inr ⟨(by have := hlt; simp at this; exact this : i < z.cps.size), Pv (i + 1), fun H' p' => ⟨z.cps.toList.length - (i + 1), by omega, rfl, hlt, p'⟩, fun x H' y => ?_⟩
    obtain ⟨rfl, c, hc, rfl⟩ := y
    exact hs i c _ (by simpa using hc) p
  · have e : i = z.cps.toList.length := by omega
    subst e
    exact .inl ⟨by show z.cps.size ≤ _; simp, hd H p⟩
end
/-! ### a def, as its callers know it -/
structure Fn (P : Program) (w : World) (K : PySem.W.Frag) (mg : Str → Option Value) (base : Heap) (CX : CXT) (k : Nat) (x : Str) (ps : List Str) (sp : Sp) (f : Addr) (fd : FuncData) : Prop where
  ok : FnOk P w K mg base CX k f fd ps sp
  hm : mg x = some (.ref f)
  kp : PySem.W.keepIn K (.ref f) = true
  bd : Binds K fd ps []
def tF (sp : Sp) (E : XK) (t : TA) : TE := fun σ H Q => t σ H fun vs H1 => sp vs H1 Q E
section
variable {X : Cx} {CX : CXT} {k : Nat} {f : Addr} {fd : FuncData} {ps : List Str} {sp : Sp} {E : XK} {x : Str} {p pos : Pos} {e : Expr} {es : List Expr} {t : TA}
theorem fn (F : Fn X.prog X.w X.K X.mg X.base CX k x ps sp f fd) (hr : Room k X.A) (hg : Gl X x) (hx : Passes CX X E)
    (ha : PA X (e :: es) t) (hdb : (x == ("__debug__" : Str)) = false := by decide) (he : starEach (e :: es) X.env = (false, eval e X.env) :: starEach es X.env := by rfl) (hpl : (backTo pos (starEach es X.env)).any (·.1) = false := by rfl) :
    PE X (.Call (.Name x p) (e :: es) [] pos) (tF sp E t) := by
  refine PE.imp (pe_call F.ok hr hg F.hm F.kp F.bd .nil hx ha hdb he hpl) fun σ H Q h => ?_
  show t σ H fun vs H1 => sp (vs ++ []) H1 Q E
  simp only [List.append_nil]
  exact h
end
/-! ### the same, the frag named: within a comprehension -/
section
variable {X : Cx} {tg : Expr} (K : PySem.W.Frag) (h : X.K = K)
include h
theorem x_anyK : IxR X (uIx K) := by subst h; exact x_any
theorem sl_anyK : SlR X (uSl K) := by subst h; exact sl_any
theorem o_eqK {k : Nat} (hr : Room k X.A) : OpR X (compareOp .Eq) (uEq K) := by subst h; exact o_eq hr
theorem o_neK {k : Nat} (hr : Room k X.A) : OpR X (compareOp .NotEq) (uNe K) := by subst h; exact o_ne hr
theorem o_inK : OpR X (compareOp .In) (uIn K false) := by subst h; exact o_in
theorem o_notInK : OpR X (compareOp .NotIn) (uIn K true) := by subst h; exact o_notIn
theorem b_lenK : CallR X (.builtin "len") (uLen K) := by subst h; exact b_len
theorem b_listK : CallR X (.type "list") (uList K) := by subst h; exact b_list
theorem b_allK (hc : X.calm = true) : CallR X (.builtin "all") (uAll K) := by subst h; exact b_all hc
theorem pi_anyK {l : Expr} {tl : TE} (hl : PE X l tl) : PI X tg l (iAny K tl) := by subst h; exact pi_any hl
theorem pg_anyK {es : List Expr} {k : Nat} {t : TGs} {n : Nat} {pos : Pos} (hc : X.calm = true) (h' : PGs X es t)
    (hn : (assignEach es X.env).length = n := by rfl) (hst : (assignEach es X.env).findIdx? (·.1) = none := by rfl) : PG X (.Tuple es k pos) (gAny K n t) := by subst h; exact pg_any hc h' hn hst
end
/-! ### what holds between two statements is named -/
def tCut (t u : TS) : TS := fun D σ H => ∃ J : L2.St → Hp → Prop, t { D with nx := J } σ H ∧ ∀ σ' H', J σ' H' → u D σ' H'
theorem pss_cut {X : Cx} {st : Stmt} {rest : List Stmt} {t u : TS} (h1 : PS X st t) (h2 : PSs X rest u) : PSs X (st :: rest) (tCut t u) := by
  refine ⟨fun pins s σ H D I h => ?_⟩
  obtain ⟨J, h, hJ⟩ := h
  refine wpAny_execs_cons (thn (h1.run pins s σ H { D with nx := J } I h) fun f s1 q => ?_)
  cases f with
  | next =>
    obtain ⟨σ', H', I', q⟩ := q
    exact h2.run pins s1 σ' H' D I' (hJ _ _ q)
  | ret v => exact q
  | brk => exact q
  | cont => exact q
end Bs
namespace Bs
open PySem PySem.Spec PyProof.Rows L2 TL
/-! ### texts as lists of code points -/
def tx (cs : List Nat) : Str := ⟨cs.toArray⟩
abbrev one (c : Nat) : Str := ⟨#[c]⟩
theorem tx_cps (cs : List Nat) : (tx cs).cps.toList = cs := by simp [tx]
theorem tx_of (z : Str) : tx z.cps.toList = z := by cases z; simp [tx]
theorem tx_len (cs : List Nat) : (tx cs).length = cs.length := by show (tx cs).cps.size = _; simp [tx]
theorem len_cps (z : Str) : z.length = z.cps.toList.length := by show z.cps.size = _; simp
theorem str_ext {a b : Str} (h : a.cps.toList = b.cps.toList) : a = b := by rw [← tx_of a, ← tx_of b, h]
theorem app_cps (a b : Str) : (a ++ b).cps.toList = a.cps.toList ++ b.cps.toList := by
  show (a.cps ++ b.cps).toList = _
  simp
theorem app_len (a b : Str) : (a ++ b).length = a.length + b.length := by rw [len_cps, len_cps, len_cps, app_cps, List.length_append]
theorem joinL_ones : ∀ cs : List Nat, joinL [] (cs.map fun c => [c]) = cs
  | [] => rfl
  | [_] => rfl
  | a :: b :: r => by
    show [a] ++ ([] ++ joinL [] ((b :: r).map fun c => [c])) = _
    rw [joinL_ones (b :: r)]
    rfl
theorem join_ones {e : Str} (he : e.cps.toList = []) (cs : List Nat) : Txt.join e (cs.map one) = tx cs := by
  refine str_ext ?_
  rw [join_eq, tx_cps]
  have h := tl_join e (cs.map one)
  have h2 : (cs.map one).map tl = cs.map fun c => [c] := by simp [tl]
  rw [h2, show tl e = [] from he, joinL_ones] at h
  exact h
theorem sum_ones (cs : List Nat) : ((cs.map one).map (·.length)).sum = cs.length := by
  induction cs with
  | nil => rfl
  | cons a r ih =>
    show (one a).length + ((r.map one).map (·.length)).sum = r.length + 1
    rw [ih]
    show 1 + _ = _
    omega
theorem cutS_cps (z : Str) (lo hi : Option Int) : (cutS z lo hi).cps.toList = (z.cps.toList.drop (HT.sIx z.length 0 lo)).take (HT.sIx z.length z.length hi - HT.sIx z.length 0 lo) := by
  unfold cutS
  simp
theorem inS_one (c : Nat) (z : Str) : inS (one c) z = decide (c ∈ z.cps.toList) := (PySem.StrLaws.found_one z c)
def abc : Str := "abcdef"
/-- the slots below a size -/
def below (n : Int) : Str := cutS abc none (some n)
theorem below_len {n : Int} (h1 : 1 ≤ n) (h2 : n ≤ 6) : (below n).length = n.toNat := by
  have : n = 1 ∨ n = 2 ∨ n = 3 ∨ n = 4 ∨ n = 5 ∨ n = 6 := by omega
  rcases this with rfl | rfl | rfl | rfl | rfl | rfl <;> decide +kernel
theorem below_eq {n : Int} (h1 : 1 ≤ n) (h2 : n ≤ 6) : (below n).cps.toList = [97, 98, 99, 100, 101, 102].take n.toNat := by
  have : n = 1 ∨ n = 2 ∨ n = 3 ∨ n = 4 ∨ n = 5 ∨ n = 6 := by omega
  rcases this with rfl | rfl | rfl | rfl | rfl | rfl <;> decide +kernel
theorem fold_size : ∀ (l : List (Array Nat)) (n : Nat) (acc : Array Nat), (∀ x ∈ l, x.size = n) → (l.foldl (· ++ ·) acc).size = acc.size + l.length * n
  | [], n, acc, _ => by simp
  | x :: r, n, acc, h => by
    show (r.foldl (· ++ ·) (acc ++ x)).size = _
    rw [fold_size r n _ fun y hy => h y (List.mem_cons_of_mem _ hy), Array.size_append, h x List.mem_cons_self, List.length_cons, Nat.add_mul]
    omega
theorem mul_len (z : Str) (k : Int) : (Txt.mul z k).length ≤ z.length * k.toNat := by
  unfold Txt.mul
  split
  · exact Nat.zero_le _
  · split
    · rename_i h1 h2
      have h3 : 1 ≤ k.toNat := by omega
      exact Nat.le_mul_of_pos_right _ h3
    · show ((List.replicate k.toNat z.cps).foldl (· ++ ·) #[]).size ≤ _
      rw [fold_size _ z.cps.size _ fun x hx => by rw [(List.mem_replicate.mp hx).2]]
      rw [List.length_replicate, Nat.mul_comm]
      show 0 + z.cps.size * k.toNat ≤ z.cps.size * k.toNat
      omega
/-! ### small data -/
def sc1 : V → Bool
  | .non => true
  | .bl _ => true
  | .int _ => true
  | .str _ => true
  | _ => false
/-- a scalar, or a list or a tuple of scalars, or a dict of at most one text -/
def Jk (H : Hp) : V → Prop
  | .ref p => (∃ xs, H p = some (.lst xs) ∧ xs.all sc1 = true ∧ xs.length ≤ 3) ∨ (∃ xs, H p = some (.tup xs) ∧ xs.all sc1 = true ∧ xs.length ≤ 3) ∨ H p = some (.dK []) ∨ ∃ a b, H p = some (.dK [(Sum.inr a, .str b)])
  | .str z => decide (z.length ≤ 100000) = true
  | v => sc1 v = true
theorem Jk.mono {H H' : Hp} {v : V} (j : Jk H v) (h : ∀ p o, v = .ref p → H p = some o → (∀ ps, o ≠ .tbl ps) → H' p = some o) : Jk H' v := by
  cases v with
  | ref p =>
    rcases j with ⟨xs, e, r⟩ | ⟨xs, e, r⟩ | e | ⟨a, b, e⟩
    · exact .inl ⟨xs, h p _ rfl e (fun _ z => by cases z), r⟩
    · exact .inr (.inl ⟨xs, h p _ rfl e (fun _ z => by cases z), r⟩)
    · exact .inr (.inr (.inl (h p _ rfl e (fun _ z => by cases z))))
    · exact .inr (.inr (.inr ⟨a, b, h p _ rfl e (fun _ z => by cases z)⟩))
  | non => exact j
  | bl _ => exact j
  | int _ => exact j
  | str _ => exact j
  | _ => cases j
theorem Jk.ty {H : Hp} {v : V} (j : Jk H v) : ∃ t, tyOf H v = some t ∧ (t = "str" ↔ ∃ z, v = .str z) ∧ (t = "int" ↔ ∃ i, v = .int i) ∧ (t = "bool" ↔ ∃ b, v = .bl b) := by
  cases v with
  | ref p =>
    have key : ∃ t, tyOf H (.ref p) = some t ∧ (t = "list" ∨ t = "tuple" ∨ t = "dict") := by
      rcases j with ⟨xs, e, r⟩ | ⟨xs, e, r⟩ | e | ⟨a, b, e⟩
      · exact ⟨"list", by simp [tyOf, e], .inl rfl⟩
      · exact ⟨"tuple", by simp [tyOf, e], .inr (.inl rfl)⟩
      · exact ⟨"dict", by simp [tyOf, e], .inr (.inr rfl)⟩
      · exact ⟨"dict", by simp [tyOf, e], .inr (.inr rfl)⟩
    obtain ⟨t, e, h⟩ := key
    exact ⟨t, e, by rcases h with rfl | rfl | rfl <;> simp, by rcases h with rfl | rfl | rfl <;> simp, by rcases h with rfl | rfl | rfl <;> simp⟩
  | non => exact ⟨_, rfl, by simp, by simp, by simp⟩
  | bl b => exact ⟨_, rfl, by simp, by simp, by simp⟩
  | int i => exact ⟨_, rfl, by simp, by simp, by simp⟩
  | str z => exact ⟨_, rfl, by simp, by simp, by simp⟩
  | _ => cases j
/-! ### what can be shown -/
def scD : V → Option PyData
  | .non => some .none
  | .bl b => some (.bool b)
  | .int i => some (.int i)
  | .str z => some (.str z)
  | _ => none
def allD : List V → Option (List PyData)
  | [] => some []
  | v :: r => match scD v, allD r with
    | some d, some ds => some (d :: ds)
    | _, _ => none
def showOk (d : PyData) : Bool := d.showable && decide (d.shown.length ≤ 2000)
/-- a value stands for data -/
inductive Jd (H : Hp) : V → PyData → Prop
  | sc {v : V} {d : PyData} : scD v = some d → Jd H v d
  | lst {p : Addr} {xs : List V} {ds : List PyData} : H p = some (.lst xs) → p ≠ sysModules → allD xs = some ds → Jd H (.ref p) (.list ds)
  | tup {p : Addr} {xs : List V} {ds : List PyData} : H p = some (.tup xs) → allD xs = some ds → Jd H (.ref p) (.tuple ds)
  | d0 {p : Addr} : H p = some (.dK []) → Jd H (.ref p) (.dict [])
  | d1 {p : Addr} {a b : Str} : H p = some (.dK [(Sum.inr a, .str b)]) → Jd H (.ref p) (.dict [(.str a, .str b)])
def Sh (H : Hp) (v : V) : Prop := ∃ d, Jd H v d ∧ showOk d = true
theorem Jd.mono {H H' : Hp} {v : V} {d : PyData} (j : Jd H v d) (h : ∀ p o, v = .ref p → H p = some o → (∀ ps, o ≠ .tbl ps) → H' p = some o) : Jd H' v d := by
  cases j with
  | sc e => exact .sc e
  | lst e n r => exact .lst (h _ _ rfl e (fun _ z => by cases z)) n r
  | tup e r => exact .tup (h _ _ rfl e (fun _ z => by cases z)) r
  | d0 e => exact .d0 (h _ _ rfl e (fun _ z => by cases z))
  | d1 e => exact .d1 (h _ _ rfl e (fun _ z => by cases z))
theorem Sh.mono {H H' : Hp} {v : V} (j : Sh H v) (h : ∀ p o, v = .ref p → H p = some o → (∀ ps, o ≠ .tbl ps) → H' p = some o) : Sh H' v := by
  obtain ⟨d, j, r⟩ := j
  exact ⟨d, j.mono h, r⟩
def okS (v : V) : Bool := match scD v with
  | some d => showOk d
  | none => false
theorem sh_sc {H : Hp} {v : V} (h : okS v = true) : Sh H v := by
  unfold okS at h
  split at h
  · rename_i d e; exact ⟨d, .sc e, h⟩
  · cases h
def okL (c : List PyData → PyData) (xs : List V) : Bool := match allD xs with
  | some ds => showOk (c ds)
  | none => false
theorem sh_lst {H : Hp} {p : Addr} {xs : List V} (e : H p = some (.lst xs)) (n : p ≠ sysModules) (h : okL .list xs = true) : Sh H (.ref p) := by
  unfold okL at h
  split at h
  · rename_i ds r; exact ⟨_, .lst e n r, h⟩
  · cases h
theorem sh_tup {H : Hp} {p : Addr} {xs : List V} (e : H p = some (.tup xs)) (h : okL .tuple xs = true) : Sh H (.ref p) := by
  unfold okL at h
  split at h
  · rename_i ds r; exact ⟨_, .tup e r, h⟩
  · cases h
theorem sh_d0 {H : Hp} {p : Addr} (e : H p = some (.dK [])) : Sh H (.ref p) := ⟨_, .d0 e, by decide +kernel⟩
theorem sh_d1 {H : Hp} {p : Addr} {a b : Str} (e : H p = some (.dK [(Sum.inr a, .str b)])) (h : showOk (.dict [(.str a, .str b)]) = true) : Sh H (.ref p) := ⟨_, .d1 e, h⟩
/-! ### what a word is, what a lot is -/
def alpha : Str := "abcdefghijklmnopqrstuvwxyz"
def alnum : Str := "abcdefghijklmnopqrstuvwxyz0123456789"
def wordL : List Nat → Bool
  | [] => false
  | c :: r => decide ((c :: r).length ≤ 8) && (decide (c ∈ alpha.cps.toList) && (c :: r).all fun x => decide (x ∈ alnum.cps.toList))
def isW (z : Str) : Bool := wordL z.cps.toList
theorem wordL_cons (c : Nat) (r : List Nat) : wordL (c :: r) = (decide ((c :: r).length ≤ 8) && (decide (c ∈ alpha.cps.toList) && (c :: r).all fun x => decide (x ∈ alnum.cps.toList))) := rfl
theorem atI_zero {α : Type} (c : α) (r : List α) : atI (c :: r) 0 = some c := by
  unfold atI ixN
  rw [if_pos (by decide), if_pos (by simp only [List.length_cons]; omega)]
  rfl
/-- from the last sign on -/
def after : Option Nat → Nat → Bool
  | none, _ => true
  | some d, c => decide (d < c)
def lotL (B : List Nat) : Option Nat → List Nat → Bool
  | _, [] => true
  | l, c :: r => decide (c ∈ B) && (after l c && lotL B (some c) r)
def isL (n : Int) (z : Str) : Bool := lotL (below n).cps.toList none z.cps.toList
def badW : V → Bool
  | .str z => !isW z
  | _ => true
def badL (n : Int) : V → Bool
  | .str z => !isL n z
  | _ => true
def badS : V → Bool
  | .int i => !(decide (1 ≤ i) && decide (i ≤ 6))
  | _ => true
def badT : V → Bool
  | .str _ => false
  | _ => true
/-! ### texts whose signs are signs -/
def okT (z : Str) : Prop := ∀ c ∈ z.cps.toList, c < 1114112
theorem okT.strOk {z : Str} (h : okT z) : PyData.strOk z = true := by
  unfold PyData.strOk
  rw [← Array.all_toList, List.all_eq_true]
  intro c hc
  exact decide_eq_true (h c hc)
theorem okT_app {a b : Str} (h : okT a) (h2 : okT b) : okT (a ++ b) := fun c hc => by
  rw [app_cps] at hc
  exact (List.mem_append.mp hc).elim (h c) (h2 c)
theorem okT_cut {z : Str} {lo hi : Option Int} (h : okT z) : okT (cutS z lo hi) := fun c hc => by
  rw [cutS_cps] at hc
  exact h c (List.mem_of_mem_drop (List.mem_of_mem_take hc))
theorem okT_one {c : Nat} (h : c < 1114112) : okT (one c) := fun d hd => by
  have : d = c := by simpa [one] using hd
  rw [this]; exact h
theorem okT_tx {cs : List Nat} (h : ∀ c ∈ cs, c < 1114112) : okT (tx cs) := fun c hc => h c (by rw [tx_cps] at hc; exact hc)
theorem fold_mem {x : Nat} : ∀ (l : List (Array Nat)) (acc : Array Nat), x ∈ (l.foldl (· ++ ·) acc).toList → x ∈ acc.toList ∨ ∃ y ∈ l, x ∈ y.toList
  | [], acc, h => .inl h
  | a :: r, acc, h => by
    rcases fold_mem r (acc ++ a) h with h | ⟨y, hy, h⟩
    · rw [Array.toList_append] at h
      rcases List.mem_append.mp h with h | h
      · exact .inl h
      · exact .inr ⟨a, List.mem_cons_self, h⟩
    · exact .inr ⟨y, List.mem_cons_of_mem _ hy, h⟩
theorem okT_mul {z : Str} {k : Int} (h : okT z) : okT (Txt.mul z k) := by
  unfold Txt.mul
  split
  · intro c hc; exact absurd hc (by simp [Str.empty])
  · split
    · exact h
    · intro c hc
      rcases fold_mem _ _ hc with q | ⟨y, hy, q⟩
      · exact absurd q (by simp)
      · rw [(List.mem_replicate.mp hy).2] at q
        exact h c q
theorem okT_abc : okT abc := by unfold okT; decide +kernel
/-! ### the signs of a text that a test keeps -/
def sgs (cs : List Nat) : List V := (cs.map one).map V.str
theorem sgs_len (cs : List Nat) : (sgs cs).length = cs.length := by simp [sgs]
theorem sgs_app (a b : List Nat) : sgs (a ++ b) = sgs a ++ sgs b := by simp [sgs]
theorem take_get {l : List Nat} {i : Nat} {c : Nat} (h : l[i]? = some c) : l.take (i + 1) = l.take i ++ [c] := by
  rw [List.take_succ, h]
  rfl
theorem filt_step {l : List Nat} {i : Nat} {c : Nat} (p : Nat → Bool) (h : l[i]? = some c) : (l.take (i + 1)).filter p = (l.take i).filter p ++ (if p c then [c] else []) := by
  rw [take_get h, List.filter_append]
  congr 1
  cases e : p c <;> simp [e]
theorem filt_len {l : List Nat} {i : Nat} (p : Nat → Bool) : ((l.take i).filter p).length ≤ l.length := Nat.le_trans (List.length_filter_le _ _) (by rw [List.length_take]; omega)
theorem lc_filt {z : Str} {g : TG} {tt : TT} {te : TE} {vs : List Nat} {σ : L2.St} {H1 : Hp} {D : Addr} {Qd : Hp → Prop} (p : Nat → Bool) (hz : z.length < sizeLine)
    (hs : ∀ c H (N M : Hp → Prop), c ∈ z.cps.toList → (∃ acc, H D = some (.lst acc) ∧ acc.length < sizeLine ∧ (p c = true → N (upd H D (.lst (acc ++ [.str (one c)]))))) → (p c = false → M H) →
      (∀ b o, b ≠ D → H1 b = some o → H b = some o) → g (.str ⟨#[c]⟩) (wipe σ vs) H fun σ2 H2 => wipe σ2 vs = wipe σ vs ∧ tt σ2 H2 fun b H3 =>
      if b = true then te σ2 H3 fun y H4 => ∃ acc, H4 D = some (.lst acc) ∧ acc.length < sizeLine ∧ N (upd H4 D (.lst (acc ++ [y]))) else M H3)
    (hd : Qd (upd H1 D (.lst (sgs (z.cps.toList.filter p))))) :
    ∃ W : Nat → Nat → Hp → Prop, (∃ m, W 0 m (upd H1 D (.lst []))) ∧ ∀ i m H, W i m H → ((Its z).stop i H ∧ Qd H) ∨ ((Its z).go i H ∧ ∃ Nx : Hp → Prop, (∀ H', Nx H' → ∃ m', m' < m ∧ W (i + 1) m' H') ∧
      ∀ x H', (Its z).yld i H x H' → g x (wipe σ vs) H' fun σ2 H2 => wipe σ2 vs = wipe σ vs ∧ tt σ2 H2 fun b H3 =>
        if b = true then te σ2 H3 fun y H4 => ∃ acc, H4 D = some (.lst acc) ∧ acc.length < sizeLine ∧ Nx (upd H4 D (.lst (acc ++ [y]))) else Nx H3) := by
  refine lc_txt (fun i H => H = upd H1 D (.lst (sgs ((z.cps.toList.take i).filter p)))) rfl ?_ ?_
  · rintro i c H hc rfl
    refine hs c _ (fun Hx => Hx = upd H1 D (.lst (sgs ((z.cps.toList.take (i + 1)).filter p)))) (fun Hx => Hx = upd H1 D (.lst (sgs ((z.cps.toList.take (i + 1)).filter p)))) (List.mem_of_getElem? hc) ⟨_, upd_same, ?_, fun hp => ?_⟩ (fun hp => ?_) (fun b o hb e => by rw [upd_ne hb]; exact e)
    · rw [sgs_len]
      have h1 := @filt_len z.cps.toList i p
      rw [len_cps] at hz
      omega
    · rw [upd_upd, filt_step p hc, sgs_app, hp]
      rfl
    · rw [filt_step p hc, hp]
      simp
  · rintro H rfl
    rw [List.take_length]
    exact hd
/-! ### answers -/
inductive Rs where
  | told (z : Str)
  | no (name : Str)
  deriving DecidableEq
def Rs.At (H : Hp) (p : Addr) : Rs → Prop
  | .told z => H p = some (.tup [.str "told", .str z])
  | .no name => ∃ q r, H p = some (.tup [.str "refused", .ref q, .ref r]) ∧ H q = some (.lst [.str name]) ∧ H r = some (.tup [])
def Rs.data : Rs → PyData
  | .told z => .tuple [.str "told", .str z]
  | .no name => .tuple [.str "refused", .list [.str name], .tuple []]
theorem Rs.At.mono {H H' : Hp} {p : Addr} {r : Rs} (h : r.At H p) (g : ∀ b o, H b = some o → (∀ ps, o ≠ .tbl ps) → H' b = some o) : r.At H' p := by
  cases r with
  | told z => exact g _ _ h (fun _ z => by cases z)
  | no name =>
    obtain ⟨q, t, h1, h2, h3⟩ := h
    exact ⟨q, t, g _ _ h1 (fun _ z => by cases z), g _ _ h2 (fun _ z => by cases z), g _ _ h3 (fun _ z => by cases z)⟩
end Bs
/-! What the draws of a law lean on. -/
namespace K0
open PySem PySem.Spec PyProof.Rows L2 Bs
structure Txt (K : PySem.W.Frag) (mg : Str → Option Value) : Prop where
  int : mg "int" = none
  max : mg "max" = none
  len : mg "len" = none
  range : mg "range" = none
  isinstance : mg "isinstance" = none
  str : mg "str" = none
  bool : mg "bool" = none
  all : mg "all" = none
  list : mg "list" = none
  repr : mg "repr" = none
  zip : mg "zip" = none
  tuple : mg "tuple" = none
  dict : mg "dict" = none
  any : mg "any" = none
  sum : mg "sum" = none
  min : mg "min" = none
  set : mg "set" = none
  sorted : mg "sorted" = none
  enumerate : mg "enumerate" = none
/-- all but a stands, and nothing is new -/
def Only (a : Addr) (H H' : Hp) : Prop := ∀ b, b ≠ a → H' b = H b
theorem Only.refl {a : Addr} {H : Hp} : Only a H H := fun _ _ => rfl
theorem Only.upd {a : Addr} {H : Hp} {o : HO} : Only a H (L2.upd H a o) := fun b hb => upd_ne hb
theorem Only.trans {a : Addr} {H H1 H2 : Hp} (h : Only a H H1) (g : Only a H1 H2) : Only a H H2 := fun b hb => (g b hb).trans (h b hb)
/-- the store: its cells and its six numbers -/
structure StX (H : Hp) (a c : Addr) (cells : List Int) (p w x n t sd : Int) : Prop where
  at_ : H a = some (.lst [.ref c, .int p, .int w, .int x, .int n, .int t, .int sd])
  cl : H c = some (.lst (cells.map V.int))
  ne : c ≠ a
  pp : 0 ≤ p
def StAt (H : Hp) (a c : Addr) : Prop := ∃ cells p w x n t sd, StX H a c cells p w x n t sd
theorem StX.put {H H' : Hp} {a c : Addr} {cells : List Int} {p w x n t sd p' w' x' n' t' sd' : Int} (S : StX H a c cells p w x n t sd) (o : Only a H H') (h : H' a = some (.lst [.ref c, .int p', .int w', .int x', .int n', .int t', .int sd'])) (hp : 0 ≤ p') :
    StX H' a c cells p' w' x' n' t' sd' := ⟨h, by rw [o c S.ne]; exact S.cl, S.ne, hp⟩
theorem log62 {n : Nat} (h : n < 2 ^ 62) : n.log2 < 9000 := by
  by_cases z : n = 0
  · subst z; decide
  · exact Nat.lt_of_lt_of_le ((Nat.log2_lt z).mpr h) (by decide)
def most (lim : Int) : Int := if lim > 1 then lim else 1
theorem most_pos (lim : Int) : 0 < most lim := by unfold most; split <;> omega
theorem most_div {lim : Int} (h : lim < 2 ^ 62) : CDivW 0 (most lim) := ⟨most_pos lim, log62 (by unfold most; split <;> omega)⟩
theorem mem_get {α : Type} {l : List α} {i : Nat} {x : α} (h : l[i]? = some x) : x ∈ l := List.mem_of_getElem? h
theorem mem_cutV {xs : List V} {lo hi : Option Int} {x : V} (h : x ∈ cutV xs lo hi) : x ∈ xs := List.mem_of_mem_drop (List.mem_of_mem_take h)
theorem cutV_len {xs : List V} {lo hi : Option Int} : (cutV xs lo hi).length ≤ xs.length := by
  unfold cutV
  rw [List.length_take, List.length_drop]
  omega
theorem Same.up {H : Hp} {a : Addr} {o : HO} (h : H a = none) : Same H (L2.upd H a o) := fun b u e => by
  rw [upd_ne (ne_of_none e h)]
  exact e
/-- all but a stands; there may be new things -/
def Grow (a : Addr) (H H' : Hp) : Prop := ∀ b o, b ≠ a → H b = some o → H' b = some o
theorem Grow.refl {a : Addr} {H : Hp} : Grow a H H := fun _ _ _ h => h
theorem Grow.trans {a : Addr} {H H1 H2 : Hp} (h : Grow a H H1) (g : Grow a H1 H2) : Grow a H H2 := fun b o hb e => g b o hb (h b o hb e)
theorem Only.grow {a : Addr} {H H' : Hp} (h : Only a H H') : Grow a H H' := fun b o hb e => (h b hb).trans e
theorem Grow.new {a l : Addr} {H : Hp} {o : HO} (h : H l = none) : Grow a H (upd H l o) := fun b o' _ e => by rw [upd_ne (ne_of_none e h)]; exact e
theorem Grow.put {a l : Addr} {H H' : Hp} {o : HO} (g : Grow a H H') (h : H l = none) : Grow a H (upd H' l o) := fun b o' hb e => by rw [upd_ne (ne_of_none e h)]; exact g b o' hb e
theorem StAt.lst {H : Hp} {a c : Addr} (S : StAt H a c) : ∃ xs, H a = some (.lst xs) := by obtain ⟨cells, p, w, x, n, t, sd, S⟩ := S; exact ⟨_, S.at_⟩
theorem StAt.cst {H : Hp} {a c : Addr} (S : StAt H a c) : ∃ xs, H c = some (.lst xs) := by obtain ⟨cells, p, w, x, n, t, sd, S⟩ := S; exact ⟨_, S.cl⟩
theorem StAt.put {H : Hp} {a c l : Addr} {o : HO} (S : StAt H a c) (h1 : l ≠ a) (h2 : l ≠ c) : StAt (upd H l o) a c := by
  obtain ⟨cells, p, w, x, n, t, sd, S⟩ := S
  exact ⟨cells, p, w, x, n, t, sd, ⟨by rw [upd_ne h1.symm]; exact S.at_, by rw [upd_ne h2.symm]; exact S.cl, S.ne, S.pp⟩⟩
theorem StAt.new {H : Hp} {a c l : Addr} {o : HO} (S : StAt H a c) (h : H l = none) : StAt (upd H l o) a c := by
  obtain ⟨cells, p, w, x, n, t, sd, S⟩ := S
  exact ⟨cells, p, w, x, n, t, sd, ⟨by rw [upd_ne (ne_of_none S.at_ h)]; exact S.at_, by rw [upd_ne (ne_of_none S.cl h)]; exact S.cl, S.ne, S.pp⟩⟩
theorem atI_nat {xs : List α} {r : Int} (h0 : 0 ≤ r) (h : r < (xs.length : Int)) : ∃ (hl : r.toNat < xs.length), atI xs r = some xs[r.toNat] := by
  have hl : r.toNat < xs.length := by omega
  refine ⟨hl, ?_⟩
  unfold atI ixN
  rw [if_pos h0, if_pos h]
  show xs[r.toNat]? = _
  exact List.getElem?_eq_getElem hl
theorem most_len {n : Nat} (h : 0 < n) : most (n : Int) = n := by unfold most; split <;> omega
def FnE (P : Program) (w : World) (K : PySem.W.Frag) (mg : Str → Option Value) (base : Heap) (CX : CXT) (k : Nat) (x : Str) (ps : List Str) (sp : Sp) : Prop := ∃ f fd, Fn P w K mg base CX k x ps sp f fd

def spMix : Sp := fun vs H Q _ => ∃ i j : Int, vs = [.int i, .int j] ∧ ∀ r : Int, Q (.int r) H
def spOpen : Sp := fun vs H Q _ => ∃ a c cells p w x n t sd, vs = [.ref a] ∧ StX H a c cells p w x n t sd ∧ p < (cells.length : Int) ∧ ∀ H', StAt H' a c → Only a H H' → Q .non H'
def spTake : Sp := fun vs H Q _ => ∃ (a c : Addr) (lim : Int), vs = [.ref a, .int lim] ∧ StAt H a c ∧ lim < 2 ^ 62 ∧ ∀ (r : Int) H', 0 ≤ r → r < most lim → StAt H' a c → Only a H H' → Q (.int r) H'
def spStore (K : PySem.W.Frag) : Sp := fun vs H Q _ => ∃ (a : Addr) (ns : List Int), vs = [.ref a] ∧ SqL K H a (ns.map V.int) ∧ ns.length ≤ 63 ∧ ∀ st c H', H st = none → H c = none → Same H H' → StAt H' st c → Q (.ref st) H'
theorem Same.tr {H H1 H2 : Hp} (a : Same H H1) (b : Same H1 H2) : Same H H2 := fun p o e => b p o (a p o e)
end K0
/-! sets of texts, of which the order of the table is not told; sorted of them -/
namespace Bs
open PySem PySem.Spec PyProof.Rows L2 PySem.Froz
/-- the set at a holds the texts l, each once; it can be walked -/
def TxR (P : Program) (w : World) (h : Heap) (a : Addr) (l : List Str) : Prop :=
  ∃ D : SD, h.get? a = some (sObj "set" D) ∧ TxOk P w D l ∧ l.Nodup ∧ Ris D.2.2.place.toList ∧ (w.params.followText "set-order" = true ∨ D.2.2.led = true)
section
variable {P : Program} {w : World} {A : Around} {E : Value → Shared → Prop} {s : Shared} {a : Addr} {l : List Str} {h h' : Heap}
theorem TxR.at (R : TxR P w h a l) (k : ∀ o, h.get? a = some o → h'.get? a = some o) : TxR P w h' a l := by
  obtain ⟨D, ho, r⟩ := R
  exact ⟨D, k _ ho, r⟩
theorem tail_ris {ep : Nat} {es1 : Array (Int × Value)} {t2 : SetTable} {b : Bool} (h : Ris t2.place.toList) : Ris (tailTx ep es1 t2 b).2.2.place.toList := by
  unfold tailTx
  split
  · exact relayAll_ris _ _ _
  · exact h
theorem tail_led {ep : Nat} {es1 : Array (Int × Value)} {t2 : SetTable} {b : Bool} : (tailTx ep es1 t2 b).2.2.led = t2.led := by
  unfold tailTx
  split
  · exact relayAll_led _ _ _
  · rfl
theorem add_ris {D : SD} {k : Int} {v : Value} (h : Ris D.2.2.place.toList) : Ris (addTx k v D).2.2.place.toList := by
  unfold addTx
  refine tail_ris ?_
  split
  · exact layNew_ris _ _ _ _ h
  · exact layNew_ris _ _ _ _ h
theorem add_led {D : SD} {k : Int} {v : Value} : (addTx k v D).2.2.led = D.2.2.led := by
  unfold addTx
  rw [tail_led]
  split
  · exact layNew_led _ _ _ _
  · exact layNew_led _ _ _ _
theorem txR_new {k : Str} {u : Tok} {Q : Bool → Shared → Prop} (R : TxR P w s.heap a l) (hk : k ∉ l) (hb : l.length + 1 < scanBound)
    (hQ : ∀ h', Heap.SameBut a s.heap h' → TxR P w h' a (k :: l) → Q true { s with heap := h' }) : wpAny (model P w) A (setAddHashed a (.str k u) (hashStr w k)) Q E s := by
  obtain ⟨D, ho, F, nd, r, d⟩ := R
  refine add_x ho F hk hb (hQ _ (Heap.SameBut.update ..) ⟨_, get_upd _ ho rfl, add_ok u F, List.nodup_cons.mpr ⟨hk, nd⟩, add_ris r, ?_⟩)
  rw [add_led]; exact d
theorem txR_old {k : Str} {u : Tok} {Q : Bool → Shared → Prop} (R : TxR P w s.heap a l) (hk : k ∈ l) (hb : l.length < scanBound)
    (hQ : Q false s) : wpAny (model P w) A (setAddHashed a (.str k u) (hashStr w k)) Q E s := by
  obtain ⟨⟨es, ep, t⟩, ho, F, nd, r, d⟩ := R
  have hd : (sObj "set" (es, ep, t)).data = .set es ep t := rfl
  have hf : t.fits es.size = true := F.fit
  have hel : ElemsOf (strKind P w) es.toList := F.el
  have hsz : es.size = l.length := F.sz
  have hkey : (strKind P w).is k (.str k u) = true := is_str k u
  unfold setAddHashed setAddHashedIn
  refine wpAny_holding (wpAny_bind (wpAny_setState_of ho hd hf ?_))
  dsimp only
  rw [byScan_of rfl (by omega) hel]
  simp only [↓reduceIte]
  unfold setAddByScan
  refine wpAny_bind ?_
  refine wpAny_bind (wpAny_rule ?_)
  refine wpAny_bind (wpAny_setScan_of (knd := strKind P w) (k := k) hkey ho hd hf hel ?_)
  cases hfi : List.findIdx? (fun e => (strKind P w).is k e.2) es.toList with
  | some j =>
    dsimp only
    exact wpAny_pure (wpAny_pure hQ)
  | none =>
    obtain ⟨e, he, q⟩ := (F.mem k).mp hk
    have c := List.findIdx?_eq_none_iff.mp hfi e he
    rw [q] at c
    cases c
theorem txR_zero {h : Heap} (ho : h.get? a = some { cls := .type "set", dict := none, data := .set #[] 0 (.fresh 0 0 (!w.params.followText "set-order")) }) : TxR P w h a [] :=
  ⟨(#[], 0, .fresh 0 0 (!w.params.followText "set-order")), ho, TxOk.nil (by rfl), List.nodup_nil, List.Pairwise.nil, by
    show _ ∨ (!w.params.followText "set-order") = true
    cases w.params.followText "set-order"
    · exact .inr rfl
    · exact .inl rfl⟩
/-- the set holds what the first i of xs hold -/
def Txs (P : Program) (w : World) (h : Heap) (a : Addr) (xs : List Str) : Prop := ∃ l, TxR P w h a l ∧ (∀ k, k ∈ l ↔ k ∈ xs) ∧ l.length ≤ xs.length
theorem Txs.at {xs : List Str} (R : Txs P w h a xs) (k : ∀ o, h.get? a = some o → h'.get? a = some o) : Txs P w h' a xs := by
  obtain ⟨l, R, r⟩ := R
  exact ⟨l, R.at k, r⟩
theorem upd_txt {I : Addr} {fp wr : List Addr} {G : Array GenState → Array GenState → Prop} {n : Nat} {Pv : Nat → Value → Prop} {St : Nat → Shared → Prop} {R : Result → Shared → Prop}
    (W : WalksS P w A.in1 I fp wr G n Pv St) (S : Addr) (hSf : S ∉ fp) (xs : List Str) (hn : n = xs.length) (hb : xs.length + 1 < scanBound) (hval : ∀ i v, Pv i v → ∃ k t, xs[i]? = some k ∧ v = .str k t) :
    ∀ (k i : Nat) (s : Shared), n - i = k → i ≤ n → St i s → Txs P w s.heap S (xs.take i) →
      (∀ s', Moved (S :: wr) G s s' → Txs P w s'.heap S xs → R (.ok (.ret .none)) s') →
      codeAny (model P w) A (.builtin "set.update.loop" ⟨[.ref S, .ref I], []⟩) R s := by
  have hSw : S ∉ wr := fun h => hSf (W.sub _ h)
  have hsub : ∀ b ∈ wr, b ∈ S :: wr := fun b hb => List.mem_cons_of_mem _ hb
  intro k
  induction k with
  | zero =>
    intro i s hk' hi hst hS hR
    have hin : i = n := by omega
    subst hin
    refine codeAny_builtin F.entry_set_update_loop ?_
    rw [Around.under_plainId F.plain_set_update_loop _]
    show wpAny _ A.in1 (pyNext (.ref I) >>= _) _ _ s
    refine wpAny_bind (W.done s _ _ hst fun s' hm => ?_)
    show wpAny _ A.in1 (ret Value.none) _ _ s'
    rw [List.take_of_length_le (by omega)] at hS
    exact wpAny_pure (hR s' (hm.mono hsub) (hS.at fun o e => hm.heap S o hSw e))
  | succ k ih =>
    intro i s hk' hi hst hS hR
    have hlt : i < n := by omega
    refine codeAny_builtin F.entry_set_update_loop ?_
    rw [Around.under_plainId F.plain_set_update_loop _]
    show wpAny _ A.in1 (pyNext (.ref I) >>= _) _ _ s
    refine wpAny_bind (W.item i s _ _ hlt hst fun v s' hP hst' hm => ?_)
    obtain ⟨z, t, hz, rfl⟩ := hval i v hP
    obtain ⟨l, hl, hm2, hl2⟩ : Txs P w s'.heap S (xs.take i) := hS.at fun o e => hm.heap S o hSw e
    rw [List.length_take] at hl2
    show wpAny _ A.in1 (holding [Value.str z t] (setAdd S (.str z t)) >>= _) _ _ s'
    refine wpAny_bind (wpAny_holding ?_)
    unfold setAdd
    refine wpAny_holding ?_
    refine wpAny_bind ((PySem.strKind P w).pyHash (k := z) (is_str z t) ?_)
    have et : xs.take (i + 1) = xs.take i ++ [z] := by rw [List.take_add_one, hz] <;> rfl
    have elen : (xs.take (i + 1)).length = i + 1 := by rw [List.length_take]; omega
    by_cases hk : z ∈ l
    · refine txR_old (s := { s' with toks := s'.toks + 1 }) hl hk (by omega) ?_
      have hT : Txs P w s'.heap S (xs.take (i + 1)) := ⟨l, hl, fun j => by
        rw [et, List.mem_append, List.mem_singleton, hm2 j]
        exact ⟨.inl, fun q => q.elim id fun e => by rw [e]; exact (hm2 z).mp hk⟩, by omega⟩
      refine wpAny_pure ⟨plainId_quiet F.plain_set_update_loop _, ih (i + 1) _ (by omega) hlt (W.frame _ s' _ _ hst' (Nat.le_succ _) fun b hb o e => e) hT fun s'' hm'' hS'' => ?_⟩
      exact hR s'' (Moved.trans W.gtrans ((hm.mono hsub).then_heap (Nat.le_succ _) fun b o hb e => e) hm'') hS''
    · refine txR_new (s := { s' with toks := s'.toks + 1 }) hl hk (by omega) fun h' hsb hS2 => ?_
      have hT : Txs P w h' S (xs.take (i + 1)) := ⟨z :: l, hS2, fun j => by
        rw [et, List.mem_append, List.mem_singleton, List.mem_cons, hm2 j]
        exact Or.comm, by rw [List.length_cons]; omega⟩
      refine wpAny_pure ⟨plainId_quiet F.plain_set_update_loop _, ih (i + 1) _ (by omega) hlt (W.frame _ s' _ _ hst' (Nat.le_succ _) fun b hb o e => ?_) hT fun s'' hm'' hS'' => ?_⟩
      · rw [hsb.2 b (fun h : b = S => hSf (by rw [← h]; exact hb))]; exact e
      · refine hR s'' (Moved.trans W.gtrans ((hm.mono hsub).then_heap (Nat.le_succ _) fun b o hb e => ?_) hm'') hS''
        rw [hsb.2 b (fun h : b = S => hb (by rw [h]; exact List.mem_cons_self))]; exact e
end
/-! ### texts in order -/
def ltSv (v u : Value) : Bool := decide ((strOf v).cps.toList < (strOf u).cps.toList)
theorem swo_str : SrtO.Swo ltSv := by
  refine ⟨fun x y h => ?_, fun x y z h1 h2 => ?_⟩
  · have a := of_decide_eq_true (p := (strOf x).cps.toList < (strOf y).cps.toList) h
    exact decide_eq_false (p := (strOf y).cps.toList < (strOf x).cps.toList) (List.lt_asymm a)
  · have a := of_decide_eq_false (p := (strOf y).cps.toList < (strOf x).cps.toList) h1
    have b := of_decide_eq_false (p := (strOf z).cps.toList < (strOf y).cps.toList) h2
    exact decide_eq_false (p := (strOf z).cps.toList < (strOf x).cps.toList) (List.not_lt.mpr (List.le_trans (List.not_lt.mp a) (List.not_lt.mp b)))
section
variable {prog : Program} {w : World} {A : Around} {E : Value → Shared → Prop} {s : Shared}
theorem str_cmp {vs : List Value} {ss : List Str} (hI : StrsAre vs ss) : SrtO.Cmp prog w A s oneType' (fun p => p.1 ∈ vs) (SrtO.lt2 ltSv) := by
  intro p q hm hm'
  obtain ⟨a, t, e⟩ := hI.all _ hm
  obtain ⟨b, u, e'⟩ := hI.all _ hm'
  show wpAny (model prog w) A (keyLt' oneType' p.1 q.1) (fun r s' => s' = s ∧ r = ltSv p.1 q.1) (fun _ _ => False) s
  rw [e, e', keyLt'_oneType]
  exact oneLt_str ⟨rfl, rfl⟩
theorem strs_sortable {a : Addr} {vs : List Value} {ss : List Str} (hI : StrsAre vs ss) (h2 : 2 ≤ vs.length) : SrtO.SortableO prog w A s a vs ltSv := by
  intro h' _
  refine ⟨oneType', fun Q E hq => ?_, str_cmp hI⟩
  match vs, hI, h2 with
  | v1 :: v2 :: rest, hI, _ =>
    rw [keyKind_strs hI]
    exact wpAny_pure hq
  | [], _, h => exact absurd h (by decide)
  | [v], _, h => exact absurd h (by simp)
end
end Bs
/-! set(xs), xs a list or a tuple of texts -/
namespace Bs
open PySem PySem.Spec PyProof.Rows L2 PySem.Froz

section
variable {P : Program} {w : World} {A : Around} {E : Value → Shared → Prop} {s : Shared}
set_option maxHeartbeats 3200000 in
theorem mk_txL {l : Addr} {items : Array Value} (xs : List Str) {Q : Value → Shared → Prop} (hh : A.handled = none) (hl : s.heap.IsList l items) (hit : StrsAre items.toList xs) (hb : xs.length + 1 < scanBound)
    (h : ∀ (h' : Heap) (tk : Nat), Txs P w h' s.heap.objs.size xs → (∀ b o, s.heap.get? b = some o → h'.get? b = some o) → Q (.ref s.heap.objs.size) { s with heap := h', toks := tk }) :
    wpAny (model P w) A (call (.type "set") [.ref l]) Q E s := by
  have hisz : items.size = xs.length := by
    have q := StrsAre.len_eq hit
    rw [Array.length_toList] at q
    exact q
  obtain ⟨c, tl, hmro⟩ := F.called_set.mro
  have hmade := F.called_set.made
  have hsub := F.called_set.sub
  refine wpAny_call (codeAny_of_tree ?_)
  show wpAny _ _ (callAny (.type "set") _) _ _ _
  refine wpAny_pure ⟨Code.quiet_builtin _ (by decide +kernel), codeAny_builtin F.entry_type_call ?_⟩
  rw [Around.under_plain (weight_type_call_type "set" [.ref l] []) rfl]
  have h1 := F.called_set.notType
  have h2 := F.called_set.canCreate
  have hct := F.typeCall_set_1 (.ref l)
  repeat (any_goals (first | assumption | wp_step))

  refine codeAny_mono (code_set_led1 (.ref l) (E := E) (Q₁ := fun obj s₁ => obj = .ref s.heap.objs.size ∧ s₁ = { s with heap := s.heap.push { cls := .type "set", dict := none, data := .set #[] 0 (.fresh 0 0 (!w.params.followText "set-order")) } }) ⟨rfl, rfl⟩) fun r s₁ hr => ?_
  cases r with
  | error e => exact hr
  | ok fl =>
    cases fl with
    | ret obj =>
      obtain ⟨rfl, rfl⟩ := hr
      have hS : (s.heap.push { cls := .type "set", dict := none, data := .set #[] 0 (.fresh 0 0 (!w.params.followText "set-order")) }).get? s.heap.objs.size = some { cls := .type "set", dict := none, data := .set #[] 0 (.fresh 0 0 (!w.params.followText "set-order")) } := Heap.get?_push_size _ rfl
      have hT : Shared.TypeIs { s with heap := s.heap.push { cls := .type "set", dict := none, data := .set #[] 0 (.fresh 0 0 (!w.params.followText "set-order")) } } (.ref s.heap.objs.size) "set" := ⟨_, hS, rfl⟩
      have hli := F.called_set.init.lookup
      have hbi := F.called_set.init.bind (.ref s.heap.objs.size)
      repeat (any_goals (first | assumption | wp_step))

      refine codeAny_mono (codeAny_call_builtin (R := wants (fun r s₂ => r = .none ∧ ∃ h' tk, s₂ = { s with heap := h', toks := tk } ∧ Txs P w h' s.heap.objs.size xs ∧
          (∀ b o, s.heap.get? b = some o → h'.get? b = some o)) E) F.called_set.init.plain F.entry_set_init (check_set_init_1 hT ?_)) fun r₂ s₂ hr₂ => ?_
      · obtain ⟨ol, hol, hcl, nl, hdl⟩ := hl
        obtain ⟨ocls, odict, odata, oslots⟩ := ol
        simp only at hcl hdl
        subst hcl; subst hdl
        have hol' : (s.heap.push { cls := .type "set", dict := none, data := .set #[] 0 (.fresh 0 0 (!w.params.followText "set-order")) }).get? l = some { cls := .type "list", dict := odict, data := .seq items nl, slots := oslots } := Heap.get?_push_of_some _ hol
        have hsls := F.sub_list_set
        have hslf := F.sub_list_frozenset
        have hne : (Value.type "list" == Value.type "dict") = false := by decide
        have hl1 : (s.heap.push { cls := .type "set", dict := none, data := .set #[] 0 (.fresh 0 0 (!w.params.followText "set-order")) }).IsList l items := ⟨_, hol', rfl, nl, rfl⟩
        unfold Builtin.«set.__init__» noKeywords Builtin.Frozenset.updateFrom
        generalize hPI : pyIter = PI
        wp_walk
        subst hPI

        refine wpAny_pyIter_list hl1 ?_
        refine wpAny_bind (wpAny_runValue ?_)
        have hlS : l < s.heap.objs.size := Heap.lt_size hol
        have hh3 : A.in1.in1.in1.handled = none := by simp [hh]
        have hneI : l ≠ (s.heap.push { cls := .type "set", dict := none, data := .set #[] 0 (.fresh 0 0 (!w.params.followText "set-order")) }).objs.size := by
          rw [Heap.size_push]; exact Nat.ne_of_lt (Nat.lt_succ_of_lt hlS)
        have hSf : s.heap.objs.size ∉ [(s.heap.push { cls := .type "set", dict := none, data := .set #[] 0 (.fresh 0 0 (!w.params.followText "set-order")) }).objs.size, l] := by
          rw [Heap.size_push]; simp only [List.mem_cons, List.mem_singleton, List.not_mem_nil, or_false, not_or]
          exact ⟨Nat.ne_of_lt (Nat.lt_succ_self _), Nat.ne_of_gt hlS⟩
        have hval : ∀ (i : Nat) (v : Value), items[i]? = some v → ∃ k t, xs[i]? = some k ∧ v = .str k t := fun i v hv => by
          have hi : i < xs.length := by rw [← hisz]; exact (Array.getElem?_eq_some_iff.mp hv).1
          obtain ⟨t, e⟩ := SS.strs_at hit i v (by rw [Array.getElem?_toList]; exact hv)
          refine ⟨xs[i], t, List.getElem?_eq_getElem hi, ?_⟩
          rw [e, List.getD_eq_getElem?_getD, List.getElem?_eq_getElem hi] <;> rfl
        refine upd_txt ((Walks.list hh3 _ l hneI items).toS) s.heap.objs.size
          hSf xs hisz hb hval (items.size - 0) 0 _ (by omega) (Nat.zero_le _)
          ⟨⟨_, Heap.get?_push_size _ rfl, rfl, rfl⟩, (hl1.push _)⟩ ?hS0 ?hR
        case hS0 =>
          exact ⟨[], txR_zero (Heap.get?_push_of_some _ hS), fun k => by simp, by simp⟩
        case hR =>
          intro s' hm hS'
          obtain ⟨h', g2, d', tk', os'⟩ := s'
          have eg : g2 = s.gens := hm.gens
          have ed : d' = s.drawn := hm.drawn
          have eo : os' = s.os := hm.os
          subst eg; subst ed; subst eo
          show wpAny _ _ _ _ _ _
          refine wpAny_pure ?_
          show wpAny _ _ (ret Value.none) _ _ _
          refine wpAny_pure ⟨rfl, h', tk', rfl, hS', fun b o e => ?_⟩
          have hb0 : b < s.heap.objs.size := Heap.lt_size e
          have hb1 : b ≠ s.heap.objs.size := Nat.ne_of_lt hb0
          have hb2 : b ≠ (s.heap.push { cls := .type "set", dict := none, data := .set #[] 0 (.fresh 0 0 (!w.params.followText "set-order")) }).objs.size := by
            rw [Heap.size_push]; exact Nat.ne_of_lt (Nat.lt_succ_of_lt hb0)
          exact hm.heap b o (by simp only [List.mem_cons, List.mem_singleton, List.not_mem_nil, or_false, not_or]; exact ⟨hb1, hb2⟩) (Heap.get?_push_of_some _ (Heap.get?_push_of_some _ e))

      · cases r₂ with
        | error e => exact hr₂
        | ok fl₂ =>
          cases fl₂ with
          | ret r =>
            obtain ⟨rfl, h', tk, rfl, hS', hk'⟩ := hr₂
            repeat (any_goals (first | assumption | wp_step))
            exact h _ _ hS' hk'
          | _ => exact hr₂.elim
    | _ => exact hr.elim
end

section
variable {P : Program} {w : World} {A : Around} {E : Value → Shared → Prop} {s : Shared}
set_option maxHeartbeats 3200000 in
theorem mk_txT {l : Addr} {items : Array Value} (xs : List Str) {Q : Value → Shared → Prop} (hh : A.handled = none) (hl : s.heap.IsTuple l items) (hit : StrsAre items.toList xs) (hb : xs.length + 1 < scanBound)
    (h : ∀ (h' : Heap) (tk : Nat), Txs P w h' s.heap.objs.size xs → (∀ b o, s.heap.get? b = some o → h'.get? b = some o) → Q (.ref s.heap.objs.size) { s with heap := h', toks := tk }) :
    wpAny (model P w) A (call (.type "set") [.ref l]) Q E s := by
  have hisz : items.size = xs.length := by
    have q := StrsAre.len_eq hit
    rw [Array.length_toList] at q
    exact q
  obtain ⟨c, tl, hmro⟩ := F.called_set.mro
  have hmade := F.called_set.made
  have hsub := F.called_set.sub
  refine wpAny_call (codeAny_of_tree ?_)
  show wpAny _ _ (callAny (.type "set") _) _ _ _
  refine wpAny_pure ⟨Code.quiet_builtin _ (by decide +kernel), codeAny_builtin F.entry_type_call ?_⟩
  rw [Around.under_plain (weight_type_call_type "set" [.ref l] []) rfl]
  have h1 := F.called_set.notType
  have h2 := F.called_set.canCreate
  have hct := F.typeCall_set_1 (.ref l)
  repeat (any_goals (first | assumption | wp_step))

  refine codeAny_mono (code_set_led1 (.ref l) (E := E) (Q₁ := fun obj s₁ => obj = .ref s.heap.objs.size ∧ s₁ = { s with heap := s.heap.push { cls := .type "set", dict := none, data := .set #[] 0 (.fresh 0 0 (!w.params.followText "set-order")) } }) ⟨rfl, rfl⟩) fun r s₁ hr => ?_
  cases r with
  | error e => exact hr
  | ok fl =>
    cases fl with
    | ret obj =>
      obtain ⟨rfl, rfl⟩ := hr
      have hS : (s.heap.push { cls := .type "set", dict := none, data := .set #[] 0 (.fresh 0 0 (!w.params.followText "set-order")) }).get? s.heap.objs.size = some { cls := .type "set", dict := none, data := .set #[] 0 (.fresh 0 0 (!w.params.followText "set-order")) } := Heap.get?_push_size _ rfl
      have hT : Shared.TypeIs { s with heap := s.heap.push { cls := .type "set", dict := none, data := .set #[] 0 (.fresh 0 0 (!w.params.followText "set-order")) } } (.ref s.heap.objs.size) "set" := ⟨_, hS, rfl⟩
      have hli := F.called_set.init.lookup
      have hbi := F.called_set.init.bind (.ref s.heap.objs.size)
      repeat (any_goals (first | assumption | wp_step))

      refine codeAny_mono (codeAny_call_builtin (R := wants (fun r s₂ => r = .none ∧ ∃ h' tk, s₂ = { s with heap := h', toks := tk } ∧ Txs P w h' s.heap.objs.size xs ∧
          (∀ b o, s.heap.get? b = some o → h'.get? b = some o)) E) F.called_set.init.plain F.entry_set_init (check_set_init_1 hT ?_)) fun r₂ s₂ hr₂ => ?_
      · obtain ⟨ol, hol, hcl, nl, hdl⟩ := hl
        obtain ⟨ocls, odict, odata, oslots⟩ := ol
        simp only at hcl hdl
        subst hcl; subst hdl
        have hol' : (s.heap.push { cls := .type "set", dict := none, data := .set #[] 0 (.fresh 0 0 (!w.params.followText "set-order")) }).get? l = some { cls := .type "tuple", dict := odict, data := .seq items nl, slots := oslots } := Heap.get?_push_of_some _ hol
        have hsls := F.sub_tuple_set
        have hslf := F.sub_tuple_frozenset
        have hne : (Value.type "tuple" == Value.type "dict") = false := by decide
        have hl1 : (s.heap.push { cls := .type "set", dict := none, data := .set #[] 0 (.fresh 0 0 (!w.params.followText "set-order")) }).IsTuple l items := ⟨_, hol', rfl, nl, rfl⟩
        unfold Builtin.«set.__init__» noKeywords Builtin.Frozenset.updateFrom
        generalize hPI : pyIter = PI
        wp_walk
        subst hPI

        refine wpAny_pyIter_tuple hl1 ?_
        refine wpAny_bind (wpAny_runValue ?_)
        have hlS : l < s.heap.objs.size := Heap.lt_size hol
        have hh3 : A.in1.in1.in1.handled = none := by simp [hh]
        have hneI : l ≠ (s.heap.push { cls := .type "set", dict := none, data := .set #[] 0 (.fresh 0 0 (!w.params.followText "set-order")) }).objs.size := by
          rw [Heap.size_push]; exact Nat.ne_of_lt (Nat.lt_succ_of_lt hlS)
        have hSf : s.heap.objs.size ∉ [(s.heap.push { cls := .type "set", dict := none, data := .set #[] 0 (.fresh 0 0 (!w.params.followText "set-order")) }).objs.size, l] := by
          rw [Heap.size_push]; simp only [List.mem_cons, List.mem_singleton, List.not_mem_nil, or_false, not_or]
          exact ⟨Nat.ne_of_lt (Nat.lt_succ_self _), Nat.ne_of_gt hlS⟩
        have hval : ∀ (i : Nat) (v : Value), items[i]? = some v → ∃ k t, xs[i]? = some k ∧ v = .str k t := fun i v hv => by
          have hi : i < xs.length := by rw [← hisz]; exact (Array.getElem?_eq_some_iff.mp hv).1
          obtain ⟨t, e⟩ := SS.strs_at hit i v (by rw [Array.getElem?_toList]; exact hv)
          refine ⟨xs[i], t, List.getElem?_eq_getElem hi, ?_⟩
          rw [e, List.getD_eq_getElem?_getD, List.getElem?_eq_getElem hi] <;> rfl
        refine upd_txt ((Walks.tuple hh3 _ l hneI items).toS) s.heap.objs.size
          hSf xs hisz hb hval (items.size - 0) 0 _ (by omega) (Nat.zero_le _)
          ⟨⟨_, Heap.get?_push_size _ rfl, rfl, rfl⟩, (hl1.push _)⟩ ?hS0 ?hR
        case hS0 =>
          exact ⟨[], txR_zero (Heap.get?_push_of_some _ hS), fun k => by simp, by simp⟩
        case hR =>
          intro s' hm hS'
          obtain ⟨h', g2, d', tk', os'⟩ := s'
          have eg : g2 = s.gens := hm.gens
          have ed : d' = s.drawn := hm.drawn
          have eo : os' = s.os := hm.os
          subst eg; subst ed; subst eo
          show wpAny _ _ _ _ _ _
          refine wpAny_pure ?_
          show wpAny _ _ (ret Value.none) _ _ _
          refine wpAny_pure ⟨rfl, h', tk', rfl, hS', fun b o e => ?_⟩
          have hb0 : b < s.heap.objs.size := Heap.lt_size e
          have hb1 : b ≠ s.heap.objs.size := Nat.ne_of_lt hb0
          have hb2 : b ≠ (s.heap.push { cls := .type "set", dict := none, data := .set #[] 0 (.fresh 0 0 (!w.params.followText "set-order")) }).objs.size := by
            rw [Heap.size_push]; exact Nat.ne_of_lt (Nat.lt_succ_of_lt hb0)
          exact hm.heap b o (by simp only [List.mem_cons, List.mem_singleton, List.not_mem_nil, or_false, not_or]; exact ⟨hb1, hb2⟩) (Heap.get?_push_of_some _ (Heap.get?_push_of_some _ e))

      · cases r₂ with
        | error e => exact hr₂
        | ok fl₂ =>
          cases fl₂ with
          | ret r =>
            obtain ⟨rfl, h', tk, rfl, hS', hk'⟩ := hr₂
            repeat (any_goals (first | assumption | wp_step))
            exact h _ _ hS' hk'
          | _ => exact hr₂.elim
    | _ => exact hr.elim
end
end Bs
/-! sorted of a set of texts; sorted by len -/
namespace Bs
open PySem PySem.Spec PyProof.Rows L2 PySem.Froz
theorem perm_of_sub {α : Type} [DecidableEq α] : ∀ (l m : List α), l.Nodup → (∀ x ∈ l, x ∈ m) → m.length ≤ l.length → m.Perm l
  | [], m, _, _, h => by rw [List.eq_nil_of_length_eq_zero (Nat.le_zero.mp h)]
  | x :: l, m, nd, sub, h => by
    obtain ⟨hx, nd⟩ := List.nodup_cons.mp nd
    have hm := sub x List.mem_cons_self
    have he : (m.erase x).length = m.length - 1 := List.length_erase_of_mem hm
    have ih := perm_of_sub l (m.erase x) nd (fun y hy => (List.mem_erase_of_ne (fun e : y = x => hx (e ▸ hy))).2 (sub y (List.mem_cons_of_mem _ hy))) (by rw [he]; rw [List.length_cons] at h; omega)
    exact (List.perm_cons_erase hm).trans (ih.cons x)
section
variable {P : Program} {w : World} {A : Around} {E : Value → Shared → Prop} {s : Shared} {a : Addr} {l : List Str}
theorem tx_keys {D : SD} (F : TxOk P w D l) (nd : l.Nodup) : (∀ e ∈ D.1.toList, ∃ k t, e.2 = Value.str k t) ∧ (D.1.toList.map fun e => strOf e.2).Perm l := by
  have h1 : ∀ e ∈ D.1.toList, ∃ k t, e.2 = Value.str k t := fun e he => by
    obtain ⟨⟨k, hk, _⟩, _⟩ := F.el e he
    obtain ⟨t, ht⟩ := Value.isStrOf_shape (x := k) hk
    exact ⟨k, t, ht⟩
  refine ⟨h1, ?_⟩
  refine perm_of_sub l _ nd (fun k hk => ?_) ?_
  · obtain ⟨e, he, q⟩ := (F.mem k).mp hk
    obtain ⟨t, ht⟩ := Value.isStrOf_shape (x := k) q
    exact List.mem_map.mpr ⟨e, he, by rw [ht] <;> rfl⟩
  · rw [List.length_map, Array.length_toList, F.sz]
    exact Nat.le_refl _
theorem sorted_tx {Q : Value → Shared → Prop} (R : TxR P w s.heap a l) (hh : A.handled = none) (hb : l.length < scanBound)
    (hQ : ∀ s' p (out : Array Value) (c : Nat) (ss : List Str), (∀ b o, s.heap.get? b = some o → s'.heap.get? b = some o) → s'.gens = s.gens → s'.os = s.os → s.heap.objs.size ≤ p →
      s'.heap.get? p = some (seqObj "list" out c) → StrsAre out.toList ss → ss.Perm l → ss.Pairwise (fun x y => ¬ y.cps.toList < x.cps.toList) → Q (.ref p) s') :
    wpAny (model P w) A (call (.builtin "sorted") [.ref a]) Q E s := by
  obtain ⟨⟨es, ep, t⟩, ho, F, nd, hr, hl⟩ := R
  obtain ⟨hk, hp⟩ := tx_keys F nd
  have hsz : es.size = l.length := F.sz
  refine Calls.call_function_entry kind_sorted plain_sorted entry_sorted (args_sorted1 _) ?_
  unfold Builtin.«sorted»
  refine wpAny_bind (m := checkCount "sorted" 1 1 _) (wpAny_pure ?_)
  refine wpAny_bind (collect_set (A := A.in1) hh ⟨_, ho, rfl, rfl⟩ F.fit (by rw [hsz]; exact hb) hr hl fun s1 vs k1 hz g1 o1 pm => ?_)
  have hvl : vs.length = l.length := by
    have q := pm.length_eq
    rw [List.length_map, Array.length_toList] at q
    exact q.trans hsz
  have hI : StrsAre vs (vs.map strOf) := strsAre_map vs fun v hv => by
    obtain ⟨e, he, q⟩ := List.mem_map.mp (pm.mem_iff.mp hv)
    rw [← q]
    exact hk e he
  have hle : vs.length ≤ sizeLine := by rw [hvl, sizeLine_eq]; unfold scanBound at hb; omega
  refine wpAny_bind (wpAny_newList ?_ hle)
  have hoL : (s1.heap.push (seqObj "list" vs.toArray 0)).get? s1.heap.objs.size = some (seqObj "list" vs.toArray 0) := Heap.get?_push_size _ rfl
  refine wpAny_bind (wpAny_holding (wpAny_call_entry slot_list_sort ⟨_, hoL, rfl⟩ entry_list_sort (SrtO.list_sort_ord swo_str hoL hle (fun h2 => strs_sortable hI h2) fun out b1 b2 => ⟨_, rfl, ?_⟩) (args_list_sort _)))
  obtain ⟨c, hc⟩ := sortedHeap_at (vs := vs) (out := out.toArray) hoL
  refine wpAny_pure ⟨_, rfl, hQ _ s1.heap.objs.size out.toArray c (out.map strOf) (fun b u e => ?_) g1 o1 hz hc ?_ ?_ ?_⟩
  · have q := k1 b u e
    have hlt := Heap.lt_size q
    show (sortedHeap (s1.heap.push (seqObj "list" vs.toArray 0)) s1.heap.objs.size vs out.toArray).get? b = some u
    rw [sortedHeap_old (Nat.ne_of_lt hlt) (by rw [size_push']; exact Nat.lt_succ_of_lt hlt)]
    exact Heap.get?_push_of_some _ q
  · exact strsAre_map out fun v hv => hI.all v (b2.perm.mem_iff.mp hv)
  · have q := (b2.perm.trans pm).map strOf
    rw [List.map_map] at q
    exact q.trans hp
  · exact List.pairwise_map.mpr (b1.imp fun {x y} h => of_decide_eq_false (p := (strOf y).cps.toList < (strOf x).cps.toList) h)
end
/-! ### sorted(xs, key=len) -/
def ltLen (v u : Value) : Bool := decide ((strOf v).length < (strOf u).length)
def keyL (v : Value) : Int := (strOf v).length
section
variable {P : Program} {w : World} {A : Around} {E : Value → Shared → Prop} {s : Shared} {a : Addr}
theorem swo_len : SrtO.Swo ltLen := by
  refine ⟨fun x y h => ?_, fun x y z h1 h2 => ?_⟩
  · have a := of_decide_eq_true (p := (strOf x).length < (strOf y).length) h
    exact decide_eq_false (p := (strOf y).length < (strOf x).length) (by omega)
  · have a := of_decide_eq_false (p := (strOf y).length < (strOf x).length) h1
    have b := of_decide_eq_false (p := (strOf z).length < (strOf y).length) h2
    exact decide_eq_false (p := (strOf z).length < (strOf x).length) (by omega)
theorem zip_key0 : ∀ (ks vs : List Value), IntsAre ks (vs.map keyL) → ∀ p ∈ ks.zip vs, SrtO.iv p.1 = keyL p.2
  | ks, [], _, p, h => by simp at h
  | [], v :: vs, _, p, h => by simp at h
  | k :: ks, v :: vs, r, p, h => by
    rw [List.map_cons] at r
    generalize hm : keyL v = m at r
    cases r with
    | cons n t r =>
      rw [List.zip_cons_cons] at h
      rcases List.mem_cons.mp h with e | h
      · rw [e, hm] <;> rfl
      · exact zip_key0 ks vs r p h
theorem zip_key {ks vs : List Value} (h : IntsAre ks (vs.map keyL)) : ∀ p ∈ ks.zip vs, SrtO.iv p.1 = keyL p.2 := zip_key0 ks vs h
theorem zip_snd {ks vs : List Value} (h : IntsAre ks (vs.map keyL)) : (ks.zip vs).map (·.2) = vs := by
  have q := h.length
  rw [List.length_map] at q
  exact List.map_snd_zip (by omega)
/-- the items behind a sort of keyed items -/
theorem out_len {vs : List Value} {ks : List Value} {xs : Array Keyed} (hk : IntsAre ks (vs.map keyL)) (hs : SrtO.Srtd (SrtO.lt2 SrtO.ltIv) xs.toList) (hb : SrtO.Stb (SrtO.lt2 SrtO.ltIv) xs.toList (ks.zip vs)) :
    SrtO.Srtd ltLen (xs.map (·.2)).toList ∧ SrtO.Stb ltLen (xs.map (·.2)).toList vs := by
  have kx : ∀ p ∈ xs.toList, SrtO.iv p.1 = keyL p.2 := fun p hp => zip_key hk p (hb.perm.mem_iff.mp hp)
  have lt_eq : ∀ (p q : Keyed), SrtO.iv p.1 = keyL p.2 → SrtO.iv q.1 = keyL q.2 → SrtO.lt2 SrtO.ltIv p q = ltLen p.2 q.2 := fun p q e1 e2 => by
    show decide (SrtO.iv p.1 < SrtO.iv q.1) = decide _
    rw [e1, e2]
    unfold keyL
    exact decide_eq_decide.mpr (by omega)
  rw [Array.toList_map]
  refine ⟨?_, ?_, fun x => ?_⟩
  · refine List.pairwise_map.mpr (List.Pairwise.imp_of_mem ?_ hs)
    intro p q hp hq h
    rw [← lt_eq q p (kx q hq) (kx p hp)]
    exact h
  · have q := hb.perm.map (fun p : Keyed => p.2)
    rw [zip_snd hk] at q
    exact q
  · have f1 : ∀ l : List Keyed, (∀ p ∈ l, SrtO.iv p.1 = keyL p.2) → (l.map (fun p : Keyed => p.2)).filter (SrtO.eqv ltLen x) = (l.filter (SrtO.eqv (SrtO.lt2 SrtO.ltIv) (Value.int (keyL x) 0, x))).map (fun p : Keyed => p.2) := fun l hl => by
      rw [List.filter_map]
      refine congrArg (List.map _) (List.filter_congr fun p hp => ?_)
      show SrtO.eqv ltLen x p.2 = SrtO.eqv (SrtO.lt2 SrtO.ltIv) (Value.int (keyL x) 0, x) p
      unfold SrtO.eqv
      rw [lt_eq (Value.int (keyL x) 0, x) p rfl (hl p hp), lt_eq p (Value.int (keyL x) 0, x) (hl p hp) rfl]
    have f2 := f1 (ks.zip vs) (zip_key hk)
    rw [zip_snd hk] at f2
    have f3 := f1 xs.toList kx
    refine f3.trans ?_
    rw [hb.cls, f2]
theorem list_sort_len {n : Nat} {vs : List Value} {ss : List Str} {R : PySem.Fin → Shared → Prop} (hS : StrsAre vs ss) (ho : s.heap.get? a = some (seqObj "list" vs.toArray n)) (hz : vs.length < sizeLine) (hl : ∀ x ∈ ss, x.length ≤ sizeLine)
    (h : ∀ (out : List Value) h' tk c, SrtO.Srtd ltLen out → SrtO.Stb ltLen out vs → (∀ b o, b ≠ a → s.heap.get? b = some o → h'.get? b = some o) → h'.get? a = some (seqObj "list" out.toArray c) → R (.done (.ret .none)) { s with heap := h', toks := tk }) :
    wpAny (model P w) A (ksk_tree a (.builtin "len") false) R E s := by
  have ha : a < s.heap.objs.size := Heap.lt_size ho
  unfold ksk_tree
  refine wpAny_bind (listItems_at ho rfl ?_)
  refine wpAny_bind (listUpdate_at ho rfl ?_ (by rw [List.size_toArray]; omega) (Nat.zero_le _))
  have s1 := Heap.SameBut.update s.heap a (Obj.mapSeq fun _ => (#[] : Array Value))
  obtain ⟨e1, ho1⟩ : ∃ e1, (s.heap.update a (Obj.mapSeq fun _ => (#[] : Array Value))).get? a = some (seqObj "list" #[] e1) := ⟨_, get?_update_seq ho fun _ => #[]⟩
  generalize s.heap.update a (Obj.mapSeq fun _ => (#[] : Array Value)) = h1 at s1 ho1 ⊢
  refine wpAny_bind (seqEpoch_at ho1 rfl ?_)
  refine wpAny_bind (wpAny_newTuple ?_ (by show vs.length ≤ _; omega))
  refine wpAny_bind (wpAny_newList ?_ (Nat.zero_le _))
  refine wpAny_holding ?_
  have hkS : (((h1.push (seqObj "tuple" vs.toArray 0))).push (seqObj "list" #[] 0)).get? (h1.push (seqObj "tuple" vs.toArray 0)).objs.size = some (seqObj "list" #[] 0) := Heap.get?_push_size _ rfl
  have keep : ∀ b o, b ≠ a → s.heap.get? b = some o → b ≠ (h1.push (seqObj "tuple" vs.toArray 0)).objs.size ∧ (((h1.push (seqObj "tuple" vs.toArray 0))).push (seqObj "list" #[] 0)).get? b = some o := fun b o hb e => by
    have q : h1.get? b = some o := (s1.2 b hb).trans e
    have q2 := Heap.get?_push_of_some (seqObj "tuple" vs.toArray 0) q
    exact ⟨Nat.ne_of_lt (Heap.lt_size q2), Heap.get?_push_of_some _ q2⟩
  have hoa := Heap.get?_push_of_some (seqObj "list" #[] 0) (Heap.get?_push_of_some (seqObj "tuple" vs.toArray 0) ho1)
  have hka : (h1.push (seqObj "tuple" vs.toArray 0)).objs.size ≠ a := by
    exact Nat.ne_of_gt (Heap.lt_size (Heap.get?_push_of_some (seqObj "tuple" vs.toArray 0) ho1))
  show wpAny (model P w) A _ R E { s with heap := ((h1.push (seqObj "tuple" vs.toArray 0))).push (seqObj "list" #[] 0) }
  generalize (h1.push (seqObj "tuple" vs.toArray 0)).objs.size = kS at hkS keep hka ⊢
  generalize ((h1.push (seqObj "tuple" vs.toArray 0))).push (seqObj "list" #[] 0) = h2 at hkS keep hoa ⊢
  unfold ksk_rest
  refine wpAny_bind (wpAny_rule ?_)
  first
    | rw [List.forIn_toArray]
    | (rw [← Array.forIn_toList]; simp only [List.toList_toArray])
    | rw [← Array.forIn_toList]
  refine wpAny_bind (ksk_fold (fun i s' => ∃ h' tk kA e, s' = { s with heap := h', toks := tk } ∧ (∀ b o, b ≠ kS → h2.get? b = some o → h'.get? b = some o) ∧ h'.get? kS = some (seqObj "list" kA e) ∧ IntsAre kA.toList ((vs.take i).map keyL)) vs 0 { s with heap := h2 }
    ⟨h2, s.toks, #[], 0, rfl, fun _ _ _ e => e, hkS, by simpa using IntsAre.nil⟩ ?step ?done)
  case step =>
    rintro j x s' hx ⟨h', tk, kA, e, rfl, k1, k2, k3⟩
    simp only [Nat.zero_add] at k3 ⊢
    have hj : j < vs.length := (List.getElem?_eq_some_iff.mp hx).1
    obtain ⟨z, t, rfl⟩ := hS.all x (List.mem_of_getElem? hx)
    have hzl : z.length ≤ sizeLine := by
      refine hl z ?_
      rw [← hS.strs]
      exact List.mem_map.mpr ⟨_, List.mem_of_getElem? hx, rfl⟩
    have hkz : kA.size ≤ vs.length := by
      have q := k3.length
      rw [Array.length_toList, List.length_map, List.length_take] at q
      omega
    have h63 := line63
    refine wpAny_bind (wpAny_attempt (len_str (by omega) ?_))
    try dsimp only
    generalize hv : Value.int (z.length : Nat) _ = u
    have s2 := Heap.SameBut.update h' kS (Obj.mapSeq (·.push u))
    obtain ⟨c2, hc2⟩ : ∃ c2, (h'.update kS (Obj.mapSeq (·.push u))).get? kS = some (seqObj "list" (kA.push u) c2) := ⟨_, get?_update_seq k2 (·.push u)⟩
    refine wpAny_bind (listUpdate_at k2 rfl ?_ (by omega) (Nat.le_trans (Nat.le_of_eq (Array.size_push ..)) (by omega)))
    refine wpAny_pure ⟨rfl, _, _, kA.push u, c2, rfl, fun b o hb q => (s2.2 b hb).trans (k1 b o hb q), hc2, ?_⟩
    have ek : vs.take (j + 1) = vs.take j ++ [Value.str z t] := by rw [List.take_add_one, hx] <;> rfl
    have ea : (kA.push u).toList = kA.toList ++ [u] := by simp
    rw [ea, ek, List.map_append, ← hv]
    exact ksk_snoc k3
  case done =>
    rintro s' ⟨h', tk, kA, e, rfl, k1, k2, k3⟩
    have hk : IntsAre kA.toList (vs.map keyL) := by
      rw [List.take_of_length_le (by omega)] at k3
      exact k3
    have hsz : kA.size = vs.length := by
      have q := hk.length
      rw [Array.length_toList, List.length_map] at q
      exact q
    try dsimp only
    refine wpAny_bind (listItems_at k2 rfl ?_)
    have hoa' : h'.get? a = some (seqObj "list" #[] e1) := k1 a _ hka.symm hoa
    have fin : ∀ st : SortSt, SrtO.Srtd (SrtO.lt2 SrtO.ltIv) (arrOf st).toList → SrtO.Stb (SrtO.lt2 SrtO.ltIv) (arrOf st).toList (kA.toList.zip vs) → failedOf st = none →
        wpAny (model P w) A (ksk_tail a false e1 (.ref kS) st) R E { s with heap := h', toks := tk } := fun st b1 b2 b3 => by
      obtain ⟨q1, q2⟩ := out_len hk b1 b2
      have hsz2 : ((arrOf st).map (·.2)).size = vs.length := by
        rw [← Array.length_toList]
        exact q2.len
      have t1 := Heap.SameBut.update h' kS (Obj.mapSeq fun _ => (#[] : Array Value))
      have na1 : (h'.update kS (Obj.mapSeq fun _ => (#[] : Array Value))).get? a = some (seqObj "list" #[] e1) := (t1.2 a hka.symm).trans hoa'
      have t2 := Heap.SameBut.update (h'.update kS (Obj.mapSeq fun _ => (#[] : Array Value))) a (Obj.mapSeq fun _ => (arrOf st).map (·.2))
      obtain ⟨c2, hc2⟩ : ∃ c2, ((h'.update kS (Obj.mapSeq fun _ => (#[] : Array Value))).update a (Obj.mapSeq fun _ => (arrOf st).map (·.2))).get? a = some (seqObj "list" ((arrOf st).map (·.2)) c2) := ⟨_, get?_update_seq na1 fun _ => (arrOf st).map (·.2)⟩
      unfold ksk_tail
      try dsimp only
      refine wpAny_bind (listUpdate_at k2 rfl ?_ (by omega) (Nat.zero_le _))
      refine wpAny_bind (wpAny_letGo ?_)
      refine wpAny_bind (seqEpoch_at na1 rfl ?_)
      refine wpAny_bind (listUpdate_at na1 rfl ?_ (Nat.zero_le _) (Nat.le_trans (Nat.le_of_eq hsz2) (by omega)))
      rw [b3]
      simp only [bne_self_eq_false, Bool.false_eq_true, if_false]
      refine wpAny_pure (h _ _ _ c2 q1 q2 (fun b o hb e => ?_) (by rw [Array.toArray_toList]; exact hc2))
      obtain ⟨n1, n2⟩ := keep b o hb e
      exact (t2.2 b hb).trans ((t1.2 b n1).trans (k1 b o n1 n2))
    unfold ksk_end
    try dsimp only
    simp only [Bool.false_eq_true, if_false]
    have ez : (kA.zip vs.toArray).toList = kA.toList.zip vs := ksk_zip kA vs
    by_cases h2' : vs.toArray.size < 2
    · rw [if_pos h2', if_pos h2']
      refine wpAny_bind (wpAny_pure ?_)
      rw [StateT.run_pure]
      refine wpAny_bind (wpAny_pure ?_)
      try dsimp only
      refine fin (SortSt.mk' general' (kA.zip vs.toArray) #[] 7 none) ?_ (by
        show SrtO.Stb _ (kA.zip vs.toArray).toList _
        rw [ez]
        exact SrtO.Stb.refl _) rfl
      show SrtO.Srtd _ (kA.zip vs.toArray).toList
      have hl1 : (kA.zip vs.toArray).toList.length < 2 := by
        rw [ez, List.length_zip, Array.length_toList, hsz]
        rw [List.size_toArray] at h2'
        omega
      generalize (kA.zip vs.toArray).toList = L at hl1
      match L, hl1 with
      | [], _ => exact List.Pairwise.nil
      | [x], _ => exact List.pairwise_singleton _ _
      | x :: y :: r, h => exact absurd h (by simp)
    · rw [if_neg h2', if_neg h2']
      rw [List.size_toArray] at h2'
      rw [ksk_kind hk (by rw [hsz]; omega)]
      refine wpAny_bind (wpAny_pure ?_)
      have hcmp : SrtO.Cmp P w A { s with heap := h', toks := tk } oneType' (fun p : Keyed => p.1 ∈ kA.toList) (SrtO.lt2 SrtO.ltIv) := SrtO.int_cmp hk
      refine wpAny_bind (wpAny_mono (SrtO.wpS_sortO (st0 := SortSt.mk' oneType' (kA.zip vs.toArray) #[] 7 none)
        (Q := fun _ st' => SrtO.Srtd (SrtO.lt2 SrtO.ltIv) (arrOf st').toList ∧ SrtO.Stb (SrtO.lt2 SrtO.ltIv) (arrOf st').toList (kA.zip vs.toArray).toList ∧ failedOf st' = none) (SrtO.swo2 SrtO.swo_int) hcmp rfl (fun p hp => ?_) rfl rfl fun st' a1 a2 a3 => ⟨a1, a2, a3⟩) ?_ fun _ _ e => e)
      · have hp' : p ∈ (kA.zip vs.toArray).toList := hp
        rw [ez] at hp'
        obtain ⟨x, y⟩ := p
        exact (List.of_mem_zip hp').1
      rintro ⟨⟨⟩, st'⟩ s' ⟨rfl, b1, b2, b3⟩
      try dsimp only
      rw [ez] at b2
      exact fin st' b1 b2 b3
end
end Bs
/-! rules: set(xs), sorted(s), k in s, k not in s, sorted(xs, key=len) -/
namespace Bs
open PySem PySem.Spec PyProof.Rows L2 PySem.Froz
/-- the set of texts at a -/
def SetS (P : Program) (w : World) (a : Addr) (l : List Str) : HO := .ext fun h => TxR P w h a l
section
variable {P : Program} {w : World} {H : Hp} {h : Heap} {a : Addr} {l : List Str}
theorem setS_new (R : TxR P w h a l) : ObjOk P w H h a (SetS P w a l) := by
  have ⟨D, ho, _⟩ := R
  exact ⟨R, ⟨_, ho⟩, fun h1 h2 p k => TxR.at p k⟩
theorem TxR.setOf (R : TxR P w h a l) (hb : l.length < scanBound) : h.SetOf (strKind P w) a (fun k => decide (k ∈ l)) l.length := by
  obtain ⟨⟨es, ep, t⟩, ho, F, nd, _⟩ := R
  exact ⟨_, es, ep, t, ho, ⟨rfl, rfl, rfl⟩, rfl, F.el, fun k => by rw [decide_eq_true_eq]; exact F.mem k, by have := F.sz; dsimp only at this; omega, F.fit, F.sz⟩
end
section
variable {X : Cx}
theorem setS_get {pins : List (Addr × Obj)} {σ : L2.St} {H : Hp} {s : Shared} {a : Addr} {l : List Str} (I : Inv X pins σ H s) (ha : H a = some (SetS X.prog X.w a l)) : TxR X.prog X.w s.heap a l := (I.hok a _ ha).1
/-- set(xs) -/
def rSetOfS (K : PySem.W.Frag) (P : Program) (w : World) : List V → Hp → VK → Prop := fun vs H Q => ∃ (p : Addr) (xs : List Str), vs = [V.ref p] ∧ (SqL K H p (xs.map V.str) ∨ SqT K H p (xs.map V.str)) ∧ xs.length + 1 < scanBound ∧
  ∀ a l, H a = none → (∀ k, k ∈ l ↔ k ∈ xs) → l.Nodup → l.length ≤ xs.length → Q (.ref a) (upd H a (SetS P w a l))
theorem TxR.nd {P : Program} {w : World} {h : Heap} {a : Addr} {l : List Str} (R : TxR P w h a l) : l.Nodup := by
  obtain ⟨D, _, _, nd, _⟩ := R
  exact nd
theorem cr_setOfS (hc : X.calm = true) : CallR X (.type "set") (rSetOfS X.K X.prog X.w) := by
  intro pins s σ H vs us Q I r h
  obtain ⟨p, xs, rfl, hq, hb, q⟩ := h
  rw [Vals.ref1 r]
  have hn : H s.heap.objs.size = none := I.hok.fresh (Nat.le_refl _)
  have fin : ∀ (h' : Heap) (tk : Nat), Txs X.prog X.w h' s.heap.objs.size xs → (∀ b o, s.heap.get? b = some o → h'.get? b = some o) → EP X pins σ Q (.ref s.heap.objs.size) { s with heap := h', toks := tk } := fun h' tk ⟨l, R, hm, hl⟩ k =>
    ⟨.ref s.heap.objs.size, upd H s.heap.objs.size (SetS X.prog X.w s.heap.objs.size l), I.laid (t' := tk) k (Nat.le_refl _) (setS_new R), rfl, q _ l hn hm R.nd hl⟩
  rcases hq with hq | hq
  · obtain ⟨its, rv, pl, hz⟩ := I.list hq
    exact mk_txL xs (I.ok.hd hc) pl.isList (by simpa using strsAre_of rv) hb fin
  · obtain ⟨its, rv, pl, hz⟩ := I.tuple hq
    exact mk_txT xs (I.ok.hd hc) pl (by simpa using strsAre_of rv) hb fin
theorem vals_strs : ∀ {us : List Value} {ss : List Str}, StrsAre us ss → Vals (ss.map V.str) us
  | _, _, .nil => .nil
  | _, _, .cons x t r => .cons ⟨t, rfl⟩ (vals_strs r)
/-- in order of texts -/
def Ord (l : List Str) : Prop := l.Pairwise fun x y => ¬ y.cps.toList < x.cps.toList
/-- sorted(s) -/
def rSortedS (P : Program) (w : World) : List V → Hp → VK → Prop := fun vs H Q => ∃ (a : Addr) (l : List Str), vs = [V.ref a] ∧ H a = some (SetS P w a l) ∧ l.length < scanBound ∧
  ∀ (ss : List Str) (p : Addr), ss.Perm l → Ord ss → H p = none → Q (.ref p) (upd H p (.lst (ss.map V.str)))
theorem cr_sortedS (hc : X.calm = true) : CallR X (.builtin "sorted") (rSortedS X.prog X.w) := by
  intro pins s σ H vs us Q I r h
  obtain ⟨a, l, rfl, ha, hb, q⟩ := h
  have R := setS_get I ha
  rw [Vals.ref1 r]
  refine sorted_tx R (I.ok.hd hc) hb fun s' p out c ss k g o hp hg hi hs hm => ?_
  have hlen : (ss.map V.str).length ≤ sizeLine := by rw [List.length_map, hs.length_eq, sizeLine_eq]; unfold scanBound at hb; omega
  have hn : H p = none := I.hok.fresh hp
  have J : Inv X pins σ (upd H p (.lst (ss.map V.str))) { s with heap := s'.heap, gens := s'.gens, drawn := s'.drawn, toks := s'.toks } :=
    I.call (ch := []) (Un.laid k hp hn) (I.hok.laid k hp ⟨hlen, out.toList, c, vals_strs hi, hg⟩) (by rw [g]; exact I.bare) (fun _ z => nomatch z)
  have e : s' = { s with heap := s'.heap, gens := s'.gens, drawn := s'.drawn, toks := s'.toks } := by
    cases s'
    cases s
    cases o
    rfl
  rw [e]
  exact ⟨.ref p, _, J, rfl, q ss p hs hm hn⟩
def rInS (P : Program) (w : World) (neg : Bool) : V → V → Hp → VK → Prop := fun x y H Q => ∃ (k : Str) (a : Addr) (l : List Str), x = .str k ∧ y = V.ref a ∧ H a = some (SetS P w a l) ∧ l.length < scanBound ∧ Q (.bl (if neg then !decide (k ∈ l) else decide (k ∈ l))) H
theorem or_inS : OpR X (compareOp .In) (rInS X.prog X.w false) := by
  intro pins s σ H x y v u Q I rx ry h
  obtain ⟨k, a, l, rfl, rfl, ha, hb, q⟩ := h
  obtain ⟨t, rfl⟩ := rx
  cases ry
  exact wpAny_inSet_of (is_str k t) rfl ((setS_get I ha).setOf hb) ⟨.bl (decide (k ∈ l)), H, I.tok _, rfl, q⟩
theorem or_notinS : OpR X (compareOp .NotIn) (rInS X.prog X.w true) := by
  intro pins s σ H x y v u Q I rx ry h
  obtain ⟨k, a, l, rfl, rfl, ha, hb, q⟩ := h
  obtain ⟨t, rfl⟩ := rx
  cases ry
  exact wpAny_notInSet_of (is_str k t) rfl ((setS_get I ha).setOf hb) ⟨.bl (!decide (k ∈ l)), H, I.tok _, rfl, q⟩
/-! ### sorted(xs, key=len) -/
def ltL (x y : Str) : Bool := decide (x.length < y.length)
/-- by length; of one length as they stood -/
structure ByLen (zs ss : List Str) : Prop where
  ord : zs.Pairwise fun x y => x.length ≤ y.length
  perm : zs.Perm ss
  cls : ∀ n, zs.filter (fun x => x.length == n) = ss.filter (fun x => x.length == n)
theorem byLen_of {vs out : List Value} {ss : List Str} (hS : StrsAre vs ss) (h1 : SrtO.Srtd ltLen out) (h2 : SrtO.Stb ltLen out vs) : StrsAre out (out.map strOf) ∧ ByLen (out.map strOf) ss := by
  refine ⟨strsAre_map out fun v hv => hS.all v (h2.perm.mem_iff.mp hv), ?_, ?_, fun n => ?_⟩
  · exact List.pairwise_map.mpr (h1.imp fun {x y} h => Nat.not_lt.mp (of_decide_eq_false (p := (strOf y).length < (strOf x).length) h))
  · have q := h2.perm.map strOf
    rw [hS.strs] at q
    exact q
  · by_cases hx : ∃ v ∈ out, (strOf v).length = n
    · obtain ⟨v, _, rfl⟩ := hx
      have f1 : ∀ l : List Value, (l.map strOf).filter (fun x => x.length == (strOf v).length) = (l.filter (SrtO.eqv ltLen v)).map strOf := fun l => by
        rw [List.filter_map]
        refine congrArg (List.map _) (List.filter_congr fun p hp => ?_)
        show ((strOf p).length == (strOf v).length) = (!ltLen v p && !ltLen p v)
        unfold ltLen
        rw [Bool.eq_iff_iff]
        simp only [beq_iff_eq, Bool.and_eq_true, Bool.not_eq_true', decide_eq_false_iff_not]
        omega
      have f2 := f1 vs
      rw [hS.strs] at f2
      rw [f1 out, h2.cls, f2]
    · have e1 : ∀ l : List Str, (∀ x ∈ l, x ∈ out.map strOf) → l.filter (fun x => x.length == n) = [] := fun l hl => by
        rw [List.filter_eq_nil_iff]
        intro x hx1 hx2
        obtain ⟨v, hv, e⟩ := List.mem_map.mp (hl x hx1)
        exact hx ⟨v, hv, by rw [e]; exact beq_iff_eq.mp hx2⟩
      rw [e1 _ fun x h => h, e1 ss fun x h => by
        have q := h2.perm.map strOf
        rw [hS.strs] at q
        exact q.mem_iff.mpr h]
theorem call_sorted_len {P : Program} {w : World} {A : Around} {E : Value → Shared → Prop} {s : Shared} {l : Addr} {vs : List Value} {ss : List Str} {Q : Value → Shared → Prop} (hS : StrsAre vs ss) (hl : s.heap.IsList l vs.toArray) (hz : vs.length < sizeLine) (hs : ∀ x ∈ ss, x.length ≤ sizeLine)
    (h : ∀ (out : List Value) h' tk c p, ByLen (out.map strOf) ss → StrsAre out (out.map strOf) → (∀ b o, s.heap.get? b = some o → h'.get? b = some o) → s.heap.objs.size ≤ p → h'.get? p = some (seqObj "list" out.toArray c) → Q (.ref p) { s with heap := h', toks := tk }) :
    wpAny (model P w) A (call (.builtin "sorted") [.ref l] [(Str.ofString "key", .builtin "len")]) Q E s := by
  refine call_function_entry_kw kind_sorted plain_sorted entry_sorted (ksk_s1 _ _) ?_
  unfold Builtin.«sorted»
  refine wpAny_bind (m := checkCount "sorted" 1 1 _) (wpAny_pure ?_)
  refine wpAny_bind (collect_list hl ?_ (by omega))
  refine wpAny_bind (wpAny_newList ?_ (by omega))
  have hsz : ((s.heap.push (seqObj "list" #[] 0)).update s.heap.objs.size (Obj.mapSeq (· ++ vs.toArray))).objs.size = s.heap.objs.size + 1 := by
    rw [Heap.size_update, size_push']
  have hoL : (((s.heap.push (seqObj "list" #[] 0)).update s.heap.objs.size (Obj.mapSeq (· ++ vs.toArray))).push (seqObj "list" vs.toArray 0)).get? (s.heap.objs.size + 1) = some (seqObj "list" vs.toArray 0) := by
    rw [← hsz]; exact Heap.get?_push_size _ rfl
  have keep : ∀ b o, s.heap.get? b = some o → b ≠ s.heap.objs.size + 1 ∧ (((s.heap.push (seqObj "list" #[] 0)).update s.heap.objs.size (Obj.mapSeq (· ++ vs.toArray))).push (seqObj "list" vs.toArray 0)).get? b = some o := fun b o q => by
    have hlt : b < s.heap.objs.size := Heap.lt_size q
    refine ⟨Nat.ne_of_lt (Nat.lt_succ_of_lt hlt), Heap.get?_push_of_some _ ?_⟩
    rw [Heap.get?_update_ne _ _ _ _ (Nat.ne_of_lt hlt)]
    exact Heap.get?_push_of_some _ q
  show wpAny _ _ _ _ _ { s with heap := ((s.heap.push (seqObj "list" #[] 0)).update s.heap.objs.size (Obj.mapSeq (· ++ vs.toArray))).push (seqObj "list" vs.toArray 0) }
  rw [hsz]
  refine wpAny_bind (wpAny_holding (wpAny_call_entry_kw slot_list_sort ⟨_, hoL, rfl⟩ entry_list_sort ?body (ksk_l1 _ _)))
  case body =>
    have ht' := ksk_t4 "len" (s.heap.objs.size + 1)
    show wpAny (model P w) A.in1.in1 (Builtin.«list.sort» ⟨[.ref (s.heap.objs.size + 1)], [(Str.ofString "key", .builtin "len")]⟩) _ _ _
    rw [ht']
    refine list_sort_len (s := { s with heap := ((s.heap.push (seqObj "list" #[] 0)).update s.heap.objs.size (Obj.mapSeq (· ++ vs.toArray))).push (seqObj "list" vs.toArray 0) }) hS hoL hz hs fun out h' tk c b1 b2 k2 hc => ⟨_, rfl, ?_⟩
    obtain ⟨q1, q2⟩ := byLen_of hS b1 b2
    exact wpAny_pure ⟨_, rfl, h out h' tk c _ q2 q1 (fun b o e => by
      obtain ⟨n1, n2⟩ := keep b o e
      exact k2 b o n1 n2) (Nat.le_succ _) hc⟩
/-- sorted(e, key=len) -/
def tSortLen (K : PySem.W.Frag) (ta : TE) : TE := fun σ H Q => ta σ H fun x H1 => ∃ (a : Addr) (ss : List Str), x = .ref a ∧ SqL K H1 a (ss.map V.str) ∧ ss.length < sizeLine ∧ (∀ x ∈ ss, x.length ≤ sizeLine) ∧ ∀ zs p, ByLen zs ss → H1 p = none → Q (.ref p) (upd H1 p (.lst (zs.map V.str)))
theorem pe_sortLen {a : Expr} {ta : TE} {p p2 kp pos : Pos} (hg : Gl X "sorted") (hm : X.mg "sorted" = none) (hg2 : Gl X "len") (hm2 : X.mg "len" = none) (ha : PE X a ta)
    (he : backTo pos (starEach [a] X.env) = (false, eval a X.env) :: backTo pos (starEach [] X.env) := by rfl) (hpl : (backTo pos (starEach [a] X.env)).any (·.1) = false := by rfl) :
    PE X (.Call (.Name "sorted" p) [a] [⟨some "key", .Name "len" p2, kp⟩] pos) (tSortLen X.K ta) := by
  refine ⟨fun pins s σ H Q I h => ?_⟩
  refine wpAny_Call_Name_kw (ld_blt I hg hm (by decide +kernel : bootBuiltins "sorted" = some (.builtin "sorted")) ?_)
  refine callWith_kw ?_ he hpl (by rfl) (by rfl)
  have key : wpAny (model X.prog X.w) X.A (spliced (backTo pos (starEach [a] X.env))) (fun vs s₁ => wpAny (model X.prog X.w) X.A (evalAll [do let v ← eval (.Name "len" p2) X.env; standAt pos; pure v])
      (fun kvs s₂ => wpAny (model X.prog X.w) X.A (call (.builtin "sorted") vs ([Str.ofString "key"].zip kvs)) (EP X pins σ Q) X.xe s₂) X.xe s₁) X.xe s := by
    rw [he]
    refine Calls.spliced_cons (thn (ha.run pins s σ H _ I h) fun v s1 ⟨x, H1, I1, r1, q1⟩ => args_nil ?_)
    obtain ⟨b, ss, rfl, hq, hz, hs, q1⟩ := q1
    cases r1
    refine wpAny_evalAll_cons (wpAny_bind (ld_blt I1 hg2 hm2 boot_len (wpAny_bind (wpAny_standAt (wpAny_pure ?_)))))
    refine wpAny_evalAll_nil ?_
    obtain ⟨its, rv, pl, hz2⟩ := I1.list hq
    have hl2 := rv.length
    rw [List.length_map] at hl2
    refine call_sorted_len (strsAre_of rv) pl.isList (by omega) hs fun out h' tk c p q2 q3 k hp hc => ?_
    have hn : H1 p = none := I1.hok.fresh hp
    have hlen : ((out.map strOf).map V.str).length ≤ sizeLine := by rw [List.length_map, q2.perm.length_eq]; omega
    exact ⟨.ref p, upd H1 p (.lst ((out.map strOf).map V.str)), I1.laid (t' := tk) k hp ⟨hlen, out, c, vals_strs q3, hc⟩, rfl, q1 _ p q2 hn⟩
  exact key
end
end Bs
/-! Values as trees: what a value stands for while the heap is so; frames; readings over trees. -/
namespace Bs
open PySem PySem.Spec PyProof.Rows L2
inductive D where
  | non
  | bl (b : Bool)
  | int (i : Int)
  | str (z : Str)
  | ty (n : String)
  | lst (ds : List D)
  | tup (ds : List D)
  | dic (ks : List Key) (ds : List D)
  | dit (ks : List (List Key)) (ds : List D)
  | obj (c : Str) (ns : List Str) (ds : List D)
  | stx (l : List Str)
  deriving Inhabited
/-- where one stands: the written part, the program, the classes' addresses -/
structure Wd where
  K : PySem.W.Frag
  P : Program
  w : World
  cl : Str → Option Addr
def nt : HO → Prop
  | .tbl _ => False
  | _ => True
/-- what a frame may hold by itself and change -/
def dataO : HO → Bool
  | .lst _ => true
  | .dK _ => true
  | .dT _ => true
  | .ins _ _ _ => true
  | _ => false
mutual
/-- the value stands for the tree; S: places that it does not lean on -/
inductive Rep (W : Wd) (S : Addr → Prop) (H : Hp) : V → D → Prop
  | non : Rep W S H .non .non
  | bl {b : Bool} : Rep W S H (.bl b) (.bl b)
  | int {i : Int} : Rep W S H (.int i) (.int i)
  | str {z : Str} : Rep W S H (.str z) (.str z)
  | ty {n : String} : Rep W S H (.ty n) (.ty n)
  | ob {a : Addr} {o : HO} {d : D} : ¬ S a → H a = some o → RepO W S H o d → Rep W S H (.ref a) d
  | fz {a : Addr} {od : Obj} {kvs : List (Key × V)} {d : D} : ¬ S a → H a = some (.frz od (.dK kvs)) → RepO W S H (.dK kvs) d → Rep W S H (.ref a) d
  | sx {a : Addr} {l : List Str} : ¬ S a → H a = some (SetS W.P W.w a l) → Rep W S H (.ref a) (.stx l)
  | kt {a : Addr} {o : Obj} {its : Array Value} {n : Nat} {xs : List V} {ds : List D} : W.K.lookup a = some o → o.cls = .type "tuple" → o.data = .seq its n → its.size ≤ sizeLine → Vals xs its.toList → RepL W S H xs ds → Rep W S H (.ref a) (.tup ds)
inductive RepO (W : Wd) (S : Addr → Prop) (H : Hp) : HO → D → Prop
  | lst {xs : List V} {ds : List D} : RepL W S H xs ds → RepO W S H (.lst xs) (.lst ds)
  | tup {xs : List V} {ds : List D} : RepL W S H xs ds → RepO W S H (.tup xs) (.tup ds)
  | dic {kvs : List (Key × V)} {ds : List D} : RepL W S H (kvs.map (·.2)) ds → RepO W S H (.dK kvs) (.dic (kvs.map (·.1)) ds)
  | dit {kvs : List (List Key × V)} {ds : List D} : RepL W S H (kvs.map (·.2)) ds → RepO W S H (.dT kvs) (.dit (kvs.map (·.1)) ds)
  | obj {C dx : Addr} {c : Str} {fs : List (Str × V)} {ds : List D} : W.cl c = some C → RepL W S H (fs.map (·.2)) ds → RepO W S H (.ins C dx fs) (.obj c (fs.map (·.1)) ds)
inductive RepL (W : Wd) (S : Addr → Prop) (H : Hp) : List V → List D → Prop
  | nil : RepL W S H [] []
  | cons {v : V} {d : D} {vs : List V} {ds : List D} : Rep W S H v d → RepL W S H vs ds → RepL W S H (v :: vs) (d :: ds)
end
/-- an object without its lock -/
def core : HO → HO
  | .frz _ (.dK kvs) => .dK kvs
  | o => o
/-- what the one heap tells the other tells too, but for locks -/
def Mn (S : Addr → Prop) (H : Hp) (S' : Addr → Prop) (H' : Hp) : Prop := ∀ b o, ¬ S b → H b = some o → nt o → ¬ S' b ∧ ∃ o', H' b = some o' ∧ core o' = core o
def isDK : HO → Bool
  | .dK _ => true
  | _ => false
theorem core_dK {o : HO} {kvs : List (Key × V)} (h : core o = .dK kvs) : o = .dK kvs ∨ ∃ od, o = .frz od (.dK kvs) := by
  unfold core at h
  split at h
  · exact .inr ⟨_, by rw [h]⟩
  · exact .inl h
theorem core_of {o u : HO} (h : core o = u) (d : isDK u = false) : o = u := by
  unfold core at h
  split at h
  · subst h; cases d
  · exact h
theorem nt_core {o o' : HO} (h : core o' = core o) (n : nt o) : nt o' := by
  cases o' with
  | tbl ps =>
    have : core o = .tbl ps := h.symm
    have e := core_of this rfl
    subst e
    exact n
  | _ => trivial
theorem core_frz {od : Obj} {kvs : List (Key × V)} : core (.frz od (.dK kvs)) = .dK kvs := rfl
theorem core_id {o : HO} (h : ∀ od kvs, o ≠ .frz od (.dK kvs)) : core o = o := by
  unfold core
  split
  · exact absurd rfl (h _ _)
  · rfl
theorem Mn.trans {S S1 S2 : Addr → Prop} {H H1 H2 : Hp} (a : Mn S H S1 H1) (b : Mn S1 H1 S2 H2) : Mn S H S2 H2 := fun c o hs e n => by
  obtain ⟨h1, o1, e1, c1⟩ := a c o hs e n
  obtain ⟨h2, o2, e2, c2⟩ := b c o1 h1 e1 (nt_core c1 n)
  exact ⟨h2, o2, e2, c2.trans c1⟩
theorem Mn.refl {S : Addr → Prop} {H : Hp} : Mn S H S H := fun _ o hs e _ => ⟨hs, o, e, rfl⟩
section
variable {W : Wd} {S S' : Addr → Prop} {H H' : Hp}
theorem RepO.nt {o : HO} {d : D} (r : RepO W S H o d) : nt o := by cases r <;> trivial
mutual
theorem Rep.mono (m : Mn S H S' H') : ∀ {v : V} {d : D}, Rep W S H v d → Rep W S' H' v d
  | _, _, .non => .non
  | _, _, .bl => .bl
  | _, _, .int => .int
  | _, _, .str => .str
  | _, _, .ty => .ty
  | _, _, .ob (a := a) (o := o) hs h r => by
    have r' := RepO.mono m r
    obtain ⟨h1, o', h2, h3⟩ := m a o hs h r.nt
    cases r with
    | dic _ =>
      rcases core_dK (show core o' = .dK _ from h3) with e | ⟨od, e⟩
      · subst e; exact .ob h1 h2 r'
      · subst e; exact .fz h1 h2 r'
    | lst _ => rw [core_of (show core o' = .lst _ from h3) rfl] at h2; exact .ob h1 h2 r'
    | tup _ => rw [core_of (show core o' = .tup _ from h3) rfl] at h2; exact .ob h1 h2 r'
    | dit _ => rw [core_of (show core o' = .dT _ from h3) rfl] at h2; exact .ob h1 h2 r'
    | obj _ _ => rw [core_of (show core o' = .ins _ _ _ from h3) rfl] at h2; exact .ob h1 h2 r'
  | _, _, .fz (a := a) hs h r => by
    have r' := RepO.mono m r
    obtain ⟨h1, o', h2, h3⟩ := m a _ hs h trivial
    rcases core_dK (show core o' = .dK _ from h3) with e | ⟨od, e⟩
    · subst e; exact .ob h1 h2 r'
    · subst e; exact .fz h1 h2 r'
  | _, _, .sx (a := a) (l := l) hs h => by
    obtain ⟨h1, o', h2, h3⟩ := m a _ hs h trivial
    rw [core_of (show core o' = SetS W.P W.w a l from h3) rfl] at h2
    exact .sx h1 h2
  | _, _, .kt h1 h2 h3 h4 h5 r => .kt h1 h2 h3 h4 h5 (RepL.mono m r)
theorem RepO.mono (m : Mn S H S' H') : ∀ {o : HO} {d : D}, RepO W S H o d → RepO W S' H' o d
  | _, _, .lst r => .lst (RepL.mono m r)
  | _, _, .tup r => .tup (RepL.mono m r)
  | _, _, .dic r => .dic (RepL.mono m r)
  | _, _, .dit r => .dit (RepL.mono m r)
  | _, _, .obj c r => .obj c (RepL.mono m r)
theorem RepL.mono (m : Mn S H S' H') : ∀ {vs : List V} {ds : List D}, RepL W S H vs ds → RepL W S' H' vs ds
  | _, _, .nil => .nil
  | _, _, .cons r t => .cons (Rep.mono m r) (RepL.mono m t)
end
theorem RepL.length : ∀ {vs : List V} {ds : List D}, RepL W S H vs ds → vs.length = ds.length
  | _, _, .nil => rfl
  | _, _, .cons _ t => by rw [List.length_cons, List.length_cons, RepL.length t]
theorem RepL.app : ∀ {vs us : List V} {ds es : List D}, RepL W S H vs ds → RepL W S H us es → RepL W S H (vs ++ us) (ds ++ es)
  | _, _, _, _, .nil, h => h
  | _, _, _, _, .cons r t, h => .cons r (RepL.app t h)
theorem RepL.get : ∀ {vs : List V} {ds : List D} {i : Nat} {d : D}, RepL W S H vs ds → ds[i]? = some d → ∃ v, vs[i]? = some v ∧ Rep W S H v d
  | _, _, _, _, .nil, e => by simp at e
  | _, _, 0, _, .cons r _, e => by simp at e; subst e; exact ⟨_, rfl, r⟩
  | _, _, i + 1, _, .cons _ t, e => by
    obtain ⟨v, h1, h2⟩ := RepL.get (i := i) t (by simpa using e)
    exact ⟨v, by simpa using h1, h2⟩
theorem RepL.get' : ∀ {vs : List V} {ds : List D} {i : Nat} {v : V}, RepL W S H vs ds → vs[i]? = some v → ∃ d, ds[i]? = some d ∧ Rep W S H v d
  | _, _, _, _, .nil, e => by simp at e
  | _, _, 0, _, .cons r _, e => by simp at e; subst e; exact ⟨_, rfl, r⟩
  | _, _, i + 1, _, .cons _ t, e => by
    obtain ⟨v, h1, h2⟩ := RepL.get' (i := i) t (by simpa using e)
    exact ⟨v, by simpa using h1, h2⟩
theorem RepL.take : ∀ {vs : List V} {ds : List D} (n : Nat), RepL W S H vs ds → RepL W S H (vs.take n) (ds.take n)
  | _, _, 0, _ => .nil
  | _, _, _ + 1, .nil => .nil
  | _, _, n + 1, .cons r t => .cons r (RepL.take n t)
theorem RepL.drop : ∀ {vs : List V} {ds : List D} (n : Nat), RepL W S H vs ds → RepL W S H (vs.drop n) (ds.drop n)
  | _, _, 0, r => r
  | _, _, _ + 1, .nil => .nil
  | _, _, n + 1, .cons _ t => RepL.drop n t
theorem RepL.set : ∀ {vs : List V} {ds : List D} {v : V} {d : D} (i : Nat), RepL W S H vs ds → Rep W S H v d → RepL W S H (vs.set i v) (ds.set i d)
  | _, _, _, _, _, .nil, _ => .nil
  | _, _, _, _, 0, .cons _ t, r => .cons r t
  | _, _, _, _, i + 1, .cons q t, r => .cons q (RepL.set i t r)
theorem RepL.rev {vs : List V} {ds : List D} (h : RepL W S H vs ds) : RepL W S H vs.reverse ds.reverse := by
  induction ds generalizing vs with
  | nil => cases h; exact .nil
  | cons d ds ih =>
    cases h with
    | cons r t =>
      rw [List.reverse_cons, List.reverse_cons]
      exact (ih t).app (.cons r .nil)
end
/-! ### the frame of a walk -/
/-- the ground of a def: what stood at its entry, what it must not lean on, what may change by itself -/
structure Am where
  W : Wd
  S0 : Addr → Prop
  H0 : Hp
  z : Addr → Prop
  am : Hp → Prop
  zs : ∀ a, z a → S0 a
  zd : ∀ H a, am H → z a → ∃ o, H a = some o ∧ nt o
  al : ∀ H H' : Hp, am H → (∀ b o, H b = some o → (dataO o = false ∨ S0 b) → H' b = some o) → am H'
  k : HO → Prop
  kd : ∀ o, nt o → k o
  st : Option Addr
/-- a pure step: all stands, but what may change by itself -/
structure Fx (A : Am) (H H' : Hp) : Prop where
  ex : ∀ b o, H b = some o → ¬ A.z b → A.k o → H' b = some o
  am : A.am H'
/-- a slot of a frame, over trees: unknown; a tree; an object that this frame alone holds, by itself or as what was told; the place of draws -/
inductive Sl where
  | no
  | sh (d : D)
  | ow (d : D)
  | ot (d : D)
  | st
@[simp] def hasOwn : Sl → Bool
  | .ow _ => true
  | .ot _ => true
  | _ => false
/-- the object at q is the frame's alone -/
structure Own (A : Am) (S : Addr → Prop) (H : Hp) (q : Addr) (d : D) : Prop where
  s : S q
  n0 : ¬ A.S0 q
  h0 : ∀ u, A.H0 q = some u → A.k u → False
  ex : ∃ o, H q = some o ∧ RepO A.W S H o d ∧ dataO o = true
inductive SlR (A : Am) (S : Addr → Prop) (H : Hp) (q : Addr) : Option V → Sl → Prop
  | no {v : Option V} : SlR A S H q v .no
  | sh {v : V} {d : D} : Rep A.W S H v d → SlR A S H q (some v) (.sh d)
  | ow {d : D} : Own A S H q d → SlR A S H q (some (.ref q)) (.ow d)
  | ot {t : Addr} {d : D} : H t = some (.tup [.str "told", .ref q]) → ¬ S t → Own A S H q d → SlR A S H q (some (.ref t)) (.ot d)
  | st {a : Addr} : A.st = some a → SlR A S H q (some (.ref a)) .st
structure StR (A : Am) (S : Addr → Prop) (env : List Sl) (σ : L2.St) (H : Hp) : Prop where
  len : env.length = σ.length
  sl : ∃ q : Nat → Addr, (∀ (i : Nat) (e : Sl) (o : Option V), env[i]? = some e → σ[i]? = some o → SlR A S H (q i) o e) ∧
    ∀ (i j : Nat) (e e' : Sl), i ≠ j → env[i]? = some e → env[j]? = some e' → hasOwn e = true → hasOwn e' = true → q i ≠ q j
  s0 : ∀ a, A.S0 a → S a
  dom : ∀ a, S a → ∃ o, H a = some o ∧ nt o
  base : ∀ b o, A.H0 b = some o → ¬ A.z b → A.k o → H b = some o
  am : A.am H
section
variable {A : Am} {S : Addr → Prop} {H H' H2 : Hp} {env : List Sl} {σ : L2.St}
theorem Fx.refl (h : A.am H) : Fx A H H := ⟨fun _ _ e _ _ => e, h⟩
theorem Fx.trans (h : Fx A H H') (g : Fx A H' H2) : Fx A H H2 := ⟨fun b o e z n => g.ex b o (h.ex b o e z n) z n, g.am⟩
theorem Fx.mn (h : Fx A H H') (s0 : ∀ a, A.S0 a → S a) : Mn S H S H' := fun b o hs e n => ⟨hs, o, h.ex b o e (fun z => hs (s0 b (A.zs b z))) (A.kd o n), rfl⟩
theorem Own.step {S' : Addr → Prop} {q : Addr} {d : D} (h : Own A S H q d) (hs : S' q) (m : Mn S H S' H') (e : ∀ o, H q = some o → H' q = some o) : Own A S' H' q d := by
  obtain ⟨o, h1, h2, h3⟩ := h.ex
  exact ⟨hs, h.n0, h.h0, o, e o h1, h2.mono m, h3⟩
theorem SlR.fx (h : Fx A H H') (s0 : ∀ a, A.S0 a → S a) {q : Addr} {o : Option V} {e : Sl} (r : SlR A S H q o e) : SlR A S H' q o e := by
  have own : ∀ {d : D}, Own A S H q d → Own A S H' q d := fun {d} w => w.step w.s (h.mn s0) fun o e => h.ex q o e (fun z => w.n0 (A.zs q z)) (A.kd _ (by obtain ⟨o', e1, r1, _⟩ := w.ex; rw [e1] at e; cases e; exact r1.nt))
  cases r with
  | no => exact .no
  | sh r => exact .sh (r.mono (h.mn s0))
  | ow w => exact .ow (own w)
  | ot e z w => exact .ot (h.ex _ _ e (fun y => z (s0 _ (A.zs _ y))) (A.kd _ trivial)) z (own w)
  | st z => exact .st z
theorem StR.fx (t : StR A S env σ H) (h : Fx A H H') : StR A S env σ H' where
  len := t.len
  sl := by
    obtain ⟨q, hs, ha⟩ := t.sl
    exact ⟨q, fun i e o h1 h2 => (hs i e o h1 h2).fx h t.s0, ha⟩
  s0 := t.s0
  dom := fun a ha => by
    by_cases z : A.z a
    · exact A.zd _ a h.am z
    · obtain ⟨o, e, n⟩ := t.dom a ha
      exact ⟨o, h.ex a o e z (A.kd o n), n⟩
  base := fun b o e z n => h.ex b o (t.base b o e z n) z n
  am := h.am
theorem StR.mn (t : StR A S env σ H) (h : Fx A H H') : Mn S H S H' := h.mn t.s0
/-- a new object -/
theorem StR.new (t : StR A S env σ H) {p : Addr} {o : HO} (hp : H p = none) : Fx A H (upd H p o) := by
  have ex : ∀ b o', H b = some o' → upd H p o b = some o' := fun b o' e => by rw [upd_ne (ne_of_none e hp)]; exact e
  exact ⟨fun b o' e _ _ => ex b o' e, A.al H _ t.am fun b o' e _ => ex b o' e⟩
theorem StR.notS (t : StR A S env σ H) {p : Addr} (hp : H p = none) : ¬ S p := fun h => by
  obtain ⟨o, e, _⟩ := t.dom p h
  rw [hp] at e; cases e
end
/-! ### readings over trees -/
/-- an exception: its class, its fields -/
structure Exn where
  c : Str
  fs : List (Str × V)
def ExR (W : Wd) (H : Hp) (ex : Exn) (C : Value) (d : Option Addr) : Prop := ∃ a, W.cl ex.c = some a ∧ C = .ref a ∧ (ex.fs = [] → d = none) ∧ (ex.fs ≠ [] → ∃ p, d = some p ∧ H p = some (.xd ex.fs))
abbrev TV (α : Type) := List Sl → (α → Prop) → (Exn → Prop) → Prop
def LfG {ξ α : Type} (A : Am) (E : L2.St → XK) (R : (Addr → Prop) → Hp → ξ → α → Prop) (τ : TV α) : L2.St → Hp → (ξ → Hp → Prop) → Prop := fun σ H Q =>
  ∃ S env Qd Rd, StR A S env σ H ∧ τ env Qd Rd ∧ (∀ d x H', Fx A H H' → R S H' x d → Qd d → Q x H') ∧ ∀ ex C dd H', Fx A H H' → ExR A.W H' ex C dd → Rd ex → E σ C dd H'
abbrev rV (A : Am) : (Addr → Prop) → Hp → V → D → Prop := fun S H x d => Rep A.W S H x d
abbrev rB : (Addr → Prop) → Hp → Bool → Bool → Prop := fun _ _ x d => x = d
abbrev rL (A : Am) : (Addr → Prop) → Hp → List V → List D → Prop := fun S H x d => RepL A.W S H x d
/-- readable: a tree, or what the frame alone holds -/
inductive RepR (W : Wd) (z : Addr → Prop) (S : Addr → Prop) (H : Hp) : V → D → Prop
  | rep {x : V} {d : D} : Rep W S H x d → RepR W z S H x d
  | own {p : Addr} {o : HO} {d : D} : H p = some o → RepO W S H o d → ¬ z p → dataO o = true → RepR W z S H (.ref p) d
abbrev rR (A : Am) : (Addr → Prop) → Hp → V → D → Prop := fun S H x d => RepR A.W A.z S H x d
structure VE (X : Cx) (A : Am) (E : L2.St → XK) (e : Expr) (τ : TV D) : Prop where
  run : PE X e (LfG A E (rV A) τ)
structure VR (X : Cx) (A : Am) (E : L2.St → XK) (e : Expr) (τ : TV D) : Prop where
  run : PE X e (LfG A E (rR A) τ)
structure VT (X : Cx) (A : Am) (E : L2.St → XK) (e : Expr) (τ : TV Bool) : Prop where
  run : PT X e (LfG A E rB τ)
structure VA (X : Cx) (A : Am) (E : L2.St → XK) (es : List Expr) (τ : TV (List D)) : Prop where
  run : PA X es (LfG A E (rL A) τ)
section
variable {A : Am} {E : L2.St → XK}
/-- a rule's reading is kept by steps -/
def Kept {ξ α : Type} (A : Am) (R : (Addr → Prop) → Hp → ξ → α → Prop) : Prop := ∀ S H H' x d, (∀ a, A.S0 a → S a) → Fx A H H' → R S H x d → R S H' x d
theorem kept_V : Kept A (rV A) := fun S H H' x d s0 f r => r.mono (f.mn s0)
theorem kept_L : Kept A (rL A) := fun S H H' x d s0 f r => r.mono (f.mn s0)
theorem kept_B : Kept A rB := fun _ _ _ _ _ _ _ r => r
theorem LfG.one {ξ1 ξ2 α β : Type} {R1 : (Addr → Prop) → Hp → ξ1 → α → Prop} {R2 : (Addr → Prop) → Hp → ξ2 → β → Prop} {τ : TV α} {f : α → (β → Prop) → Prop} {r : ξ1 → Hp → (ξ2 → Hp → Prop) → Prop}
    (step : ∀ S env σ H x d Qd (Q : ξ2 → Hp → Prop), StR A S env σ H → R1 S H x d → f d Qd → (∀ d x H', Fx A H H' → R2 S H' x d → Qd d → Q x H') → r x H Q) {σ : L2.St} {H : Hp} {Q : ξ2 → Hp → Prop}
    (h : LfG A E R2 (fun env Q R => τ env (fun d => f d Q) R) σ H Q) : LfG A E R1 τ σ H fun x H1 => r x H1 Q := by
  obtain ⟨S, env, Qd, Rd, st, h, hq, hr⟩ := h
  exact ⟨S, env, _, Rd, st, h, fun d x H1 f1 r1 q => step S env σ H1 x d Qd Q (st.fx f1) r1 q fun d x H' f2 r2 q2 => hq d x H' (f1.trans f2) r2 q2, hr⟩
theorem LfG.two {ξ1 ξ2 ξ3 α β γ : Type} {R1 : (Addr → Prop) → Hp → ξ1 → α → Prop} {R2 : (Addr → Prop) → Hp → ξ2 → β → Prop} {R3 : (Addr → Prop) → Hp → ξ3 → γ → Prop} {τ1 : TV α} {τ2 : TV β} {f : α → β → (γ → Prop) → Prop} {r : ξ1 → ξ2 → Hp → (ξ3 → Hp → Prop) → Prop}
    (kp : Kept A R1) (step : ∀ S env σ H x y d e Qd (Q : ξ3 → Hp → Prop), StR A S env σ H → R1 S H x d → R2 S H y e → f d e Qd → (∀ d x H', Fx A H H' → R3 S H' x d → Qd d → Q x H') → r x y H Q) {σ : L2.St} {H : Hp} {Q : ξ3 → Hp → Prop}
    (h : LfG A E R3 (fun env Q R => τ1 env (fun d => τ2 env (fun e => f d e Q) R) R) σ H Q) : LfG A E R1 τ1 σ H fun x H1 => LfG A E R2 τ2 σ H1 fun y H2 => r x y H2 Q := by
  obtain ⟨S, env, Qd, Rd, st, h, hq, hr⟩ := h
  refine ⟨S, env, _, Rd, st, h, fun d x H1 f1 r1 q => ⟨S, env, _, Rd, st.fx f1, q, fun e y H2 f2 r2 q2 => ?_, fun ex C dd H' f2 => hr ex C dd H' (f1.trans f2)⟩, hr⟩
  exact step S env σ H2 x y d e Qd Q ((st.fx f1).fx f2) (kp S H1 H2 x d st.s0 f2 r1) r2 q2 fun d x H' f3 r3 q3 => hq d x H' ((f1.trans f2).trans f3) r3 q3
theorem LfG.imp {ξ α : Type} {R : (Addr → Prop) → Hp → ξ → α → Prop} {τ τ' : TV α} (i : ∀ env Q R', τ' env Q R' → τ env Q R') {σ : L2.St} {H : Hp} {Q : ξ → Hp → Prop} (h : LfG A E R τ' σ H Q) : LfG A E R τ σ H Q := by
  obtain ⟨S, env, Qd, Rd, st, h, hq, hr⟩ := h
  exact ⟨S, env, Qd, Rd, st, i _ _ _ h, hq, hr⟩
end
section
variable {X : Cx} {A : Am} {E : L2.St → XK} {e a b c : Expr} {es : List Expr} {τ τa τb τc : TV D} {τl : TV (List D)} {pos : Pos}
theorem VE.vr (h : VE X A E e τ) : VR X A E e τ := ⟨PE.imp h.run fun σ H Q h => by
  obtain ⟨S, env, Qd, Rd, st, h, hq, hr⟩ := h
  exact ⟨S, env, Qd, Rd, st, h, fun d x H' f r q => hq d x H' f (.rep r) q, hr⟩⟩
theorem VE.imp {τ' : TV D} (h : VE X A E e τ) (i : ∀ env Q R', τ' env Q R' → τ env Q R') : VE X A E e τ' := ⟨PE.imp h.run fun _ _ _ h => h.imp i⟩
/-! ### names and constants -/
@[simp] def vNm (i : Nat) : TV D := fun env Q _ => match env[i]? with
  | some (.sh d) => Q d
  | _ => False
@[simp] def vNr (i : Nat) : TV D := fun env Q _ => match env[i]? with
  | some (.sh d) => Q d
  | some (.ow d) => Q d
  | _ => False
theorem StR.at {S : Addr → Prop} {env : List Sl} {σ : L2.St} {H : Hp} (t : StR A S env σ H) {i : Nat} {e : Sl} (h : env[i]? = some e) : ∃ o, σ[i]? = some o ∧ ∃ q, SlR A S H q o e := by
  have hi : i < σ.length := by rw [← t.len]; exact (List.getElem?_eq_some_iff.mp h).1
  obtain ⟨q, hs, _⟩ := t.sl
  exact ⟨σ[i], List.getElem?_eq_getElem hi, q i, hs i e _ h (List.getElem?_eq_getElem hi)⟩
theorem v_nm (i : Nat) {x : Str} (hN : X.N[i]? = some x := by rfl) (hv : Vis X.env.scope x := by first | exact Or.inl rfl | exact Or.inr (Or.inl rfl) | exact Or.inr (Or.inr rfl)) (hd : (x == ("__debug__" : Str)) = false := by decide)
    (hcd : (x == ("__classdict__" : Str)) = false := by decide) : VE X A E (.Name x pos) (vNm i) := ⟨by
  refine PE.imp (pe_var (i := i) hN hv hd hcd) fun σ H Q h => ?_
  obtain ⟨S, env, Qd, Rd, st, h, hq, hr⟩ := h
  unfold vNm at h
  split at h
  · rename_i d e
    obtain ⟨o, h1, q0, h2⟩ := st.at e
    cases h2 with
    | sh r => exact ⟨_, h1, hq d _ H (Fx.refl st.am) r h⟩
  · exact h.elim⟩
theorem v_nr (i : Nat) {x : Str} (hN : X.N[i]? = some x := by rfl) (hv : Vis X.env.scope x := by first | exact Or.inl rfl | exact Or.inr (Or.inl rfl) | exact Or.inr (Or.inr rfl)) (hd : (x == ("__debug__" : Str)) = false := by decide)
    (hcd : (x == ("__classdict__" : Str)) = false := by decide) : VR X A E (.Name x pos) (vNr i) := ⟨by
  refine PE.imp (pe_var (i := i) hN hv hd hcd) fun σ H Q h => ?_
  obtain ⟨S, env, Qd, Rd, st, h, hq, hr⟩ := h
  unfold vNr at h
  split at h
  · rename_i d e
    obtain ⟨o, h1, q0, h2⟩ := st.at e
    cases h2 with
    | sh r => exact ⟨_, h1, hq d _ H (Fx.refl st.am) (.rep r) h⟩
  · rename_i d e
    obtain ⟨o, h1, q0, h2⟩ := st.at e
    cases h2 with
    | ow w =>
      obtain ⟨o, ep, r, mu⟩ := w.ex
      exact ⟨_, h1, hq d _ H (Fx.refl st.am) (.own ep r (fun z => w.n0 (A.zs _ z)) mu) h⟩
  · exact h.elim⟩
@[simp] def vC (d : D) : TV D := fun _ Q _ => Q d
theorem VE.const {v : V} {d : D} (h : PE X e (tC v)) (r : ∀ S H, Rep A.W S H v d) : VE X A E e (vC d) := ⟨PE.imp h fun σ H Q h => by
  obtain ⟨S, env, Qd, Rd, st, h, hq, hr⟩ := h
  exact hq d v H (Fx.refl st.am) (r S H) h⟩
theorem v_int {i : Int} {j : Nat} : VE X A E (.Constant (.int i) j pos) (vC (.int i)) := .const pe_int fun _ _ => .int
theorem v_bl {k : Bool} {j : Nat} : VE X A E (.Constant (.bool k) j pos) (vC (.bl k)) := .const pe_bl fun _ _ => .bl
theorem v_non {j : Nat} : VE X A E (.Constant .none j pos) (vC .non) := .const pe_non fun _ _ => .non
theorem v_str {x : Str} {j : Nat} : VE X A E (.Constant (.str x) j pos) (vC (.str x)) := .const pe_str fun _ _ => .str
/-! ### operators by trees -/
/-- an operator over trees -/
def OpV (X : Cx) (A : Am) (g : Value → Value → Sem Value) (f : D → D → (D → Prop) → Prop) : Prop := ∃ r, OpR X g r ∧ ∀ S env σ H x y d e Qd (Q : VK), StR A S env σ H → RepR A.W A.z S H x d → RepR A.W A.z S H y e → f d e Qd → (∀ d x H', Fx A H H' → Rep A.W S H' x d → Qd d → Q x H') → r x y H Q
@[simp] def vOp (f : D → D → (D → Prop) → Prop) (τa τb : TV D) : TV D := fun env Q R => τa env (fun d => τb env (fun e => f d e Q) R) R
theorem kept_R : Kept A (rR A) := fun S H H' x d s0 f r => by
  cases r with
  | rep r => exact .rep (r.mono (f.mn s0))
  | own e r z mu => exact .own (f.ex _ _ e z (A.kd _ r.nt)) (r.mono (f.mn s0)) z mu
end
end Bs
/-! Expressions over trees. -/
namespace Bs
open PySem PySem.Spec PyProof.Rows L2
/-! ### what a tree tells of its value -/
section
variable {W : Wd} {z S : Addr → Prop} {H : Hp} {x : V}
theorem RepR.int {i : Int} (r : RepR W z S H x (.int i)) : x = .int i := by
  cases r with
  | rep r => cases r with
    | int => rfl
    | ob _ _ r => cases r
    | fz _ _ r => cases r
  | own _ r _ _ => cases r
theorem RepR.str {i : Str} (r : RepR W z S H x (.str i)) : x = .str i := by
  cases r with
  | rep r => cases r with
    | str => rfl
    | ob _ _ r => cases r
    | fz _ _ r => cases r
  | own _ r _ _ => cases r
theorem RepR.bl {i : Bool} (r : RepR W z S H x (.bl i)) : x = .bl i := by
  cases r with
  | rep r => cases r with
    | bl => rfl
    | ob _ _ r => cases r
    | fz _ _ r => cases r
  | own _ r _ _ => cases r
theorem RepR.non (r : RepR W z S H x .non) : x = .non := by
  cases r with
  | rep r => cases r with
    | non => rfl
    | ob _ _ r => cases r
    | fz _ _ r => cases r
  | own _ r _ _ => cases r
theorem RepR.ty {n : String} (r : RepR W z S H x (.ty n)) : x = .ty n := by
  cases r with
  | rep r => cases r with
    | ty => rfl
    | ob _ _ r => cases r
    | fz _ _ r => cases r
  | own _ r _ _ => cases r
theorem RepR.lst {ds : List D} (r : RepR W z S H x (.lst ds)) : ∃ a xs, x = .ref a ∧ H a = some (.lst xs) ∧ RepL W S H xs ds := by
  cases r with
  | rep r => cases r with
    | ob _ h r => cases r with
      | lst r => exact ⟨_, _, rfl, h, r⟩
    | fz _ _ r => cases r
  | own h r _ _ => cases r with
    | lst r => exact ⟨_, _, rfl, h, r⟩
theorem RepR.tup {ds : List D} (r : RepR W z S H x (.tup ds)) : ∃ a xs, x = .ref a ∧ SqT W.K H a xs ∧ RepL W S H xs ds := by
  cases r with
  | rep r => cases r with
    | ob _ h r => cases r with
      | tup r => exact ⟨_, _, rfl, SqT.of h, r⟩
    | fz _ _ r => cases r
    | kt h1 h2 h3 h4 h5 r => exact ⟨_, _, rfl, .inr ⟨_, _, _, h1, h2, h3, h4, h5⟩, r⟩
  | own h r _ _ => cases r with
    | tup r => exact ⟨_, _, rfl, SqT.of h, r⟩
theorem RepR.tupRep {ds : List D} (r : RepR W z S H x (.tup ds)) : Rep W S H x (.tup ds) := by
  cases r with
  | rep r => exact r
  | own h r _ mu => cases r with
    | tup r => cases mu
theorem RepR.dic {ks : List Key} {ds : List D} (r : RepR W z S H x (.dic ks ds)) : ∃ a kvs, x = .ref a ∧ Rd H a (.dK kvs) ∧ kvs.map (·.1) = ks ∧ RepL W S H (kvs.map (·.2)) ds := by
  cases r with
  | rep r => cases r with
    | ob _ h r => cases r with
      | dic r => exact ⟨_, _, rfl, .inl h, rfl, r⟩
    | fz _ h r => cases r with
      | dic r => exact ⟨_, _, rfl, .inr ⟨_, h⟩, rfl, r⟩
  | own h r _ _ => cases r with
    | dic r => exact ⟨_, _, rfl, .inl h, rfl, r⟩
theorem RepR.obj {c : Str} {ns : List Str} {ds : List D} (r : RepR W z S H x (.obj c ns ds)) : ∃ a C dx fs, x = .ref a ∧ H a = some (.ins C dx fs) ∧ W.cl c = some C ∧ fs.map (·.1) = ns ∧ RepL W S H (fs.map (·.2)) ds := by
  cases r with
  | rep r => cases r with
    | ob _ h r => cases r with
      | obj hc r => exact ⟨_, _, _, _, rfl, h, hc, rfl, r⟩
    | fz _ _ r => cases r
  | own h r _ _ => cases r with
    | obj hc r => exact ⟨_, _, _, _, rfl, h, hc, rfl, r⟩
/-- a sequence that may be read -/
theorem RepR.seq {ds : List D} (r : RepR W z S H x (.lst ds) ∨ RepR W z S H x (.tup ds)) : ∃ a xs, x = .ref a ∧ Sq W.K H a xs ∧ RepL W S H xs ds := by
  rcases r with r | r
  · obtain ⟨a, xs, e, h, q⟩ := r.lst
    exact ⟨a, xs, e, .inl (SqL.of h), q⟩
  · obtain ⟨a, xs, e, h, q⟩ := r.tup
    exact ⟨a, xs, e, .inr h, q⟩
end
section
variable {A : Am} {S : Addr → Prop} {H : Hp} {env : List Sl} {σ : L2.St}
/-- a new object, told -/
theorem StR.mkO (t : StR A S env σ H) {p : Addr} {o : HO} {d : D} (hp : H p = none) (r : RepO A.W S H o d) : Rep A.W S (upd H p o) (.ref p) d :=
  .ob (t.notS hp) upd_same (r.mono ((t.new hp).mn t.s0))
end
section
variable {X : Cx} {A : Am} {E : L2.St → XK} {e a b c : Expr} {es : List Expr} {τ τa τb τc : TV D} {τl : TV (List D)} {pos : Pos}
theorem v_op {op : Operator} {f : D → D → (D → Prop) → Prop} (ho : OpV X A (binaryOp op) f) (ha : VR X A E a τa) (hb : VR X A E b τb) : VE X A E (.BinOp a op b pos) (vOp f τa τb) := by
  obtain ⟨r, ho, hs⟩ := ho
  exact ⟨PE.imp (pe_op ho ha.run hb.run) fun σ H Q h => LfG.two kept_R (fun S env σ H x y d e Qd Q st r1 r2 hf hq => hs S env σ H x y d e Qd Q st r1 r2 hf hq) h⟩
theorem v_cmp {op : CmpOp} {f : D → D → (D → Prop) → Prop} (ho : OpV X A (compareOp op) f) (ha : VR X A E a τa) (hb : VR X A E b τb) (hm : behindInMarks op b = false) : VE X A E (.Compare a [op] [b] pos) (vOp f τa τb) := by
  obtain ⟨r, ho, hs⟩ := ho
  exact ⟨PE.imp (pe_cmpR ho ha.run hb.run hm) fun σ H Q h => LfG.two kept_R (fun S env σ H x y d e Qd Q st r1 r2 hf hq => hs S env σ H x y d e Qd Q st r1 r2 hf hq) h⟩
/-! ### arithmetic, order -/
@[simp] def dAdd (d e : D) (Q : D → Prop) : Prop := match d, e with
  | .int i, .int j => Q (.int (i + j))
  | .str x, .str y => x.length + y.length ≤ sizeLine ∧ Q (.str (x ++ y))
  | .lst xs, .lst ys => xs.length + ys.length ≤ sizeLine ∧ Q (.lst (xs ++ ys))
  | .tup xs, .tup ys => xs.length + ys.length ≤ sizeLine ∧ Q (.tup (xs ++ ys))
  | _, _ => False
theorem SqT.map {K : PySem.W.Frag} {H H' : Hp} {a : Addr} {xs : List V} (h : SqT K H a xs) (e : ∀ o, Rd H a o → Rd H' a o) : SqT K H' a xs := by
  rcases h with h | h
  · exact .inl (e _ h)
  · exact .inr h
theorem w_add (hK : A.W.K = X.K) : OpV X A (binaryOp .Add) dAdd := by
  refine ⟨_, o_add.or op_catA, fun S env σ H x y d e Qd Q st r1 r2 hf hq => ?_⟩
  have sc : ∀ (d : D) v, Rep A.W S H v d → Qd d → Q v H := fun d v r q => hq d v H (Fx.refl st.am) r q
  unfold dAdd at hf
  split at hf
  · rw [r1.int, r2.int]; exact .inl (sc _ _ .int hf)
  · rw [r1.str, r2.str]; exact .inl ⟨hf.1, sc _ _ .str hf.2⟩
  · obtain ⟨p, xs, rfl, h1, q1⟩ := r1.lst
    obtain ⟨q, ys, rfl, h2, q2⟩ := r2.lst
    exact .inl ⟨xs, ys, h1, h2, by rw [q1.length, q2.length]; exact hf.1, fun l hl => hq _ _ _ (st.new hl) (st.mkO hl (.lst (q1.app q2))) hf.2⟩
  · obtain ⟨p, xs, rfl, h1, q1⟩ := r1.tup
    obtain ⟨q, ys, rfl, h2, q2⟩ := r2.tup
    rw [hK] at h1 h2
    refine .inr ⟨p, q, xs, ys, rfl, rfl, h1, h2, by rw [q1.length, q2.length]; exact hf.1, fun z => ?_, fun _ z => ?_, fun _ _ l hl => hq _ _ _ (st.new hl) (st.mkO hl (.tup (q1.app q2))) hf.2⟩
    · subst z
      cases q1
      exact hq _ _ H (Fx.refl st.am) r2.tupRep hf.2
    · subst z
      cases q2
      have h := hf.2
      rw [List.append_nil] at h
      exact hq _ _ H (Fx.refl st.am) r1.tupRep h
  · exact hf.elim
/-! two ints -/
@[simp] def dI (C : Int → Int → Prop) (g : Int → Int → D) (d e : D) (Q : D → Prop) : Prop := match d, e with
  | .int i, .int j => C i j ∧ Q (g i j)
  | _, _ => False
@[simp] def dI0 (g : Int → Int → D) (d e : D) (Q : D → Prop) : Prop := match d, e with
  | .int i, .int j => Q (g i j)
  | _, _ => False
theorem OpV.I {f : Value → Value → Sem Value} {C : Int → Int → Prop} {g : Int → Int → V} {gd : Int → Int → D} (h : OpR X f (uI C g)) (r : ∀ S H i j, Rep A.W S H (g i j) (gd i j)) : OpV X A f (dI C gd) := by
  refine ⟨_, h, fun S env σ H x y d e Qd Q st r1 r2 hf hq => ?_⟩
  unfold dI at hf
  split at hf
  · rw [r1.int, r2.int]; exact ⟨hf.1, hq _ _ H (Fx.refl st.am) (r _ _ _ _) hf.2⟩
  · exact hf.elim
theorem OpV.I0 {f : Value → Value → Sem Value} {g : Int → Int → V} {gd : Int → Int → D} (h : OpR X f (uI0 g)) (r : ∀ S H i j, Rep A.W S H (g i j) (gd i j)) : OpV X A f (dI0 gd) := by
  refine ⟨_, h, fun S env σ H x y d e Qd Q st r1 r2 hf hq => ?_⟩
  unfold dI0 at hf
  split at hf
  · rw [r1.int, r2.int]; exact hq _ _ H (Fx.refl st.am) (r _ _ _ _) hf
  · exact hf.elim
theorem w_sub : OpV X A (binaryOp .Sub) (dI0 fun i j => .int (i - j)) := .I0 o_sub fun _ _ _ _ => .int
theorem w_mod : OpV X A (binaryOp .Mod) (dI (fun _ j => 0 < j) fun i j => .int (i % j)) := .I o_mod fun _ _ _ _ => .int
theorem w_fdiv : OpV X A (binaryOp .FloorDiv) (dI CDivW fun i j => .int (i / j)) := .I o_fdiv fun _ _ _ _ => .int
theorem w_pow : OpV X A (binaryOp .Pow) (dI CPow fun i j => .int (i ^ j.toNat)) := .I o_pow fun _ _ _ _ => .int
theorem w_lt : OpV X A (compareOp .Lt) (dI0 fun i j => .bl (decide (i < j))) := .I0 o_lt fun _ _ _ _ => .bl
theorem w_gt : OpV X A (compareOp .Gt) (dI0 fun i j => .bl (decide (j < i))) := .I0 o_gt fun _ _ _ _ => .bl
theorem w_ge : OpV X A (compareOp .GtE) (dI0 fun i j => .bl (decide (j ≤ i))) := .I0 o_ge fun _ _ _ _ => .bl
@[simp] def dLe (d e : D) (Q : D → Prop) : Prop := match d, e with
  | .int i, .int j => Q (.bl (decide (i ≤ j)))
  | .str a, .str b => Q (.bl (!decide (b.cps.toList < a.cps.toList)))
  | _, _ => False
theorem w_le : OpV X A (compareOp .LtE) dLe := by
  refine ⟨_, o_le, fun S env σ H x y d e Qd Q st r1 r2 hf hq => ?_⟩
  unfold dLe at hf
  split at hf
  · rw [r1.int, r2.int]; exact hq _ _ H (Fx.refl st.am) .bl hf
  · rw [r1.str, r2.str]; exact hq _ _ H (Fx.refl st.am) .bl hf
  · exact hf.elim
theorem RepL.flat {W : Wd} {S : Addr → Prop} {H : Hp} {xs : List V} {ds : List D} (r : RepL W S H xs ds) : ∀ k, RepL W S H (List.replicate k xs).flatten (List.replicate k ds).flatten
  | 0 => .nil
  | k + 1 => by
    rw [List.replicate_succ, List.replicate_succ, List.flatten_cons, List.flatten_cons]
    exact r.app (RepL.flat r k)
@[simp] def dMul (d e : D) (Q : D → Prop) : Prop := match d, e with
  | .int i, .int j => (CMul i j ∨ CMulW i j) ∧ Q (.int (i * j))
  | .lst ds, .int k => -(2 ^ 63) ≤ k ∧ k < 2 ^ 63 ∧ ds.length * k.toNat ≤ sizeLine ∧ Q (.lst (List.replicate k.toNat ds).flatten)
  | .str z, .int k => (-(2 ^ 20) ≤ k ∧ k ≤ 2 ^ 20) ∧ z.length * k.toNat ≤ sizeLine ∧ Q (.str (Txt.mul z k))
  | _, _ => False
theorem w_mul : OpV X A (binaryOp .Mult) dMul := by
  refine ⟨_, o_mul, fun S env σ H x y d e Qd Q st r1 r2 hf hq => ?_⟩
  unfold dMul at hf
  split at hf
  · rw [r1.int, r2.int]; exact ⟨hf.1, hq _ _ H (Fx.refl st.am) .int hf.2⟩
  · obtain ⟨p, xs, rfl, h1, q1⟩ := r1.lst
    rw [r2.int]
    obtain ⟨a1, a2, a3, a4⟩ := hf
    exact ⟨xs, h1, a1, a2, by rw [q1.length]; exact a3, fun l hl => hq _ _ _ (st.new hl) (st.mkO hl (.lst (q1.flat _))) a4⟩
  · rw [r1.str, r2.int]; exact ⟨hf.1, hf.2.1, hq _ _ H (Fx.refl st.am) .str hf.2.2⟩
  · exact hf.elim
/-! places, parts -/
@[simp] def dIx (d e : D) (Q : D → Prop) : Prop := match d, e with
  | .lst ds, .int i => ∃ v, atI ds i = some v ∧ Q v
  | .tup ds, .int i => ∃ v, atI ds i = some v ∧ Q v
  | .str z, .int i => z.length ≤ sizeLine ∧ ∃ c, atI z.cps.toList i = some c ∧ Q (.str (one c))
  | _, _ => False
theorem RepL.atI {W : Wd} {S : Addr → Prop} {H : Hp} {xs : List V} {ds : List D} {i : Int} {d : D} (r : RepL W S H xs ds) (h : L2.atI ds i = some d) : ∃ v, L2.atI xs i = some v ∧ Rep W S H v d := by
  unfold L2.atI at h ⊢
  rw [r.length]
  cases e : ixN ds.length i with
  | none => rw [e] at h; cases h
  | some j => rw [e] at h; exact r.get h
theorem v_ix (hK : A.W.K = X.K) (ha : VR X A E a τa) (hb : VR X A E b τb) (hs : PlainIx b) : VE X A E (.Subscript a b pos) (vOp dIx τa τb) := ⟨PE.imp (pe_ix x_any ha.run hb.run hs) fun σ H Q h => LfG.two kept_R (fun S env σ H x y d e Qd Q st r1 r2 hf hq => by
    unfold dIx at hf
    split at hf
    · obtain ⟨p, xs, rfl, h1, q1⟩ := r1.lst
      obtain ⟨v, h2, h3⟩ := hf
      obtain ⟨u, h4, r4⟩ := q1.atI h2
      rw [r2.int]
      exact ⟨xs, u, .inl (SqL.of h1), h4, hq _ _ H (Fx.refl st.am) r4 h3⟩
    · obtain ⟨p, xs, rfl, h1, q1⟩ := r1.tup
      obtain ⟨v, h2, h3⟩ := hf
      obtain ⟨u, h4, r4⟩ := q1.atI h2
      rw [r2.int]
      exact ⟨xs, u, .inr (hK ▸ h1), h4, hq _ _ H (Fx.refl st.am) r4 h3⟩
    · rw [r1.str, r2.int]
      obtain ⟨h1, c, h2, h3⟩ := hf
      exact ⟨h1, c, h2, hq _ _ H (Fx.refl st.am) .str h3⟩
    · exact hf.elim) h⟩
/-! ### arguments -/
inductive RepRL (W : Wd) (z S : Addr → Prop) (H : Hp) : List V → List D → Prop
  | nil : RepRL W z S H [] []
  | cons {v : V} {d : D} {vs : List V} {ds : List D} : RepR W z S H v d → RepRL W z S H vs ds → RepRL W z S H (v :: vs) (d :: ds)
abbrev rRL (A : Am) : (Addr → Prop) → Hp → List V → List D → Prop := fun S H x d => RepRL A.W A.z S H x d
structure VB (X : Cx) (A : Am) (E : L2.St → XK) (es : List Expr) (τ : TV (List D)) : Prop where
  run : PA X es (LfG A E (rRL A) τ)
@[simp] def vNil : TV (List D) := fun _ Q _ => Q []
@[simp] def vCons (τ : TV D) (τl : TV (List D)) : TV (List D) := fun env Q R => τ env (fun d => τl env (fun ds => Q (d :: ds)) R) R
theorem PA.imp {es : List Expr} {t t' : TA} (h : PA X es t) (i : ∀ σ H Q, t' σ H Q → t σ H Q) : PA X es t' := ⟨fun p pn s σ H Q I q => h.run p pn s σ H Q I (i σ H Q q)⟩
theorem va_nil : VA X A E [] vNil := ⟨PA.imp pa_nil fun σ H Q h => by
  obtain ⟨S, env, Qd, Rd, st, h, hq, hr⟩ := h
  exact hq _ _ H (Fx.refl st.am) .nil h⟩
theorem va_cons (ha : VE X A E e τ) (hr : VA X A E es τl) (hs : starEach (e :: es) X.env = (false, eval e X.env) :: starEach es X.env := by rfl) : VA X A E (e :: es) (vCons τ τl) :=
  ⟨PA.imp (pa_cons ha.run hr.run hs) fun σ H Q h => LfG.two (R3 := rL A) (f := fun d ds Q => Q (d :: ds)) (r := fun x xs H Q => Q (x :: xs) H) kept_V (fun S env σ H x y d e Qd Q st r1 r2 hf hq => hq _ _ H (Fx.refl st.am) (.cons r1 r2) hf) h⟩
theorem vb_nil : VB X A E [] vNil := ⟨PA.imp pa_nil fun σ H Q h => by
  obtain ⟨S, env, Qd, Rd, st, h, hq, hr⟩ := h
  exact hq _ _ H (Fx.refl st.am) .nil h⟩
theorem vb_cons (ha : VR X A E e τ) (hr : VB X A E es τl) (hs : starEach (e :: es) X.env = (false, eval e X.env) :: starEach es X.env := by rfl) : VB X A E (e :: es) (vCons τ τl) :=
  ⟨PA.imp (pa_cons ha.run hr.run hs) fun σ H Q h => LfG.two (R3 := rRL A) (f := fun d ds Q => Q (d :: ds)) (r := fun x xs H Q => Q (x :: xs) H) kept_R (fun S env σ H x y d e Qd Q st r1 r2 hf hq => hq _ _ H (Fx.refl st.am) (.cons r1 r2) hf) h⟩
/-! ### displays -/
/-- a new object, its parts as they stood ahead of it -/
structure VF (X : Cx) (A : Am) (E : L2.St → XK) (e : Expr) (τ : TV D) : Prop where
  run : PE X e fun σ H Q => ∃ S env Qd Rd, StR A S env σ H ∧ τ env Qd Rd ∧ (∀ d o p H1, Fx A H H1 → H1 p = none → RepO A.W S H1 o d → dataO o = true → Qd d → Q (.ref p) (upd H1 p o)) ∧ ∀ ex C dd H', Fx A H H' → ExR A.W H' ex C dd → Rd ex → E σ C dd H'
theorem VF.ve (h : VF X A E e τ) : VE X A E e τ := ⟨PE.imp h.run fun σ H Q h => by
  obtain ⟨S, env, Qd, Rd, st, h, hq, hr⟩ := h
  refine ⟨S, env, Qd, Rd, st, h, fun d o p H1 f1 hp r mu q => ?_, hr⟩
  have st1 := st.fx f1
  exact hq d _ _ (f1.trans (st1.new hp)) (st1.mkO hp r) q⟩
@[simp] def vLst (τl : TV (List D)) : TV D := fun env Q R => τl env (fun ds => ds.length ≤ sizeLine ∧ Q (.lst ds)) R
@[simp] def vTup (τl : TV (List D)) : TV D := fun env Q R => τl env (fun ds => ds.length ≤ sizeLine ∧ Q (.tup ds)) R
theorem vf_lst (h : VA X A E es τl) : VF X A E (.List es pos) (vLst τl) := ⟨PE.imp (pe_lst h.run) fun σ H Q h => by
  obtain ⟨S, env, Qd, Rd, st, h, hq, hr⟩ := h
  exact ⟨S, env, _, Rd, st, h, fun ds xs H1 f1 r q => ⟨by rw [r.length]; exact q.1, fun p hp => hq _ _ p H1 f1 hp (.lst r) rfl q.2⟩, hr⟩⟩
theorem v_lst (h : VA X A E es τl) : VE X A E (.List es pos) (vLst τl) := (vf_lst h).ve
theorem v_tup {k : Nat} (h : VA X A E es τl) : VE X A E (.Tuple es k pos) (vTup τl) := ⟨PE.imp (pe_tup h.run) fun σ H Q h => by
  obtain ⟨S, env, Qd, Rd, st, h, hq, hr⟩ := h
  exact ⟨S, env, _, Rd, st, h, fun ds xs H1 f1 r q => ⟨by rw [r.length]; exact q.1, fun p hp => hq _ _ _ (f1.trans ((st.fx f1).new hp)) ((st.fx f1).mkO hp (.tup r)) q.2⟩, hr⟩⟩
end
end Bs
/-! Tests, parts, equality, built-ins over trees. -/
namespace Bs
open PySem PySem.Spec PyProof.Rows L2
section
variable {X : Cx} {A : Am} {E : L2.St → XK} {e a b c : Expr} {es rest : List Expr} {τ τa τb τc : TV D} {τt τu : TV Bool} {τl : TV (List D)} {pos : Pos}
/-! ### truth -/
@[simp] def dTru (d : D) (Q : Bool → Prop) : Prop := match d with
  | .bl b => Q b
  | .non => Q false
  | .int i => Q (i != 0)
  | .str z => z.length ≤ sizeLine ∧ Q ((z.length : Int) != 0)
  | .lst ds => Q (!ds.isEmpty)
  | .tup ds => Q (!ds.isEmpty)
  | _ => False
theorem RepL.emp {W : Wd} {S : Addr → Prop} {H : Hp} {xs : List V} {ds : List D} (r : RepL W S H xs ds) : (!xs.isEmpty) = !ds.isEmpty := by cases r <;> rfl
theorem dTru_ok (hK : A.W.K = X.K) {S : Addr → Prop} {H : Hp} {x : V} {d : D} {Q : Bool → Prop} (r : RepR A.W A.z S H x d) (h : dTru d Q) : ∃ k, TruV X.K x H k ∧ Q k := by
  unfold dTru at h
  split at h
  · rw [r.bl]; exact ⟨_, rfl, h⟩
  · rw [r.non]; exact ⟨_, rfl, h⟩
  · rw [r.int]; exact ⟨_, rfl, h⟩
  · rw [r.str]; exact ⟨_, ⟨h.1, rfl⟩, h.2⟩
  · obtain ⟨p, xs, rfl, h1, q1⟩ := r.lst
    exact ⟨_, .inl ⟨xs, SqL.of h1, rfl⟩, by rw [q1.emp]; exact h⟩
  · obtain ⟨p, xs, rfl, h1, q1⟩ := r.tup
    exact ⟨_, .inr (.inl ⟨xs, hK ▸ h1, rfl⟩), by rw [q1.emp]; exact h⟩
  · exact h.elim
@[simp] def vT (τ : TV D) : TV Bool := fun env Q R => τ env (fun d => dTru d Q) R
/-- an expression as a test -/
theorem vt (hK : A.W.K = X.K) (h : VR X A E e τ) (he : ∀ whole, isTrue e X.env whole = (do let v ← whole; standAt e.pos; holding [v] (truthy v)) := by intro _; rfl) : VT X A E e (vT τ) :=
  ⟨PT.imp (pt_truth h.run he) fun σ H Q h => LfG.one (r := fun x H Q => ∃ k, TruV X.K x H k ∧ Q k H) (fun S env σ H x d Qd Q st r hf hq => by
    obtain ⟨k, h1, h2⟩ := dTru_ok hK r hf
    exact ⟨k, h1, hq k k H (Fx.refl st.am) rfl h2⟩) h⟩
@[simp] def bOf (d : D) (Q : Bool → Prop) : Prop := match d with
  | .bl k => Q k
  | _ => False
@[simp] def vOpT (f : D → D → (D → Prop) → Prop) (τa τb : TV D) : TV Bool := fun env Q R => τa env (fun d => τb env (fun e => f d e fun v => bOf v Q) R) R
theorem vt_cmp {op : CmpOp} {f : D → D → (D → Prop) → Prop} (ho : OpV X A (compareOp op) f) (ha : VR X A E a τa) (hb : VR X A E b τb) (hm : behindInMarks op b = false) : VT X A E (.Compare a [op] [b] pos) (vOpT f τa τb) := by
  obtain ⟨r, ho, hs⟩ := ho
  exact ⟨PT.imp (cmpT ho ha.run hb.run hm) fun σ H Q h => LfG.two (r := fun x y H Q => r x y H fun v H1 => match v with
    | .bl k => Q k H1
    | _ => False) kept_R (fun S env σ H x y d e Qd Q st r1 r2 hf hq => hs S env σ H x y d e _ _ st r1 r2 hf fun d x H' f r q => by
      unfold bOf at q
      split at q
      · rw [(RepR.rep (z := A.z) r).bl]; exact hq _ _ H' f rfl q
      · exact q.elim) h⟩
theorem LfG.conv {ξ α β : Type} {R1 : (Addr → Prop) → Hp → ξ → α → Prop} {τ : TV α} {σ : L2.St} {H : Hp} {Q Q' : ξ → Hp → Prop} (h : LfG A E R1 τ σ H Q) (i : ∀ x H, Q x H → Q' x H) : LfG A E R1 τ σ H Q' := by
  obtain ⟨S, env, Qd, Rd, st, h, hq, hr⟩ := h
  exact ⟨S, env, Qd, Rd, st, h, fun d x H' f r q => i _ _ (hq d x H' f r q), hr⟩
@[simp] def vNotT (τ : TV Bool) : TV Bool := fun env Q R => τ env (fun k => Q (!k)) R
theorem vt_not (h : VT X A E a τt) : VT X A E (.UnaryOp .Not a pos) (vNotT τt) := ⟨PT.imp (pt_not h.run) fun σ H Q h => LfG.one (r := fun x H Q => Q (!x) H) (fun S env σ H x d Qd Q st r hf hq => hq _ _ H (Fx.refl st.am) (by rw [r]) hf) h⟩
structure VW (X : Cx) (A : Am) (E : L2.St → XK) (e : Expr) (τ : TV Bool) : Prop where
  run : PW X e (LfG A E rB τ)
theorem PW.imp {e : Expr} {t t' : TT} (h : PW X e t) (i : ∀ σ H Q, t' σ H Q → t σ H Q) : PW X e t' := ⟨fun w p s σ H Q I q => h.run w p s σ H Q I (i σ H Q q)⟩
theorem VW.vt (h : VW X A E e τt) : VT X A E e τt := ⟨h.run.pt⟩
theorem vw_and1 (h : VT X A E a τt) : VW X A E (.BoolOp .And [a] pos) τt := ⟨pw_and1 h.run⟩
theorem vw_or1 (h : VT X A E a τt) : VW X A E (.BoolOp .Or [a] pos) τt := ⟨pw_or1 h.run⟩
@[simp] def vAndT (τ τ' : TV Bool) : TV Bool := fun env Q R => τ env (fun k => if k = true then τ' env Q R else Q false) R
@[simp] def vOrT (τ τ' : TV Bool) : TV Bool := fun env Q R => τ env (fun k => if k = true then Q true else τ' env Q R) R
/-- two readings, the second asked where the first's answer says so -/
theorem LfG.then_ {ξ1 ξ2 α β : Type} {R1 : (Addr → Prop) → Hp → ξ1 → α → Prop} {R2 : (Addr → Prop) → Hp → ξ2 → β → Prop} {τ1 : TV α} {g : α → TV β} {r : ξ1 → L2.St → Hp → (ξ2 → Hp → Prop) → Prop}
    (step : ∀ S env σ H x d Qd Rd (Q : ξ2 → Hp → Prop), StR A S env σ H → R1 S H x d → g d env Qd Rd → (∀ d x H', Fx A H H' → R2 S H' x d → Qd d → Q x H') → (∀ ex C dd H', Fx A H H' → ExR A.W H' ex C dd → Rd ex → E σ C dd H') → r x σ H Q) {σ : L2.St} {H : Hp} {Q : ξ2 → Hp → Prop}
    (h : LfG A E R2 (fun env Q R => τ1 env (fun d => g d env Q R) R) σ H Q) : LfG A E R1 τ1 σ H fun x H1 => r x σ H1 Q := by
  obtain ⟨S, env, Qd, Rd, st, h, hq, hr⟩ := h
  exact ⟨S, env, _, Rd, st, h, fun d x H1 f1 r1 q => step S env σ H1 x d Qd Rd Q (st.fx f1) r1 q (fun d x H' f2 r2 q2 => hq d x H' (f1.trans f2) r2 q2) fun ex C dd H' f2 => hr ex C dd H' (f1.trans f2), hr⟩
theorem vw_and (ha : VT X A E a τt) (hb : VW X A E (.BoolOp .And (b :: rest) pos) τu) : VW X A E (.BoolOp .And (a :: b :: rest) pos) (vAndT τt τu) := ⟨PW.imp (pw_and ha.run hb.run) fun σ H Q h =>
  LfG.then_ (g := fun k env Q R => if k = true then τu env Q R else Q false) (r := fun c σ H1 Q => if c = true then LfG A E rB τu σ H1 Q else Q false H1) (fun S env σ H x d Qd Rd Q st r hg hq hr => by
    have e : x = d := r
    subst e
    cases x with
    | true => exact ⟨S, env, Qd, Rd, st, hg, hq, hr⟩
    | false => exact hq false false H (Fx.refl st.am) rfl hg) h⟩
theorem vw_or (ha : VT X A E a τt) (hb : VW X A E (.BoolOp .Or (b :: rest) pos) τu) : VW X A E (.BoolOp .Or (a :: b :: rest) pos) (vOrT τt τu) := ⟨PW.imp (pw_or ha.run hb.run) fun σ H Q h =>
  LfG.then_ (g := fun k env Q R => if k = true then Q true else τu env Q R) (r := fun c σ H1 Q => if c = true then Q true H1 else LfG A E rB τu σ H1 Q) (fun S env σ H x d Qd Rd Q st r hg hq hr => by
    have e : x = d := r
    subst e
    cases x with
    | true => exact hq true true H (Fx.refl st.am) rfl hg
    | false => exact ⟨S, env, Qd, Rd, st, hg, hq, hr⟩) h⟩
/-! as values -/
@[simp] def vAnd (τa τb : TV D) : TV D := fun env Q R => τa env (fun d => dTru d fun k => if k = true then τb env Q R else Q d) R
@[simp] def vOr (τa τb : TV D) : TV D := fun env Q R => τa env (fun d => dTru d fun k => if k = true then Q d else τb env Q R) R
@[simp] def vNot (τa : TV D) : TV D := fun env Q R => τa env (fun d => dTru d fun k => Q (.bl (!k))) R
theorem v_One {op : BoolOp} (h : VE X A E a τa) : VE X A E (.BoolOp op [a] pos) τa := ⟨pe_one h.run⟩
theorem v_And (hK : A.W.K = X.K) (ha : VE X A E a τa) (hb : VE X A E (.BoolOp .And (b :: rest) pos) τb) : VE X A E (.BoolOp .And (a :: b :: rest) pos) (vAnd τa τb) := ⟨PE.imp (pe_andT ha.run hb.run) fun σ H Q h =>
  LfG.then_ (g := fun d env Q R => dTru d fun k => if k = true then τb env Q R else Q d) (r := fun x σ H1 Q => ∃ k, TruV X.K x H1 k ∧ if k = true then LfG A E (rV A) τb σ H1 Q else Q x H1) (fun S env σ H x d Qd Rd Q st r hg hq hr => by
    obtain ⟨k, h1, h2⟩ := dTru_ok hK (.rep r) hg
    refine ⟨k, h1, ?_⟩
    cases k with
    | true => exact ⟨S, env, Qd, Rd, st, h2, hq, hr⟩
    | false => exact hq d x H (Fx.refl st.am) r h2) h⟩
theorem v_Or (hK : A.W.K = X.K) (ha : VE X A E a τa) (hb : VE X A E (.BoolOp .Or (b :: rest) pos) τb) : VE X A E (.BoolOp .Or (a :: b :: rest) pos) (vOr τa τb) := ⟨PE.imp (pe_orT ha.run hb.run) fun σ H Q h =>
  LfG.then_ (g := fun d env Q R => dTru d fun k => if k = true then Q d else τb env Q R) (r := fun x σ H1 Q => ∃ k, TruV X.K x H1 k ∧ if k = true then Q x H1 else LfG A E (rV A) τb σ H1 Q) (fun S env σ H x d Qd Rd Q st r hg hq hr => by
    obtain ⟨k, h1, h2⟩ := dTru_ok hK (.rep r) hg
    refine ⟨k, h1, ?_⟩
    cases k with
    | true => exact hq d x H (Fx.refl st.am) r h2
    | false => exact ⟨S, env, Qd, Rd, st, h2, hq, hr⟩) h⟩
theorem v_Not (hK : A.W.K = X.K) (ha : VR X A E a τa) : VE X A E (.UnaryOp .Not a pos) (vNot τa) := ⟨PE.imp (pe_notT ha.run) fun σ H Q h =>
  LfG.one (R2 := rV A) (f := fun d (Q : D → Prop) => dTru d fun k => Q (D.bl (!k))) (r := fun x H1 (Q : V → Hp → Prop) => ∃ k, TruV X.K x H1 k ∧ Q (V.bl (!k)) H1) (fun S env σ H x d Qd Q st r hg hq => by
    obtain ⟨k, h1, h2⟩ := dTru_ok hK r hg
    exact ⟨k, h1, hq _ _ H (Fx.refl st.am) .bl h2⟩) h⟩
@[simp] def vIf (t : TV Bool) (τa τb : TV D) : TV D := fun env Q R => t env (fun k => if k = true then τa env Q R else τb env Q R) R
theorem v_ifexp (hc : VT X A E c τt) (ha : VE X A E a τa) (hb : VE X A E b τb) : VE X A E (.IfExp c a b pos) (vIf τt τa τb) := ⟨PE.imp (pe_ifExp hc.run ha.run hb.run) fun σ H Q h =>
  LfG.then_ (g := fun k env Q R => if k = true then τa env Q R else τb env Q R) (r := fun k σ H1 Q => if k = true then LfG A E (rV A) τa σ H1 Q else LfG A E (rV A) τb σ H1 Q) (fun S env σ H x d Qd Rd Q st r hg hq hr => by
    have e : x = d := r
    subst e
    cases x with
    | true => exact ⟨S, env, Qd, Rd, st, hg, hq, hr⟩
    | false => exact ⟨S, env, Qd, Rd, st, hg, hq, hr⟩) h⟩
/-! ### equality -/
mutual
def py : D → Option PyData
  | .non => some .none
  | .bl b => some (.bool b)
  | .int i => some (.int i)
  | .str z => some (.str z)
  | .lst ds => (pyL ds).map .list
  | .tup ds => (pyL ds).map .tuple
  | .ty _ => none
  | .dic _ _ => none
  | .dit _ _ => none
  | .obj _ _ _ => none
  | .stx _ => none
def pyL : List D → Option (List PyData)
  | [] => some []
  | d :: ds => match py d, pyL ds with
    | some p, some ps => some (p :: ps)
    | _, _ => none
end
end
section
variable {W : Wd} {z S : Addr → Prop} {H : Hp}
mutual
theorem Rep.dp : ∀ (d : D) (p : PyData) (x : V), Rep W S H x d → py d = some p → Dp W.K H x p
  | .non, p, x, r, e => by unfold py at e; cases e; rw [(RepR.rep (z := fun _ => True) r).non]; exact .non
  | .bl b, p, x, r, e => by unfold py at e; cases e; rw [(RepR.rep (z := fun _ => True) r).bl]; exact .bl b
  | .int b, p, x, r, e => by unfold py at e; cases e; rw [(RepR.rep (z := fun _ => True) r).int]; exact .int b
  | .str b, p, x, r, e => by unfold py at e; cases e; rw [(RepR.rep (z := fun _ => True) r).str]; exact .str b
  | .lst ds, p, x, r, e => by
    unfold py at e
    cases h : pyL ds with
    | none => rw [h] at e; cases e
    | some ps =>
      rw [h] at e; cases e
      obtain ⟨a, xs, rfl, h1, q1⟩ := (RepR.rep (z := fun _ => True) r).lst
      exact .lst (SqL.of h1) (RepL.dp ds ps xs q1 h)
  | .tup ds, p, x, r, e => by
    unfold py at e
    cases h : pyL ds with
    | none => rw [h] at e; cases e
    | some ps =>
      rw [h] at e; cases e
      obtain ⟨a, xs, rfl, h1, q1⟩ := (RepR.rep (z := fun _ => True) r).tup
      exact .tup h1 (RepL.dp ds ps xs q1 h)
  | .ty _, p, x, r, e => by unfold py at e; cases e
  | .dic _ _, p, x, r, e => by unfold py at e; cases e
  | .dit _ _, p, x, r, e => by unfold py at e; cases e
  | .obj _ _ _, p, x, r, e => by unfold py at e; cases e
  | .stx _, p, x, r, e => by unfold py at e; cases e
theorem RepL.dp : ∀ (ds : List D) (ps : List PyData) (xs : List V), RepL W S H xs ds → pyL ds = some ps → DpAll W.K H xs ps
  | [], ps, xs, r, e => by unfold pyL at e; cases e; cases r; exact .nil
  | d :: ds, ps, xs, r, e => by
    unfold pyL at e
    cases r with
    | cons r1 r2 =>
      split at e
      · rename_i p ps' h1 h2
        cases e
        exact .cons (Rep.dp d p _ r1 h1) (RepL.dp ds ps' _ r2 h2)
      · cases e
end
theorem RepR.dp {x : V} {d : D} {p : PyData} (r : RepR W z S H x d) (e : py d = some p) : Dp W.K H x p := by
  cases r with
  | rep r => exact Rep.dp d p x r e
  | own h r zz mu => cases r with
    | lst r =>
      unfold py at e
      rename_i ds
      cases h2 : pyL ds with
      | none => rw [h2] at e; cases e
      | some ps =>
        rw [h2] at e; cases e
        exact .lst (SqL.of h) (RepL.dp ds ps _ r h2)
    | tup r => cases mu
    | dic r => unfold py at e; cases e
    | dit r => unfold py at e; cases e
    | obj hc r => unfold py at e; cases e
end
@[simp] def dEqP (n : Bool) (d e : D) (Q : D → Prop) : Prop := ∃ p q, py d = some p ∧ py e = some q ∧ SeqAt.shaped p = true ∧ SeqAt.shaped q = true ∧ Q (.bl (if n then !PyData.eqv p q else PyData.eqv p q))
@[simp] def dEq (d e : D) (Q : D → Prop) : Prop := match d, e with
  | .int i, .int j => Q (.bl (decide (i = j)))
  | .str i, .str j => Q (.bl (decide (i = j)))
  | .bl i, .bl j => Q (.bl (decide (i = j)))
  | d, e => dEqP false d e Q
@[simp] def dNe (d e : D) (Q : D → Prop) : Prop := match d, e with
  | .int i, .int j => Q (.bl (!decide (i = j)))
  | .str i, .str j => Q (.bl (!decide (i = j)))
  | .bl i, .bl j => Q (.bl (!decide (i = j)))
  | d, e => dEqP true d e Q
section
variable {X : Cx} {A : Am} {E : L2.St → XK} {e a b c : Expr} {es rest : List Expr} {τ τa τb τc : TV D} {τt τu : TV Bool} {τl : TV (List D)} {pos : Pos}
theorem dec_inj {α : Type} [DecidableEq α] {f : α → V} (hf : ∀ x y, f x = f y → x = y) (x y : α) : decide (f x = f y) = decide (x = y) := by
  by_cases h : x = y
  · subst h; simp
  · rw [decide_eq_false h, decide_eq_false fun e => h (hf _ _ e)]
theorem w_eq (hK : A.W.K = X.K) {k : Nat} (hr : Room k X.A) : OpV X A (compareOp .Eq) dEq := by
  refine ⟨_, op_eq.or (op_eqD hr.units), fun S env σ H x y d e Qd Q st r1 r2 hf hq => ?_⟩
  have sc : ∀ (k : Bool), Qd (.bl k) → Q (.bl k) H := fun k q => hq _ _ H (Fx.refl st.am) .bl q
  unfold dEq at hf
  split at hf
  · rw [r1.int, r2.int]; exact .inl ⟨rfl, by rw [dec_inj fun _ _ h => V.int.inj h]; exact sc _ hf⟩
  · rw [r1.str, r2.str]; exact .inl ⟨rfl, by rw [dec_inj fun _ _ h => V.str.inj h]; exact sc _ hf⟩
  · rw [r1.bl, r2.bl]; exact .inl ⟨rfl, by rw [dec_inj fun _ _ h => V.bl.inj h]; exact sc _ hf⟩
  · obtain ⟨p, q, h1, h2, s1, s2, h3⟩ := hf
    exact .inr ⟨p, q, hK ▸ r1.dp h1, hK ▸ r2.dp h2, s1, s2, sc _ h3⟩
theorem w_ne (hK : A.W.K = X.K) {k : Nat} (hr : Room k X.A) : OpV X A (compareOp .NotEq) dNe := by
  refine ⟨_, op_ne.or (op_neD hr.units), fun S env σ H x y d e Qd Q st r1 r2 hf hq => ?_⟩
  have sc : ∀ (k : Bool), Qd (.bl k) → Q (.bl k) H := fun k q => hq _ _ H (Fx.refl st.am) .bl q
  unfold dNe at hf
  split at hf
  · rw [r1.int, r2.int]; exact .inl ⟨rfl, by rw [dec_inj fun _ _ h => V.int.inj h]; exact sc _ hf⟩
  · rw [r1.str, r2.str]; exact .inl ⟨rfl, by rw [dec_inj fun _ _ h => V.str.inj h]; exact sc _ hf⟩
  · rw [r1.bl, r2.bl]; exact .inl ⟨rfl, by rw [dec_inj fun _ _ h => V.bl.inj h]; exact sc _ hf⟩
  · obtain ⟨p, q, h1, h2, s1, s2, h3⟩ := hf
    exact .inr ⟨p, q, hK ▸ r1.dp h1, hK ▸ r2.dp h2, s1, s2, sc _ h3⟩
/-! in: a text in a text; data in a list of data; flat in flat -/
def fl : D → Option V
  | .non => some .non
  | .bl b => some (.bl b)
  | .int i => some (.int i)
  | .str z => some (.str z)
  | _ => none
def flL : List D → Option (List V)
  | [] => some []
  | d :: ds => match fl d, flL ds with
    | some v, some vs => some (v :: vs)
    | _, _ => none
theorem fl_rep {W : Wd} {z S : Addr → Prop} {H : Hp} {x v : V} {d : D} (r : RepR W z S H x d) (h : fl d = some v) : x = v ∧ flatV x = true := by
  unfold fl at h
  split at h <;> cases h
  · rw [r.non]; exact ⟨rfl, rfl⟩
  · rw [r.bl]; exact ⟨rfl, rfl⟩
  · rw [r.int]; exact ⟨rfl, rfl⟩
  · rw [r.str]; exact ⟨rfl, rfl⟩
theorem flL_rep {W : Wd} {S : Addr → Prop} {H : Hp} : ∀ {xs vs : List V} {ds : List D}, RepL W S H xs ds → flL ds = some vs → xs = vs ∧ xs.all flatV = true
  | _, _, _, .nil, h => by unfold flL at h; cases h; exact ⟨rfl, rfl⟩
  | _, _, _, .cons r t, h => by
    unfold flL at h
    split at h
    · rename_i v vs h1 h2
      cases h
      obtain ⟨e1, f1⟩ := fl_rep (z := fun _ => True) (.rep r) h1
      obtain ⟨e2, f2⟩ := flL_rep t h2
      rw [List.all_cons, f1, f2, e1, e2]
      exact ⟨rfl, rfl⟩
    · cases h
@[simp] def sqD : D → Option (List D)
  | .lst ds => some ds
  | .tup ds => some ds
  | _ => none
@[simp] def dInF (n : Bool) (d e : D) (Q : D → Prop) : Prop := match sqD e with
  | some ds => (∃ v vs, fl d = some v ∧ flL ds = some vs ∧ Q (.bl (if n then !inV v vs else inV v vs)))
  | none => False
@[simp] def dIn (n : Bool) (d e : D) (Q : D → Prop) : Prop := match d, e with
  | .str x, .str y => Q (.bl (if n then !inS x y else inS x y))
  | d, e => dInF n d e Q
theorem sq_rep {W : Wd} {z S : Addr → Prop} {H : Hp} {x : V} {d : D} {ds : List D} (r : RepR W z S H x d) (h : sqD d = some ds) : ∃ a xs, x = .ref a ∧ Sq W.K H a xs ∧ RepL W S H xs ds := by
  unfold sqD at h
  split at h <;> cases h
  · exact RepR.seq (.inl r)
  · exact RepR.seq (.inr r)
theorem w_in (hK : A.W.K = X.K) : OpV X A (compareOp .In) (dIn false) := by
  refine ⟨_, op_in_str.or op_in_seq, fun S env σ H x y d e Qd Q st r1 r2 hf hq => ?_⟩
  have sc : ∀ (k : Bool), Qd (.bl k) → Q (.bl k) H := fun k q => hq _ _ H (Fx.refl st.am) .bl q
  unfold dIn at hf
  split at hf
  · rw [r1.str, r2.str]; exact .inl ⟨_, _, rfl, rfl, sc _ hf⟩
  · unfold dInF at hf
    split at hf
    · rename_i ds hd
      obtain ⟨v, vs, h1, h2, h3⟩ := hf
      obtain ⟨p, xs, rfl, hs, q⟩ := sq_rep r2 hd
      obtain ⟨rfl, f1⟩ := fl_rep r1 h1
      obtain ⟨rfl, f2⟩ := flL_rep q h2
      exact .inr ⟨p, _, rfl, hK ▸ hs, f1, f2, sc _ h3⟩
    · exact hf.elim
theorem w_notIn (hK : A.W.K = X.K) : OpV X A (compareOp .NotIn) (dIn true) := by
  refine ⟨_, op_notIn_str.or op_notIn_seq, fun S env σ H x y d e Qd Q st r1 r2 hf hq => ?_⟩
  have sc : ∀ (k : Bool), Qd (.bl k) → Q (.bl k) H := fun k q => hq _ _ H (Fx.refl st.am) .bl q
  unfold dIn at hf
  split at hf
  · rw [r1.str, r2.str]; exact .inl ⟨_, _, rfl, rfl, sc _ hf⟩
  · unfold dInF at hf
    split at hf
    · rename_i ds hd
      obtain ⟨v, vs, h1, h2, h3⟩ := hf
      obtain ⟨p, xs, rfl, hs, q⟩ := sq_rep r2 hd
      obtain ⟨rfl, f1⟩ := fl_rep r1 h1
      obtain ⟨rfl, f2⟩ := flL_rep q h2
      exact .inr ⟨p, _, rfl, hK ▸ hs, f1, f2, sc _ h3⟩
    · exact hf.elim
/-! None -/
@[simp] def isN : D → Bool
  | .non => true
  | _ => false
theorem isN_rep {W : Wd} {z S : Addr → Prop} {H : Hp} {x : V} {d : D} (r : RepR W z S H x d) : decide (x = .non) = isN d := by
  cases r with
  | rep r => cases r with
    | non => rfl
    | ob _ _ r => cases r <;> rfl
    | fz _ _ r => cases r <;> rfl
    | _ => rfl
  | own _ r _ _ => cases r <;> rfl
@[simp] def dIs (n : Bool) (d e : D) (Q : D → Prop) : Prop := match e with
  | .non => Q (.bl (if n then !isN d else isN d))
  | _ => False
theorem w_is : OpV X A (compareOp .Is) (dIs false) := by
  refine ⟨_, op_isN, fun S env σ H x y d e Qd Q st r1 r2 hf hq => ?_⟩
  unfold dIs at hf
  split at hf
  · exact ⟨r2.non, by rw [isN_rep r1]; exact hq _ _ H (Fx.refl st.am) .bl hf⟩
  · exact hf.elim
theorem w_isNot : OpV X A (compareOp .IsNot) (dIs true) := by
  refine ⟨_, op_notN, fun S env σ H x y d e Qd Q st r1 r2 hf hq => ?_⟩
  unfold dIs at hf
  split at hf
  · exact ⟨r2.non, by rw [isN_rep r1]; exact hq _ _ H (Fx.refl st.am) .bl hf⟩
  · exact hf.elim
end
end Bs
/-! Parts, built-ins, calls over trees. -/
namespace Bs
open PySem PySem.Spec PyProof.Rows L2
section
variable {X : Cx} {A : Am} {E : L2.St → XK} {e a b c : Expr} {es rest : List Expr} {τ τa τb τc : TV D} {τt τu : TV Bool} {τl : TV (List D)} {pos : Pos}
/-! ### parts -/
structure VO (X : Cx) (A : Am) (E : L2.St → XK) (e : Option Expr) (τ : TV (Option Int)) : Prop where
  run : PO X e (LfG A E (fun _ _ x d => x = d) τ)
@[simp] def iOf (d : D) (Q : Option Int → Prop) : Prop := match d with
  | .int i => Q (some i)
  | _ => False
@[simp] def vPart (τ : TV D) : TV (Option Int) := fun env Q R => τ env (fun d => iOf d Q) R
theorem PO.imp {e : Option Expr} {t t' : TO} (h : PO X e t) (i : ∀ σ H Q, t' σ H Q → t σ H Q) : PO X e t' := ⟨fun p s σ H Q I q => h.run p s σ H Q I (i σ H Q q)⟩
@[simp] def vNoPart : TV (Option Int) := fun _ Q _ => Q none
theorem vo_none : VO X A E none vNoPart := ⟨PO.imp po_none fun σ H Q h => by
  obtain ⟨S, env, Qd, Rd, st, h, hq, hr⟩ := h
  exact hq _ _ H (Fx.refl st.am) rfl h⟩
theorem vo (h : VR X A E e τ) : VO X A E (some e) (vPart τ) := ⟨PO.imp (po_some h.run) fun σ H Q h => LfG.one (R2 := fun _ _ x d => x = d) (r := fun (x : V) H (Q : Option Int → Hp → Prop) => ∃ i, x = V.int i ∧ Q (some i) H) (fun S env σ H x d Qd Q st r hf hq => by
  unfold iOf at hf
  split at hf
  · exact ⟨_, r.int, hq _ _ H (Fx.refl st.am) rfl hf⟩
  · exact hf.elim) h⟩
def cutD (ds : List D) (lo hi : Option Int) : List D := (ds.drop (HT.sIx ds.length 0 lo)).take (HT.sIx ds.length ds.length hi - HT.sIx ds.length 0 lo)
theorem RepL.cut {W : Wd} {S : Addr → Prop} {H : Hp} {xs : List V} {ds : List D} (r : RepL W S H xs ds) (lo hi : Option Int) : RepL W S H (cutV xs lo hi) (cutD ds lo hi) := by
  unfold cutV cutD
  rw [r.length]
  exact (r.drop _).take _
@[simp] def dSl (d : D) (lo hi : Option Int) (Q : D → Prop) : Prop := match d with
  | .str z => z.length ≤ sizeLine ∧ Q (.str (cutS z lo hi))
  | .lst ds => Q (.lst (cutD ds lo hi))
  | .tup ds => Q (.tup (cutD ds lo hi))
  | _ => False
@[simp] def vSl (τ : TV D) (τa τb : TV (Option Int)) : TV D := fun env Q R => τ env (fun d => τa env (fun l => τb env (fun u => dSl d l u Q) R) R) R
theorem cut_all {ds : List D} {lo hi : Option Int} (h : HT.sIx ds.length 0 lo = 0 ∧ HT.sIx ds.length ds.length hi = ds.length) : cutD ds lo hi = ds := by
  unfold cutD
  rw [h.1, h.2, List.drop_zero, Nat.sub_zero, List.take_length]
theorem v_sl (hK : A.W.K = X.K) {τx τy : TV (Option Int)} {lo hi : Option Expr} {p2 : Pos} (ha : VR X A E a τa) (hl : VO X A E lo τx) (hu : VO X A E hi τy) : VE X A E (.Subscript a (.Slice lo hi none p2) pos) (vSl τa τx τy) := ⟨PE.imp (pe_slice sl_any ha.run hl.run hu.run) fun σ H Q h => by
  obtain ⟨S, env, Qd, Rd, st, h, hq, hr⟩ := h
  refine ⟨S, env, _, Rd, st, h, fun d x H1 f1 r1 q1 => ⟨S, env, _, Rd, st.fx f1, q1, fun l l' H2 f2 e2 q2 => ⟨S, env, _, Rd, (st.fx f1).fx f2, q2, fun u u' H3 f3 e3 q3 => ?_, fun ex C dd H' f => hr ex C dd H' ((f1.trans f2).trans f)⟩, fun ex C dd H' f => hr ex C dd H' (f1.trans f)⟩, hr⟩
  subst e2
  subst e3
  have st3 := ((st.fx f1).fx f2).fx f3
  have f : Fx A H H3 := (f1.trans f2).trans f3
  have r3 := kept_R S H1 H3 x d st.s0 (f2.trans f3) r1
  unfold dSl at q3
  split at q3
  · rw [r3.str]; exact ⟨q3.1, hq _ _ H3 f .str q3.2⟩
  · obtain ⟨p, xs, rfl, h1, r⟩ := r3.lst
    exact .inl ⟨xs, SqL.of h1, fun l hl => hq _ _ _ (f.trans (st3.new hl)) (st3.mkO hl (.lst (r.cut _ _))) q3⟩
  · obtain ⟨p, xs, rfl, h1, r⟩ := r3.tup
    refine .inr ⟨xs, hK ▸ h1, fun z => ?_, fun _ l hl => hq _ _ _ (f.trans (st3.new hl)) (st3.mkO hl (.tup (r.cut _ _))) q3⟩
    rw [r.length] at z
    rw [cut_all z] at q3
    exact hq _ _ H3 f r3.tupRep q3
  · exact q3.elim⟩
/-! ### built-ins -/
def CallV (X : Cx) (A : Am) (f : Value) (g : List D → (D → Prop) → Prop) : Prop := ∃ r, CallR X f r ∧ ∀ S env σ H xs ds Qd (Q : VK), StR A S env σ H → RepRL A.W A.z S H xs ds → g ds Qd → (∀ d x H', Fx A H H' → Rep A.W S H' x d → Qd d → Q x H') → r xs H Q
@[simp] def vCB (g : List D → (D → Prop) → Prop) (τl : TV (List D)) : TV D := fun env Q R => τl env (fun ds => g ds Q) R
variable {x : Str} {p : Pos} {id T : String} {g : List D → (D → Prop) → Prop}
theorem v_callB (hc : CallV X A (.builtin id) g) (hg : Gl X x) (hm : X.mg x = none) (hv : bootBuiltins x = some (.builtin id)) (ha : VB X A E (e :: es) τl) (hn : x ≠ "__name__" := by decide) (hdb : (x == ("__debug__" : Str)) = false := by decide)
    (he : starEach (e :: es) X.env = (false, eval e X.env) :: starEach es X.env := by rfl) (hpl : (backTo pos (starEach es X.env)).any (·.1) = false := by rfl) : VE X A E (.Call (.Name x p) (e :: es) [] pos) (vCB g τl) := by
  obtain ⟨r, hc, hs⟩ := hc
  exact ⟨PE.imp (pe_callB hc hg hm hv ha.run hn hdb he hpl) fun σ H Q h => LfG.one (fun S env σ H x d Qd Q st r hf hq => hs S env σ H x d Qd Q st r hf hq) h⟩
theorem v_callTy (hc : CallV X A (.type T) g) (hg : Gl X x) (hm : X.mg x = none) (hv : bootBuiltins x = some (.type T)) (ha : VB X A E (e :: es) τl) (hn : x ≠ "__name__" := by decide) (hdb : (x == ("__debug__" : Str)) = false := by decide)
    (he : starEach (e :: es) X.env = (false, eval e X.env) :: starEach es X.env := by rfl) (hpl : (backTo pos (starEach es X.env)).any (·.1) = false := by rfl) : VE X A E (.Call (.Name x p) (e :: es) [] pos) (vCB g τl) := by
  obtain ⟨r, hc, hs⟩ := hc
  exact ⟨PE.imp (pe_callTy hc hg hm hv ha.run hn hdb he hpl) fun σ H Q h => LfG.one (fun S env σ H x d Qd Q st r hf hq => hs S env σ H x d Qd Q st r hf hq) h⟩
section
variable {W : Wd} {z S : Addr → Prop} {H : Hp} {xs : List V}
theorem RepRL.one {d : D} (h : RepRL W z S H xs [d]) : ∃ x, xs = [x] ∧ RepR W z S H x d := by
  cases h with
  | cons r t => cases t; exact ⟨_, rfl, r⟩
theorem RepRL.two {d e : D} (h : RepRL W z S H xs [d, e]) : ∃ x y, xs = [x, y] ∧ RepR W z S H x d ∧ RepR W z S H y e := by
  cases h with
  | cons r t => cases t with
    | cons r2 t => cases t; exact ⟨_, _, rfl, r, r2⟩
end
@[simp] def gLen (ds : List D) (Q : D → Prop) : Prop := match ds with
  | [.str z] => z.length ≤ sizeLine ∧ Q (.int z.length)
  | [.lst l] => Q (.int l.length)
  | [.tup l] => Q (.int l.length)
  | [.dic ks _] => Q (.int ks.length)
  | _ => False
theorem b_lenR : CallR X (.builtin "len") (fun xs H Q => ∃ a kvs, xs = [V.ref a] ∧ Rd H a (.dK kvs) ∧ Q (.int kvs.length) H) := by
  intro pins s σ H xs us Q I r h
  obtain ⟨a, kvs, rfl, ha, q⟩ := h
  cases r with
  | cons r1 t =>
    cases t
    cases r1
    exact d_len I ha fun t s' I' => ⟨.int kvs.length, H, I', ⟨t, rfl⟩, q⟩
theorem w_len (hK : A.W.K = X.K) : CallV X A (.builtin "len") gLen := by
  refine ⟨_, b_len.or b_lenR, fun S env σ H xs ds Qd Q st rr hf hq => ?_⟩
  have sc : ∀ (i : Int), Qd (.int i) → Q (.int i) H := fun i q => hq _ _ H (Fx.refl st.am) .int q
  unfold gLen at hf
  split at hf
  · obtain ⟨x, rfl, r⟩ := rr.one
    rw [r.str]; exact .inl ⟨hf.1, sc _ hf.2⟩
  · obtain ⟨x, rfl, r⟩ := rr.one
    obtain ⟨p, xs, rfl, h1, q1⟩ := r.lst
    exact .inl (.inl ⟨xs, .inl (SqL.of h1), by rw [q1.length]; exact sc _ hf⟩)
  · obtain ⟨x, rfl, r⟩ := rr.one
    obtain ⟨p, xs, rfl, h1, q1⟩ := r.tup
    exact .inl (.inl ⟨xs, .inr (hK ▸ h1), by rw [q1.length]; exact sc _ hf⟩)
  · obtain ⟨x, rfl, r⟩ := rr.one
    obtain ⟨p, kvs, rfl, h1, e, q1⟩ := r.dic
    refine .inr ⟨p, kvs, rfl, h1, ?_⟩
    rw [← e, List.length_map] at hf
    exact sc _ hf
  · exact hf.elim
@[simp] def gInt (ds : List D) (Q : D → Prop) : Prop := match ds with
  | [.int i] => Q (.int i)
  | [.bl k] => Q (.int (if k then 1 else 0))
  | _ => False
theorem w_int : CallV X A (.type "int") gInt := by
  refine ⟨_, b_int, fun S env σ H xs ds Qd Q st rr hf hq => ?_⟩
  unfold gInt at hf
  split at hf
  · obtain ⟨x, rfl, r⟩ := rr.one
    rw [r.int]; exact hq _ _ H (Fx.refl st.am) .int hf
  · obtain ⟨x, rfl, r⟩ := rr.one
    rw [r.bl]; exact hq _ _ H (Fx.refl st.am) .int hf
  · exact hf.elim
@[simp] def gMax (ds : List D) (Q : D → Prop) : Prop := match ds with
  | [.int i, .int j] => Q (.int (if j > i then j else i))
  | _ => False
theorem w_max (hc : X.calm = true) : CallV X A (.builtin "max") gMax := by
  refine ⟨_, b_max hc, fun S env σ H xs ds Qd Q st rr hf hq => ?_⟩
  unfold gMax at hf
  split at hf
  · obtain ⟨x, y, rfl, r, r2⟩ := rr.two
    rw [r.int, r2.int]; exact hq _ _ H (Fx.refl st.am) .int hf
  · exact hf.elim
@[simp] def gMin (ds : List D) (Q : D → Prop) : Prop := match ds with
  | [.int i, .int j] => Q (.int (if j < i then j else i))
  | _ => False
theorem w_min (hc : X.calm = true) : CallV X A (.builtin "min") gMin := by
  refine ⟨_, call_min2 hc, fun S env σ H xs ds Qd Q st rr hf hq => ?_⟩
  unfold gMin at hf
  split at hf
  · obtain ⟨x, y, rfl, r, r2⟩ := rr.two
    rw [r.int, r2.int]; exact ⟨_, _, rfl, hq _ _ H (Fx.refl st.am) .int hf⟩
  · exact hf.elim
@[simp] def gList (ds : List D) (Q : D → Prop) : Prop := match ds with
  | [.lst l] => Q (.lst l)
  | [.tup l] => Q (.lst l)
  | _ => False
theorem w_list (hK : A.W.K = X.K) : CallV X A (.type "list") gList := by
  refine ⟨_, b_list, fun S env σ H xs ds Qd Q st rr hf hq => ?_⟩
  unfold gList at hf
  split at hf
  · obtain ⟨x, rfl, r⟩ := rr.one
    obtain ⟨p, xs, rfl, h1, q1⟩ := r.lst
    exact ⟨xs, .inl (SqL.of h1), fun l hl => hq _ _ _ (st.new hl) (st.mkO hl (.lst q1)) hf⟩
  · obtain ⟨x, rfl, r⟩ := rr.one
    obtain ⟨p, xs, rfl, h1, q1⟩ := r.tup
    exact ⟨xs, .inr (hK ▸ h1), fun l hl => hq _ _ _ (st.new hl) (st.mkO hl (.lst q1)) hf⟩
  · exact hf.elim
/-- list(..) as a new object of the frame's own -/
theorem vf_list (hK : A.W.K = X.K) (hg : Gl X "list") (hm : X.mg "list" = none) (ha : VR X A E e τ) (he : starEach [e] X.env = (false, eval e X.env) :: starEach [] X.env := by rfl) (hpl : (backTo pos (starEach [] X.env)).any (·.1) = false := by rfl) :
    VF X A E (.Call (.Name "list" p) [e] [] pos) (vCB gList (vCons τ vNil)) := ⟨PE.imp (pe_callTy b_list hg hm (by decide +kernel) (vb_cons ha vb_nil he).run (by decide) (by decide) he hpl) fun σ H Q h => by
  obtain ⟨S, env, Qd, Rd, st, h, hq, hr⟩ := h
  refine ⟨S, env, _, Rd, st, h, fun ds xs H1 f1 r1 hf => ?_, hr⟩
  unfold gList at hf
  split at hf
  · obtain ⟨x, rfl, r⟩ := r1.one
    obtain ⟨p, xs, rfl, h1, q1⟩ := r.lst
    exact ⟨xs, .inl (SqL.of h1), fun l hl => hq _ _ _ _ f1 hl (.lst q1) rfl hf⟩
  · obtain ⟨x, rfl, r⟩ := r1.one
    obtain ⟨p, xs, rfl, h1, q1⟩ := r.tup
    exact ⟨xs, .inr (hK ▸ h1), fun l hl => hq _ _ _ _ f1 hl (.lst q1) rfl hf⟩
  · exact hf.elim⟩
@[simp] def gTuple (ds : List D) (Q : D → Prop) : Prop := match ds with
  | [.lst l] => Q (.tup l)
  | [.tup l] => Q (.tup l)
  | _ => False
theorem w_tuple (hK : A.W.K = X.K) : CallV X A (.type "tuple") gTuple := by
  refine ⟨_, call_tuple_of, fun S env σ H xs ds Qd Q st rr hf hq => ?_⟩
  unfold gTuple at hf
  split at hf
  · obtain ⟨x, rfl, r⟩ := rr.one
    obtain ⟨p, xs, rfl, h1, q1⟩ := r.lst
    exact ⟨p, xs, rfl, .inl ⟨SqL.of h1, fun l hl => hq _ _ _ (st.new hl) (st.mkO hl (.tup q1)) hf⟩⟩
  · obtain ⟨x, rfl, r⟩ := rr.one
    obtain ⟨p, xs, rfl, h1, q1⟩ := r.tup
    exact ⟨p, xs, rfl, .inr ⟨hK ▸ h1, hq _ _ H (Fx.refl st.am) r.tupRep hf⟩⟩
  · exact hf.elim
@[simp] def gStr (ds : List D) (Q : D → Prop) : Prop := match ds with
  | [.int i] => i.natAbs.log2 < 1920 ∧ Q (.str (toString i))
  | _ => False
theorem w_str : CallV X A (.type "str") gStr := by
  refine ⟨_, call_str_int, fun S env σ H xs ds Qd Q st rr hf hq => ?_⟩
  unfold gStr at hf
  split at hf
  · obtain ⟨x, rfl, r⟩ := rr.one
    rw [r.int]; exact ⟨_, rfl, hf.1, hq _ _ H (Fx.refl st.am) .str hf.2⟩
  · exact hf.elim
/-! bools, ints, texts in a list -/
def blL : List D → Option (List Bool)
  | [] => some []
  | .bl b :: r => (blL r).map (b :: ·)
  | _ :: _ => none
def inL : List D → Option (List Int)
  | [] => some []
  | .int b :: r => (inL r).map (b :: ·)
  | _ :: _ => none
def stL : List D → Option (List Str)
  | [] => some []
  | .str b :: r => (stL r).map (b :: ·)
  | _ :: _ => none
theorem blL_rep {W : Wd} {S : Addr → Prop} {H : Hp} : ∀ {xs : List V} {ds : List D} {bs : List Bool}, RepL W S H xs ds → blL ds = some bs → xs = bs.map V.bl
  | _, [], _, .nil, h => by cases h; rfl
  | _, d :: ds, bs, .cons r t, h => by
    unfold blL at h
    split at h
    · rename_i e; cases e
    · rename_i b l e
      cases e
      cases h2 : blL ds with
      | none => rw [h2] at h; cases h
      | some q =>
        rw [h2] at h; cases h
        rw [(RepR.rep (z := fun _ => True) r).bl, blL_rep t h2]
        rfl
    · cases h
theorem inL_rep {W : Wd} {S : Addr → Prop} {H : Hp} : ∀ {xs : List V} {ds : List D} {bs : List Int}, RepL W S H xs ds → inL ds = some bs → xs = bs.map V.int
  | _, [], _, .nil, h => by cases h; rfl
  | _, d :: ds, bs, .cons r t, h => by
    unfold inL at h
    split at h
    · rename_i e; cases e
    · rename_i b l e
      cases e
      cases h2 : inL ds with
      | none => rw [h2] at h; cases h
      | some q =>
        rw [h2] at h; cases h
        rw [(RepR.rep (z := fun _ => True) r).int, inL_rep t h2]
        rfl
    · cases h
theorem stL_rep {W : Wd} {S : Addr → Prop} {H : Hp} : ∀ {xs : List V} {ds : List D} {bs : List Str}, RepL W S H xs ds → stL ds = some bs → xs = bs.map V.str
  | _, [], _, .nil, h => by cases h; rfl
  | _, d :: ds, bs, .cons r t, h => by
    unfold stL at h
    split at h
    · rename_i e; cases e
    · rename_i b l e
      cases e
      cases h2 : stL ds with
      | none => rw [h2] at h; cases h
      | some q =>
        rw [h2] at h; cases h
        rw [(RepR.rep (z := fun _ => True) r).str, stL_rep t h2]
        rfl
    · cases h
@[simp] def hAll (ds : List D) (Q : D → Prop) : Prop := match ds with
  | [.lst l] => ∃ bs, blL l = some bs ∧ Q (.bl (bs.all fun b => b))
  | _ => False
theorem w_all (hK : A.W.K = X.K) (hc : X.calm = true) : CallV X A (.builtin "all") hAll := by
  refine ⟨_, cr_all hc, fun S env σ H xs ds Qd Q st rr hf hq => ?_⟩
  unfold hAll at hf
  split at hf
  · obtain ⟨x, rfl, r⟩ := rr.one
    obtain ⟨p, xs, rfl, h1, q1⟩ := r.lst
    obtain ⟨bs, h2, h3⟩ := hf
    exact ⟨p, bs, rfl, by rw [← blL_rep q1 h2]; exact SqL.of h1, hq _ _ H (Fx.refl st.am) .bl h3⟩
  · exact hf.elim
@[simp] def hAny (ds : List D) (Q : D → Prop) : Prop := match ds with
  | [.lst l] => ∃ bs, blL l = some bs ∧ Q (.bl (bs.any fun b => b))
  | _ => False
theorem w_any (hK : A.W.K = X.K) (hc : X.calm = true) : CallV X A (.builtin "any") hAny := by
  refine ⟨_, cr_any hc, fun S env σ H xs ds Qd Q st rr hf hq => ?_⟩
  unfold hAny at hf
  split at hf
  · obtain ⟨x, rfl, r⟩ := rr.one
    obtain ⟨p, xs, rfl, h1, q1⟩ := r.lst
    obtain ⟨bs, h2, h3⟩ := hf
    exact ⟨p, bs, rfl, by rw [← blL_rep q1 h2]; exact SqL.of h1, hq _ _ H (Fx.refl st.am) .bl h3⟩
  · exact hf.elim
@[simp] def gSum (ds : List D) (Q : D → Prop) : Prop := match ds with
  | [.lst l] => ∃ ns, inL l = some ns ∧ Q (.int ns.sum)
  | _ => False
theorem w_sum (hK : A.W.K = X.K) (hc : X.calm = true) : CallV X A (.builtin "sum") gSum := by
  refine ⟨_, cr_sum hc, fun S env σ H xs ds Qd Q st rr hf hq => ?_⟩
  unfold gSum at hf
  split at hf
  · obtain ⟨x, rfl, r⟩ := rr.one
    obtain ⟨p, xs, rfl, h1, q1⟩ := r.lst
    obtain ⟨bs, h2, h3⟩ := hf
    exact ⟨p, bs, rfl, by rw [← inL_rep q1 h2]; exact SqL.of h1, hq _ _ H (Fx.refl st.am) .int h3⟩
  · exact hf.elim
/-! isinstance -/
@[simp] def tyD : D → Option String
  | .non => some "NoneType"
  | .bl _ => some "bool"
  | .int _ => some "int"
  | .str _ => some "str"
  | .lst _ => some "list"
  | .tup _ => some "tuple"
  | .dic _ _ => some "dict"
  | .dit _ _ => some "dict"
  | _ => none
theorem tyD_mem {d : D} {t : String} (h : tyD d = some t) : t ∈ tys := by
  unfold tyD at h
  split at h <;> cases h <;> decide
theorem tyD_X {W : Wd} {z S : Addr → Prop} {H : Hp} {x : V} {d : D} {t : String} (r : RepR W z S H x d) (h : tyD d = some t) : TyX W.K H x (.type t) := by
  have key : ∀ {a : Addr} {o : HO} {d : D}, H a = some o → RepO W S H o d → tyD d = some t → TyX W.K H (.ref a) (.type t) := fun {a o d} h9 r9 e9 => by
    cases r9 with
    | lst _ => cases e9; exact .base (.lst h9)
    | tup _ => cases e9; exact .base (.tup h9)
    | dic _ => cases e9; exact .base (.dK h9)
    | dit _ => cases e9; exact .base (.dT h9)
    | obj _ _ => cases e9
  cases r with
  | rep r => cases r with
    | non => cases h; exact .base .non
    | bl => cases h; exact .base (.bl _)
    | int => cases h; exact .base (.int _)
    | str => cases h; exact .base (.str _)
    | ty => cases h
    | sx _ _ => cases h
    | ob _ e r => exact key e r h
    | fz _ e r => cases r with
      | dic _ => cases h; exact .fDict e
    | kt h1 h2 _ _ _ _ => cases h; exact .kTuple h1 h2
  | own e r _ _ => exact key e r h
@[simp] def gIsi (ds : List D) (Q : D → Prop) : Prop := match ds with
  | [d, .ty c] => ∃ t, tyD d = some t ∧ tys.contains c = true ∧ Q (.bl (isSub t c))
  | _ => False
theorem w_isi (hK : A.W.K = X.K) : CallV X A (.builtin "isinstance") gIsi := by
  refine ⟨_, call_isi, fun S env σ H xs ds Qd Q st rr hf hq => ?_⟩
  unfold gIsi at hf
  split at hf
  · rename_i d c
    obtain ⟨x, y, rfl, r, r2⟩ := rr.two
    rw [r2.ty]
    obtain ⟨t, h1, h2, h3⟩ := hf
    exact ⟨x, .ty c, .type t, .type c, _, rfl, .ty c, hK ▸ tyD_X r h1, kit_ty (kitB_all t (tyD_mem h1) c (by simpa using h2)), hq _ _ H (Fx.refl st.am) .bl h3⟩
  · exact hf.elim
/-- isinstance(x, (T1, T2)): a tuple of types -/
def tyL : List D → Option (List String)
  | [] => some []
  | .ty b :: r => (tyL r).map (b :: ·)
  | _ :: _ => none
theorem v_tyn {n : String} (h : PE X e (tC (.ty n))) : VE X A E e (vC (.ty n)) := .const h fun _ _ => .ty
/-! ### join -/
def dJoin (d e : D) (Q : D → Prop) : Prop := match d, e with
  | .str s, .lst l => ∃ ys, stL l = some ys ∧ (ys.map (·.length)).sum + ys.length * s.length ≤ 16777216 ∧ Q (.str (Txt.join s ys))
  | .str s, .tup l => ∃ ys, stL l = some ys ∧ (ys.map (·.length)).sum + ys.length * s.length ≤ 16777216 ∧ Q (.str (Txt.join s ys))
  | _, _ => False
@[simp] def isStr : D → Prop
  | .str _ => True
  | _ => False
@[simp] def vJoin (τa τb : TV D) : TV D := fun env Q R => τa env (fun d => isStr d ∧ τb env (fun e => dJoin d e Q) R) R
theorem v_join (hK : A.W.K = X.K) {apos : Pos} (ha : VR X A E a τa) (hb : VR X A E b τb) (hs : starEach [b] X.env = [(false, eval b X.env)] := by rfl) (hbase : attributeBase a "join" X.env (eval a X.env) = eval a X.env := by rfl) (hline : (apos.endLine == pos.line) = true := by rfl) :
    VE X A E (.Call (.Attribute a "join" apos) [b] [] pos) (vJoin τa τb) := ⟨PE.imp (pe_join ha.run hb.run hs hbase hline) fun σ H Q h => by
  obtain ⟨S, env, Qd, Rd, st, h, hq, hr⟩ := h
  refine ⟨S, env, _, Rd, st, h, fun d x H1 f1 r1 q1 => ⟨?_, S, env, _, Rd, st.fx f1, q1.2, fun e y H2 f2 r2 q2 => ?_, fun ex C dd H' f => hr ex C dd H' (f1.trans f)⟩, hr⟩
  · have q := q1.1
    unfold isStr at q
    split at q
    · exact ⟨_, r1.str⟩
    · exact q.elim
  · unfold dJoin at q2
    split at q2
    · obtain ⟨ys, h1, h2, h3⟩ := q2
      obtain ⟨p, xs, rfl, h4, r4⟩ := r2.lst
      exact ⟨_, p, ys, r1.str, rfl, .inl (by rw [← stL_rep r4 h1]; exact SqL.of h4), h2, hq _ _ H2 (f1.trans f2) .str h3⟩
    · obtain ⟨ys, h1, h2, h3⟩ := q2
      obtain ⟨p, xs, rfl, h4, r4⟩ := r2.tup
      exact ⟨_, p, ys, r1.str, rfl, .inr (by rw [← stL_rep r4 h1]; exact hK ▸ h4), h2, hq _ _ H2 (f1.trans f2) .str h3⟩
    · exact q2.elim⟩
end
end Bs
/-! Calls of defs, targets, what is walked, comprehensions over trees. -/
namespace Bs
open PySem PySem.Spec PyProof.Rows L2
/-! ### promises over trees -/
def Ext (H H' : Hp) : Prop := ∀ b o, H b = some o → H' b = some o
/-- what a def is worth, over trees -/
abbrev Fd := List D → (D → Prop) → (Exn → Prop) → Prop
def spV (W : Wd) (n : Nat) (f : Fd) : Sp := fun vs H Q E => vs.length = n ∧ ∃ S ds Qd Rx, (∀ a, S a → ∃ o, H a = some o ∧ nt o) ∧ RepL W S H vs ds ∧ f ds Qd Rx ∧
  (∀ d x H', Ext H H' → Rep W S H' x d → Qd d → Q x H') ∧ ∀ ex C dd H', Ext H H' → ExR W H' ex C dd → Rx ex → E C dd H'
section
variable {X : Cx} {A : Am} {E : L2.St → XK} {e a b c : Expr} {es rest : List Expr} {τ τa τb τc : TV D} {τt τu : TV Bool} {τl : TV (List D)} {pos : Pos}
theorem StR.ext {S : Addr → Prop} {env : List Sl} {σ : L2.St} {H H' : Hp} (t : StR A S env σ H) (h : Ext H H') : Fx A H H' := ⟨fun b o e _ _ => h b o e, A.al H _ t.am fun b o e _ => h b o e⟩
@[simp] def vCall (f : Fd) (τl : TV (List D)) : TV D := fun env Q R => τl env (fun ds => f ds Q R) R
theorem spV_of {W : Wd} (hW : A.W = W) {f : Fd} {n : Nat} {S : Addr → Prop} {env : List Sl} {σ : L2.St} {H : Hp} {vs : List V} {ds : List D} {Qd : D → Prop} {Rd : Exn → Prop} {Q : VK} {E' : XK} (st : StR A S env σ H) (hn : vs.length = n) (r : RepL A.W S H vs ds) (h : f ds Qd Rd)
    (hq : ∀ d x H', Fx A H H' → Rep A.W S H' x d → Qd d → Q x H') (hr : ∀ ex C dd H', Fx A H H' → ExR A.W H' ex C dd → Rd ex → E' C dd H') : spV W n f vs H Q E' := by
  subst hW
  exact ⟨hn, S, ds, Qd, Rd, st.dom, r, h, fun d x H' e r q => hq d x H' (st.ext e) r q, fun ex C dd H' e => hr ex C dd H' (st.ext e)⟩
variable {CX : CXT} {k : Nat} {ps : List Str} {f : Fd} {E' : XK} {x : Str} {p : Pos} {ff : Addr} {fd : FuncData} {W : Wd} {n : Nat}
/-- f(e, ..) -/
theorem v_call (F : Fn X.prog X.w X.K X.mg X.base CX k x ps (spV W n f) ff fd) (hW : A.W = W) (hr : Room k X.A) (hg : Gl X x) (hx : Passes CX X E') (hE : ∀ σ C dd H, E σ C dd H → E' C dd H)
    (ha : VA X A E (e :: es) τl) (hn : (e :: es).length = n := by rfl) (hlen : ∀ env Q R, τl env Q R → τl env (fun ds => ds.length = (e :: es).length ∧ Q ds) R) (hdb : (x == ("__debug__" : Str)) = false := by decide) (he : starEach (e :: es) X.env = (false, eval e X.env) :: starEach es X.env := by rfl) (hpl : (backTo pos (starEach es X.env)).any (·.1) = false := by rfl) :
    VE X A E (.Call (.Name x p) (e :: es) [] pos) (vCall f τl) := ⟨PE.imp (fn F hr hg hx ha.run hdb he hpl) fun σ H Q h =>
  LfG.then_ (g := fun (dd : List D) env Q R => dd.length = (e :: es).length ∧ f dd Q R) (r := fun vs σ H1 Q => spV W n f vs H1 Q E') (fun S env σ H vs ds Qd Rd Q st r hg hq hr => by
    exact spV_of hW st (by rw [r.length, hg.1]; exact hn) r hg.2 hq fun ex C dd H' f h i => hE σ C dd H' (hr ex C dd H' f h i)) (LfG.imp (fun env Q R h => hlen env _ R h) h)⟩
end
/-! ### targets -/
/-- a target: which slots it stores, what it makes of them -/
def VG (X : Cx) (A : Am) (tg : Expr) (idx : List Nat) (γ : D → List Sl → (List Sl → Prop) → Prop) : Prop := ∃ g, PG X tg g ∧ ∀ S env σ H x d Qe (Q : L2.St → Hp → Prop), StR A S env σ H → Rep A.W S H x d → γ d env Qe →
  (∀ env' σ', StR A S env' σ' H → (∀ vs : List Nat, (∀ i ∈ idx, i ∈ vs) → wipe σ' vs = wipe σ vs) → Qe env' → Q σ' H) → g x σ H Q
@[simp] def gSet (i : Nat) : D → List Sl → (List Sl → Prop) → Prop := fun d env Q => Q (env.set i (.sh d))
theorem set_get {α : Type} {l : List α} {i j : Nat} {x y : α} (h : (l.set i x)[j]? = some y) : (i = j ∧ y = x) ∨ (i ≠ j ∧ l[j]? = some y) := by
  by_cases e : i = j
  · subst e
    by_cases hi : i < l.length
    · rw [List.getElem?_set_self hi] at h; exact .inl ⟨rfl, (Option.some.inj h).symm⟩
    · rw [List.getElem?_eq_none (by rw [List.length_set]; omega)] at h; cases h
  · rw [List.getElem?_set_ne e] at h; exact .inr ⟨e, h⟩
section
variable {A : Am} {S : Addr → Prop} {H H' : Hp} {env : List Sl} {σ : L2.St}
theorem StR.set (t : StR A S env σ H) {x : V} {d : D} (i : Nat) (r : Rep A.W S H x d) : StR A S (env.set i (.sh d)) (σ.set i (some x)) H where
  len := by rw [List.length_set, List.length_set]; exact t.len
  sl := by
    obtain ⟨q, hs, ha⟩ := t.sl
    refine ⟨q, fun j e o h1 h2 => ?_, fun j l e e' hn h1 h2 o1 o2 => ?_⟩
    · rcases set_get h1 with ⟨rfl, rfl⟩ | ⟨n1, h1⟩
      · rcases set_get h2 with ⟨_, rfl⟩ | ⟨n2, _⟩
        · exact .sh r
        · exact absurd rfl n2
      · rcases set_get h2 with ⟨e2, _⟩ | ⟨_, h2⟩
        · exact absurd e2 n1
        · exact hs j e o h1 h2
    · rcases set_get h1 with ⟨_, rfl⟩ | ⟨n1, h1⟩
      · cases o1
      rcases set_get h2 with ⟨_, rfl⟩ | ⟨n2, h2⟩
      · cases o2
      exact ha j l e e' hn h1 h2 o1 o2
  s0 := t.s0
  dom := t.dom
  base := t.base
  am := t.am
theorem wipe_in (σ : L2.St) {i : Nat} {x : Option V} : ∀ {vs : List Nat}, i ∈ vs → wipe (σ.set i x) vs = wipe σ vs
  | v :: vs, h => by
    unfold wipe
    by_cases hv : i ∈ vs
    · rw [wipe_in σ hv]
    · rcases List.mem_cons.mp h with e | h
      · subst e
        have key : ∀ (σ : L2.St) (vs : List Nat), i ∉ vs → wipe (σ.set i x) vs = (wipe σ vs).set i x := by
          intro σ vs hv
          induction vs with
          | nil => rfl
          | cons w ws ih =>
            unfold wipe
            have hw : i ∉ ws := fun z => hv (List.mem_cons_of_mem _ z)
            have hn : i ≠ w := fun z => hv (by rw [z]; exact List.mem_cons_self)
            rw [ih hw, List.set_comm _ _ hn]
        rw [key σ vs hv, List.set_set]
      · exact absurd h hv
end
section
variable {X : Cx} {A : Am} {E : L2.St → XK} {pos : Pos}
theorem vg_name {i : Nat} {x : Str} (hN : X.N.Nodup) (hi : X.N[i]? = some x) (hx : Loc X.env.scope x) (hf : X.fn x = true ∨ X.env.scope.names.lookup x = some .local := by first | exact .inl rfl | exact .inr rfl | assumption) : VG X A (.Name x pos) [i] (gSet i) :=
  ⟨_, pg_name (pos := pos) hN hi hx hf, fun S env σ H x d Qe Q st r h k => k _ _ (st.set i r) (fun vs hv => wipe_in σ (hv i List.mem_cons_self)) h⟩
/-- several targets -/
def VGs (X : Cx) (A : Am) (tgs : List Expr) (idx : List Nat) (γ : List D → List Sl → (List Sl → Prop) → Prop) : Prop := ∃ g, PGs X tgs g ∧ ∀ S env σ H xs ds Qe (Q : L2.St → Hp → Prop), StR A S env σ H → RepL A.W S H xs ds → γ ds env Qe →
  (∀ env' σ', StR A S env' σ' H → (∀ vs : List Nat, (∀ i ∈ idx, i ∈ vs) → wipe σ' vs = wipe σ vs) → Qe env' → Q σ' H) → g xs σ H Q
@[simp] def gsNil : List D → List Sl → (List Sl → Prop) → Prop := fun ds env Q => ds = [] ∧ Q env
@[simp] def gsCons (γ : D → List Sl → (List Sl → Prop) → Prop) (γs : List D → List Sl → (List Sl → Prop) → Prop) : List D → List Sl → (List Sl → Prop) → Prop := fun ds env Q => match ds with
  | d :: r => γ d env fun env1 => γs r env1 Q
  | [] => False
theorem vgs_nil : VGs X A [] [] gsNil := ⟨_, pgs_nil, fun S env σ H xs ds Qe Q st r h k => by
  obtain ⟨rfl, h⟩ := h
  cases r
  exact ⟨rfl, k env σ st (fun _ _ => rfl) h⟩⟩
theorem vgs_cons {tg : Expr} {tgs : List Expr} {idx idx' : List Nat} {γ : D → List Sl → (List Sl → Prop) → Prop} {γs : List D → List Sl → (List Sl → Prop) → Prop} (h1 : VG X A tg idx γ) (h2 : VGs X A tgs idx' γs) (hs : List.map (fun x => x.snd) (assignEach (tg :: tgs) X.env) = assign tg X.env :: List.map (fun x => x.snd) (assignEach tgs X.env) := by rfl) : VGs X A (tg :: tgs) (idx ++ idx') (gsCons γ γs) := by
  obtain ⟨g, p1, q1⟩ := h1
  obtain ⟨gs, p2, q2⟩ := h2
  refine ⟨_, pgs_cons p1 p2 hs, fun S env σ H xs ds Qe Q st r h k => ?_⟩
  cases r with
  | nil => exact h.elim
  | cons r t =>
    refine ⟨_, _, rfl, q1 S env σ H _ _ _ _ st r h fun env1 σ1 st1 w1 h1 => ?_⟩
    exact q2 S env1 σ1 H _ _ _ _ st1 t h1 fun env2 σ2 st2 w2 h2 => k env2 σ2 st2 (fun vs hv => (w2 vs fun i hi => hv i (List.mem_append_right _ hi)).trans (w1 vs fun i hi => hv i (List.mem_append_left _ hi))) h2
@[simp] def gTupD (n : Nat) (γs : List D → List Sl → (List Sl → Prop) → Prop) : D → List Sl → (List Sl → Prop) → Prop := fun d env Q => match sqD d with
  | some ds => ds.length = n ∧ γs ds env Q
  | none => False
theorem vg_tup (hK : A.W.K = X.K) {es : List Expr} {k : Nat} {n : Nat} {idx : List Nat} {γs : List D → List Sl → (List Sl → Prop) → Prop} (hc : X.calm = true) (h : VGs X A es idx γs)
    (hn : (assignEach es X.env).length = n := by rfl) (hst : (assignEach es X.env).findIdx? (·.1) = none := by rfl) : VG X A (.Tuple es k pos) idx (gTupD n γs) := by
  obtain ⟨g, p, q⟩ := h
  refine ⟨_, pg_any hc p hn hst, fun S env σ H x d Qe Q st r h k => ?_⟩
  unfold gTupD at h
  split at h
  · rename_i ds hd
    obtain ⟨a, xs, rfl, hs, r⟩ := sq_rep (z := A.z) (.rep r) hd
    exact ⟨xs, hK ▸ hs, by rw [r.length]; exact h.1, q S env σ H xs ds Qe Q st r h.2 k⟩
  · exact h.elim
end
/-! ### what is walked -/
/-- it yields these trees, whatever the walk around does -/
def Yields (A : Am) (J : It) (S : Addr → Prop) (H : Hp) (ds : List D) : Prop := ∃ (n : Nat) (G : Hp → Prop) (Y : Nat → Hp → V → Hp → Prop), n = ds.length ∧ Walk J n G Y ∧ (∀ S' H', Mn S H S' H' → G H') ∧
  ∀ i S' env σ H' x H2, i < n → StR A S' env σ H' → Mn S H S' H' → Y i H' x H2 → ∃ d, ds[i]? = some d ∧ Fx A H' H2 ∧ Rep A.W S' H2 x d
structure VI (X : Cx) (A : Am) (E : L2.St → XK) (tg iter : Expr) (τ : TV (List D)) : Prop where
  run : PI X tg iter fun σ H R => ∃ S env Qd Rd, StR A S env σ H ∧ τ env Qd Rd ∧ (∀ ds J H', Fx A H H' → Yields A J S H' ds → Qd ds → R J H') ∧ ∀ ex C dd H', Fx A H H' → ExR A.W H' ex C dd → Rd ex → E σ C dd H'
theorem PI.imp {X : Cx} {tg iter : Expr} {t t' : TI} (h : PI X tg iter t) (i : ∀ σ H R, t' σ H R → t σ H R) : PI X tg iter t' := ⟨fun p s σ H R I q => h.run p s σ H R I (i σ H R q)⟩
section
variable {X : Cx} {A : Am} {E : L2.St → XK} {e a b c tg : Expr} {es rest : List Expr} {τ τa τb τc : TV D} {τt τu : TV Bool} {τl : TV (List D)} {pos : Pos}
@[simp] def dItems (d : D) (Q : List D → Prop) : Prop := match d with
  | .lst ds => Q ds
  | .tup ds => Q ds
  | .str z => Q (z.cps.toList.map fun c => .str (one c))
  | _ => False
theorem Mn.lst {S S' : Addr → Prop} {H H' : Hp} {a : Addr} {xs : List V} (m : Mn S H S' H') (hs : ¬ S a) (h : H a = some (.lst xs)) : H' a = some (.lst xs) := by
  obtain ⟨_, o, e, c⟩ := m a _ hs h trivial
  rw [core_of (show core o = .lst xs from c) rfl] at e
  exact e
theorem Mn.tup {S S' : Addr → Prop} {H H' : Hp} {a : Addr} {xs : List V} (m : Mn S H S' H') (hs : ¬ S a) (h : H a = some (.tup xs)) : H' a = some (.tup xs) := by
  obtain ⟨_, o, e, c⟩ := m a _ hs h trivial
  rw [core_of (show core o = .tup xs from c) rfl] at e
  exact e
/-- a tree's own list, where it stands -/
theorem Rep.lstS {W : Wd} {S : Addr → Prop} {H : Hp} {x : V} {ds : List D} (r : Rep W S H x (.lst ds)) : ∃ a xs, x = .ref a ∧ ¬ S a ∧ H a = some (.lst xs) ∧ RepL W S H xs ds := by
  cases r with
  | ob hs h r => cases r with
    | lst r => exact ⟨_, _, rfl, hs, h, r⟩
  | fz _ _ r => cases r
theorem Rep.tupS {W : Wd} {S : Addr → Prop} {H : Hp} {x : V} {ds : List D} (r : Rep W S H x (.tup ds)) : ∃ a xs, x = .ref a ∧ RepL W S H xs ds ∧ SqT W.K H a xs ∧ ∀ S' H', Mn S H S' H' → SqT W.K H' a xs := by
  cases r with
  | ob hs h r => cases r with
    | tup r => exact ⟨_, _, rfl, r, SqT.of h, fun S' H' m => SqT.of (m.tup hs h)⟩
  | fz _ _ r => cases r
  | kt h1 h2 h3 h4 h5 r => exact ⟨_, _, rfl, r, .inr ⟨_, _, _, h1, h2, h3, h4, h5⟩, fun S' H' m => .inr ⟨_, _, _, h1, h2, h3, h4, h5⟩⟩
theorem y_list {S : Addr → Prop} {H : Hp} {p : Addr} {xs : List V} {ds : List D} (hK : A.W.K = X.K) (hs : ¬ S p) (h : H p = some (.lst xs)) (r : RepL A.W S H xs ds) : Yields A (Itl X.K p) S H ds :=
  ⟨xs.length, _, _, r.length, walk_list, fun S' H' m => SqL.of (m.lst hs h), fun i S' env σ H' x H2 hi st m y => by
    obtain ⟨rfl, hx⟩ := y
    obtain ⟨d, hd, rd⟩ := (r.mono m).get' hx
    exact ⟨d, hd, Fx.refl st.am, rd⟩⟩
theorem y_tup {S : Addr → Prop} {H : Hp} {p : Addr} {xs : List V} {ds : List D} (hk : ∀ S' H', Mn S H S' H' → SqT X.K H' p xs) (r : RepL A.W S H xs ds) : Yields A (Itt X.K p) S H ds :=
  ⟨xs.length, _, _, r.length, walk_tup, fun S' H' m => hk S' H' m, fun i S' env σ H' x H2 hi st m y => by
    obtain ⟨rfl, hx⟩ := y
    obtain ⟨d, hd, rd⟩ := (r.mono m).get' hx
    exact ⟨d, hd, Fx.refl st.am, rd⟩⟩
theorem y_str {S : Addr → Prop} {H : Hp} {z : Str} : Yields A (Its z) S H (z.cps.toList.map fun c => .str (one c)) :=
  ⟨z.cps.size, _, _, by simp, walk_str, fun S' H' m => trivial, fun i S' env σ H' x H2 hi st m y => by
    obtain ⟨rfl, c, hc, rfl⟩ := y
    refine ⟨.str (one c), ?_, Fx.refl st.am, .str⟩
    rw [List.getElem?_map]
    have : z.cps.toList[i]? = some c := by simpa using hc
    rw [this]
    rfl⟩
@[simp] def vIter (τ : TV D) : TV (List D) := fun env Q R => τ env (fun d => dItems d Q) R
theorem vi (hK : A.W.K = X.K) (h : VE X A E a τa) : VI X A E tg a (vIter τa) := ⟨PI.imp (pi_any h.run) fun σ H R hh => by
  obtain ⟨S, env, Qd, Rd, st, hh, hq, hr⟩ := hh
  refine ⟨S, env, _, Rd, st, hh, fun d x H1 f1 r1 q1 => ?_, hr⟩
  unfold dItems at q1
  split at q1
  · obtain ⟨p, xs, rfl, hs, h1, r⟩ := r1.lstS
    exact .inl ⟨⟨xs, SqL.of h1⟩, hq _ _ H1 f1 (y_list hK hs h1 r) q1⟩
  · obtain ⟨p, xs, rfl, r, h1, hk⟩ := r1.tupS
    exact .inr ⟨⟨xs, hK ▸ h1⟩, hq _ _ H1 f1 (y_tup (fun S' H' m => hK ▸ hk S' H' m) r) q1⟩
  · rw [(RepR.rep (z := A.z) r1).str]
    exact hq _ _ H1 f1 y_str q1
  · exact q1.elim⟩
/-! range -/
def rngD (lo : Int) (n : Nat) : List D := (List.range n).map fun (i : Nat) => D.int (lo + (i : Int))
@[simp] def dRng1 (d : D) (Q : List D → Prop) : Prop := match d with
  | .int j => -(2 ^ 62) ≤ j ∧ j < 2 ^ 62 ∧ Q (rngD 0 j.toNat)
  | _ => False
@[simp] def dRng2 (d e : D) (Q : List D → Prop) : Prop := match d, e with
  | .int i, .int j => (-(2 ^ 62) ≤ i ∧ i < 2 ^ 62 ∧ -(2 ^ 62) ≤ j ∧ j < 2 ^ 62) ∧ Q (rngD i (j - i).toNat)
  | _, _ => False
@[simp] def vRng1 (τ : TV D) : TV (List D) := fun env Q R => τ env (fun d => dRng1 d Q) R
@[simp] def vRng2 (τa τb : TV D) : TV (List D) := fun env Q R => τa env (fun d => τb env (fun e => dRng2 d e Q) R) R
/-- what is asked of one argument, of two -/
@[simp] def one1 (q : D → Prop) : List D → Prop
  | [d] => q d
  | _ => False
@[simp] def two2 (q : D → D → Prop) : List D → Prop
  | [d, e] => q d e
  | _ => False
theorem one1_of {W : Wd} {z S : Addr → Prop} {H : Hp} {xs : List V} {ds : List D} {q : D → Prop} (h : one1 q ds) (r : RepRL W z S H xs ds) : ∃ x d, xs = [x] ∧ RepR W z S H x d ∧ q d := by
  unfold one1 at h
  split at h
  · obtain ⟨x, rfl, r'⟩ := r.one
    exact ⟨x, _, rfl, r', h⟩
  · exact h.elim
theorem two2_of {W : Wd} {z S : Addr → Prop} {H : Hp} {xs : List V} {ds : List D} {q : D → D → Prop} (h : two2 q ds) (r : RepRL W z S H xs ds) : ∃ x y d e, xs = [x, y] ∧ RepR W z S H x d ∧ RepR W z S H y e ∧ q d e := by
  unfold two2 at h
  split at h
  · obtain ⟨x, y, rfl, r', r2⟩ := r.two
    exact ⟨x, y, _, _, rfl, r', r2, h⟩
  · exact h.elim
theorem y_rng {S : Addr → Prop} {H : Hp} {lo : Int} {n : Nat} : Yields A (Itr lo n) S H (rngD lo n) :=
  ⟨n, _, _, by unfold rngD; rw [List.length_map, List.length_range], walk_range, fun S' H' m => trivial, fun i S' env σ H' x H2 hi st m y => by
    obtain ⟨rfl, rfl⟩ := y
    refine ⟨.int (lo + i), ?_, Fx.refl st.am, .int⟩
    unfold rngD
    rw [List.getElem?_map, List.getElem?_range hi]
    rfl⟩
theorem vi_rng1 {p : Pos} (hg : Gl X "range") (hm : X.mg "range" = none) (ha : VR X A E a τa) (hs : starEach [a] X.env = (false, eval a X.env) :: starEach [] X.env := by rfl) : VI X A E tg (.Call (.Name "range" p) [a] [] pos) (vRng1 τa) :=
  ⟨PI.imp (pi_range1 hg hm (vb_cons ha vb_nil hs).run hs) fun σ H R hh => by
    obtain ⟨S, env, Qd, Rd, st, hh, hq, hr⟩ := hh
    refine ⟨S, env, one1 fun d => dRng1 d Qd, Rd, st, hh, fun ds xs H1 f1 r1 q1 => ?_, hr⟩
    obtain ⟨x, d, rfl, r, q⟩ := one1_of q1 r1
    unfold dRng1 at q
    split at q
    · exact ⟨_, by rw [r.int], q.1, q.2.1, hq _ _ H1 f1 y_rng q.2.2⟩
    · exact q.elim⟩
theorem vi_rng2 {p : Pos} (hg : Gl X "range") (hm : X.mg "range" = none) (ha : VR X A E a τa) (hb : VR X A E b τb) (hs : starEach [a, b] X.env = (false, eval a X.env) :: starEach [b] X.env := by rfl) (hs2 : starEach [b] X.env = (false, eval b X.env) :: starEach [] X.env := by rfl) :
    VI X A E tg (.Call (.Name "range" p) [a, b] [] pos) (vRng2 τa τb) :=
  ⟨PI.imp (pi_range2 hg hm (vb_cons ha (vb_cons hb vb_nil hs2) hs).run (hs.trans (by rw [hs2]; rfl)) hs2) fun σ H R hh => by
    obtain ⟨S, env, Qd, Rd, st, hh, hq, hr⟩ := hh
    refine ⟨S, env, two2 fun d e => dRng2 d e Qd, Rd, st, hh, fun ds xs H1 f1 r1 q1 => ?_, hr⟩
    obtain ⟨x, y, d, e, rfl, r, r2, q⟩ := two2_of q1 r1
    unfold dRng2 at q
    split at q
    · exact ⟨_, _, by rw [r.int, r2.int], q.1, hq _ _ H1 f1 y_rng q.2⟩
    · exact q.elim⟩
/-! enumerate, zip -/
def enumD : Nat → List D → List D
  | _, [] => []
  | i, d :: ds => .tup [.int (i : Int), d] :: enumD (i + 1) ds
theorem enumD_get : ∀ (ds : List D) (k i : Nat), (enumD k ds)[i]? = ds[i]?.map fun d => D.tup [.int ((k + i : Nat) : Int), d]
  | [], _, _ => by simp [enumD]
  | d :: ds, k, 0 => by simp [enumD]
  | d :: ds, k, i + 1 => by
    show (enumD (k + 1) ds)[i]? = _
    rw [enumD_get ds (k + 1) i, show k + 1 + i = k + (i + 1) by omega]
    simp
theorem enumD_len : ∀ (ds : List D) (k : Nat), (enumD k ds).length = ds.length
  | [], _ => rfl
  | d :: ds, k => by simp [enumD, enumD_len ds]
/-- a new pair -/
theorem pair_new {S : Addr → Prop} {env : List Sl} {σ : L2.St} {H : Hp} {T : Addr} {x y : V} {d e : D} (st : StR A S env σ H) (hT : H T = none) (r1 : Rep A.W S H x d) (r2 : Rep A.W S H y e) :
    Fx A H (upd H T (.tup [x, y])) ∧ Rep A.W S (upd H T (.tup [x, y])) (.ref T) (.tup [d, e]) := ⟨st.new hT, st.mkO hT (.tup (.cons r1 (.cons r2 .nil)))⟩
theorem y_enum {S : Addr → Prop} {H : Hp} {p : Addr} {xs : List V} {ds : List D} (hs : ¬ S p) (h : H p = some (.lst xs)) (r : RepL A.W S H xs ds) : Yields A (Ite X.K p) S H (enumD 0 ds) :=
  ⟨xs.length, _, _, by rw [enumD_len]; exact r.length, walk_enum, fun S' H' m => SqL.of (m.lst hs h), fun i S' env σ H' x H2 hi st m y => by
    obtain ⟨T, u, v, rfl, hT, rfl, hu, hv⟩ := y
    cases hu
    obtain ⟨d, hd, rd⟩ := (r.mono m).get' hv
    obtain ⟨f, q⟩ := pair_new st hT (.int (i := (i : Int))) rd
    refine ⟨_, ?_, f, q⟩
    rw [enumD_get, hd, Nat.zero_add]
    rfl⟩
@[simp] def lstOf (d : D) (Q : List D → Prop) : Prop := match d with
  | .lst ds => Q ds
  | _ => False
@[simp] def vEnum (τ : TV D) : TV (List D) := fun env Q R => τ env (fun d => lstOf d fun ds => Q (enumD 0 ds)) R
inductive RepVL (W : Wd) (S : Addr → Prop) (H : Hp) : List V → List D → Prop
theorem va_one {d : D} {W : Wd} {S : Addr → Prop} {H : Hp} {xs : List V} {ds : List D} {q : D → Prop} (h : one1 q ds) (r : RepL W S H xs ds) : ∃ x d, xs = [x] ∧ Rep W S H x d ∧ q d := by
  unfold one1 at h
  split at h
  · cases r with
    | cons r t => cases t; exact ⟨_, _, rfl, r, h⟩
  · exact h.elim
theorem va_two {W : Wd} {S : Addr → Prop} {H : Hp} {xs : List V} {ds : List D} {q : D → D → Prop} (h : two2 q ds) (r : RepL W S H xs ds) : ∃ x y d e, xs = [x, y] ∧ Rep W S H x d ∧ Rep W S H y e ∧ q d e := by
  unfold two2 at h
  split at h
  · cases r with
    | cons r t => cases t with
      | cons r2 t => cases t; exact ⟨_, _, _, _, rfl, r, r2, h⟩
  · exact h.elim
theorem vi_enum {p : Pos} {elts : List Expr} {kk : Nat} {tpos : Pos} (hg : Gl X "enumerate") (hm : X.mg "enumerate" = none) (ha : VE X A E a τa) (hs : starEach [a] X.env = (false, eval a X.env) :: starEach [] X.env := by rfl) : VI X A E (.Tuple elts kk tpos) (.Call (.Name "enumerate" p) [a] [] pos) (vEnum τa) :=
  ⟨PI.imp (pi_enum hg hm (va_cons ha va_nil hs).run (hs := hs)) fun σ H R hh => by
    obtain ⟨S, env, Qd, Rd, st, hh, hq, hr⟩ := hh
    refine ⟨S, env, one1 fun d => lstOf d fun ds => Qd (enumD 0 ds), Rd, st, hh, fun ds xs H1 f1 r1 q1 => ?_, hr⟩
    obtain ⟨x, d, rfl, r, q⟩ := va_one (d := .non) q1 r1
    unfold lstOf at q
    split at q
    · obtain ⟨p, xs, rfl, hs, h1, r⟩ := r.lstS
      exact ⟨p, xs, rfl, SqL.of h1, hq _ _ H1 f1 (y_enum hs h1 r) q⟩
    · exact q.elim⟩
def zipD : List D → List D → List D
  | d :: ds, e :: es => .tup [d, e] :: zipD ds es
  | _, _ => []
theorem zipD_get : ∀ (ds es : List D) (i : Nat) (d e : D), ds[i]? = some d → es[i]? = some e → (zipD ds es)[i]? = some (.tup [d, e])
  | [], _, _, _, _, h, _ => by simp at h
  | _ :: _, [], _, _, _, _, h => by simp at h
  | d :: ds, e :: es, 0, _, _, h, h2 => by simp at h h2; subst h; subst h2; rfl
  | d :: ds, e :: es, i + 1, _, _, h, h2 => by
    show (zipD ds es)[i]? = _
    exact zipD_get ds es i _ _ (by simpa using h) (by simpa using h2)
theorem zipD_len : ∀ (ds es : List D), (zipD ds es).length = min ds.length es.length
  | [], _ => by simp [zipD]
  | _ :: _, [] => by simp [zipD]
  | d :: ds, e :: es => by simp [zipD, zipD_len ds es]
end
end Bs
/-! Statements, comprehensions, defs over trees. -/
namespace Bs
open PySem PySem.Spec PyProof.Rows L2
structure VEnds where
  nx : List Sl → Prop
  rt : D → Prop
  bk : List Sl → Prop := fun _ => False
  ct : List Sl → Prop := fun _ => False
  ex : Exn → Prop
  rf : D → Prop := rt
abbrev VTS := VEnds → List Sl → Prop
/-- what a def keeps -/
structure Bf (A : Am) (H : Hp) : Prop where
  base : ∀ b o, A.H0 b = some o → ¬ A.z b → A.k o → H b = some o
  am : A.am H
theorem StR.bf {A : Am} {S : Addr → Prop} {env : List Sl} {σ : L2.St} {H : Hp} (t : StR A S env σ H) : Bf A H := ⟨t.base, t.am⟩
structure EndsR (A : Am) (E : L2.St → XK) (S : Addr → Prop) (H : Hp) (V : VEnds) (De : Ends) : Prop where
  nx : ∀ S' env' σ' H', StR A S' env' σ' H' → Mn S H S' H' → V.nx env' → De.nx σ' H'
  bk : ∀ S' env' σ' H', StR A S' env' σ' H' → Mn S H S' H' → V.bk env' → De.bk σ' H'
  ct : ∀ S' env' σ' H', StR A S' env' σ' H' → Mn S H S' H' → V.ct env' → De.ct σ' H'
  rt : ∀ d x H', Bf A H' → Rep A.W A.S0 H' x d → V.rt d → De.rt x H'
  ex : ∀ ex C dd σ' H', Bf A H' → ExR A.W H' ex C dd → V.ex ex → E σ' C dd H'
  rf : ∀ d o p H', Bf A H' → (∀ u, A.H0 p = some u → A.k u → False) → ¬ A.S0 p → H' p = none → RepO A.W A.S0 H' o d → dataO o = true → V.rf d → De.rt (.ref p) (upd H' p o)
def LS (A : Am) (E : L2.St → XK) (τ : VTS) : TS := fun De σ H => ∃ S env V, StR A S env σ H ∧ τ V env ∧ EndsR A E S H V De
structure VS (X : Cx) (A : Am) (E : L2.St → XK) (st : Stmt) (τ : VTS) : Prop where
  run : PS X st (LS A E τ)
structure VSs (X : Cx) (A : Am) (E : L2.St → XK) (sts : List Stmt) (τ : VTS) : Prop where
  run : PSs X sts (LS A E τ)
theorem PS.imp {X : Cx} {st : Stmt} {t t' : TS} (h : PS X st t) (i : ∀ D σ H, t' D σ H → t D σ H) : PS X st t' := ⟨fun p s σ H D I q => h.run p s σ H D I (i D σ H q)⟩
theorem PSs.imp {X : Cx} {st : List Stmt} {t t' : TS} (h : PSs X st t) (i : ∀ D σ H, t' D σ H → t D σ H) : PSs X st t' := ⟨fun p s σ H D I q => h.run p s σ H D I (i D σ H q)⟩
theorem set_lt {α : Type} {l : List α} {i : Nat} {x y : α} (h : (l.set i x)[i]? = some y) : i < l.length := by
  have := (List.getElem?_eq_some_iff.mp h).1
  rwa [List.length_set] at this
section
variable {A : Am} {E : L2.St → XK} {S S' : Addr → Prop} {env : List Sl} {σ : L2.St} {H H' : Hp} {Vn : VEnds} {De : Ends}
theorem EndsR.from_ (h : EndsR A E S H Vn De) (m : Mn S H S' H') : EndsR A E S' H' Vn De :=
  ⟨fun S2 e2 s2 H2 t m2 q => h.nx S2 e2 s2 H2 t (m.trans m2) q, fun S2 e2 s2 H2 t m2 q => h.bk S2 e2 s2 H2 t (m.trans m2) q, fun S2 e2 s2 H2 t m2 q => h.ct S2 e2 s2 H2 t (m.trans m2) q, h.rt, h.ex, h.rf⟩
theorem Rep.s0 {x : V} {d : D} (t : StR A S env σ H) (r : Rep A.W S H x d) : Rep A.W A.S0 H x d := r.mono fun b o hs e _ => ⟨fun z => hs (t.s0 b z), o, e, rfl⟩
/-- a new object that the frame alone holds goes into a slot -/
theorem StR.own (t : StR A S env σ H) {p : Addr} {o : HO} {d : D} (i : Nat) (hp : H p = none) (r : RepO A.W S H o d) (mu : dataO o = true) :
    StR A (fun b => S b ∨ b = p) (env.set i (.ow d)) (σ.set i (some (.ref p))) (upd H p o) ∧ Mn S H (fun b => S b ∨ b = p) (upd H p o) := by
  have nS := t.notS hp
  have ex : ∀ b o', H b = some o' → upd H p o b = some o' := fun b o' e => by rw [upd_ne (ne_of_none e hp)]; exact e
  have m : Mn S H (fun b => S b ∨ b = p) (upd H p o) := fun b o' hs e _ => ⟨fun z => z.elim hs fun z => ne_of_none e hp z, o', ex b o' e, rfl⟩
  have hz : ¬ A.z p := fun z => nS (t.s0 p (A.zs p z))
  obtain ⟨q, hs, hap⟩ := t.sl
  have keep : ∀ {j : Nat} {e : Sl} {u : Option L2.V}, SlR A S H (q j) u e → SlR A (fun b => S b ∨ b = p) (upd H p o) (q j) u e := fun {j e u} h => by
    cases h with
    | no => exact .no
    | sh r => exact .sh (r.mono m)
    | ow w => exact .ow (w.step (.inl w.s) m fun u e => ex _ u e)
    | ot e z w => exact .ot (ex _ _ e) (fun y => y.elim z fun y => ne_of_none e hp y) (w.step (.inl w.s) m fun u e => ex _ u e)
    | st z => exact .st z
  have oneq : ∀ {j : Nat} {e : Sl} {u : Option L2.V}, SlR A S H (q j) u e → hasOwn e = true → q j ≠ p := fun {j e u} h ho z => by
    cases h with
    | ow w => exact nS (z ▸ w.s)
    | ot _ _ w => exact nS (z ▸ w.s)
    | _ => cases ho
  have at_ : ∀ {j : Nat} {e : Sl}, env[j]? = some e → ∃ u, σ[j]? = some u := fun {j e} h => by
    have hj : j < σ.length := by rw [← t.len]; exact (List.getElem?_eq_some_iff.mp h).1
    exact ⟨_, List.getElem?_eq_getElem hj⟩
  refine ⟨⟨by rw [List.length_set, List.length_set]; exact t.len, ⟨fun j => if j = i then p else q j, fun j e u h1 h2 => ?_, fun j l e e' hn h1 h2 o1 o2 => ?_⟩, fun a ha => .inl (t.s0 a ha), fun a ha => ?_, fun b u e z n => ex b u (t.base b u e z n), A.al H _ t.am fun b u e _ => ex b u e⟩, m⟩
  · show SlR A _ _ (if j = i then p else q j) u e
    rcases set_get h1 with ⟨rfl, rfl⟩ | ⟨n1, h1⟩
    · rcases set_get h2 with ⟨_, rfl⟩ | ⟨n2, _⟩
      · rw [if_pos rfl]
        exact .ow ⟨.inr rfl, fun z => nS (t.s0 p z), fun u e n => absurd (t.base p u e hz n) (by rw [hp]; intro z; cases z), o, upd_same, r.mono m, mu⟩
      · exact absurd rfl n2
    · rcases set_get h2 with ⟨e2, _⟩ | ⟨_, h2⟩
      · exact absurd e2 n1
      · rw [if_neg (fun z => n1 z.symm)]
        exact keep (hs j e u h1 h2)
  · show (if j = i then p else q j) ≠ (if l = i then p else q l)
    rcases set_get h1 with ⟨rfl, rfl⟩ | ⟨n1, h1⟩
    · rcases set_get h2 with ⟨e2, _⟩ | ⟨n2, h2⟩
      · exact absurd e2 hn
      · rw [if_pos rfl, if_neg (fun z => n2 z.symm)]
        obtain ⟨u, hu⟩ := at_ h2
        exact fun z => oneq (hs l e' u h2 hu) o2 z.symm
    · rcases set_get h2 with ⟨rfl, rfl⟩ | ⟨n2, h2⟩
      · rw [if_neg (fun z => n1 z.symm), if_pos rfl]
        obtain ⟨u, hu⟩ := at_ h1
        exact oneq (hs j e u h1 hu) o1
      · rw [if_neg (fun z => n1 z.symm), if_neg (fun z => n2 z.symm)]
        exact hap j l e e' hn h1 h2 o1 o2
  · rcases ha with ha | rfl
    · obtain ⟨u, e, n⟩ := t.dom a ha
      exact ⟨u, ex a u e, n⟩
    · exact ⟨o, upd_same, r.nt⟩
/-- the object of an own slot is changed -/
theorem StR.put (t : StR A S env σ H) {p : Addr} {o o' : HO} {d d' : D} {i : Nat} (h1 : env[i]? = some (.ow d)) (h2 : σ[i]? = some (some (.ref p))) (e : H p = some o) (r : RepO A.W S H o' d') (mu : dataO o' = true) :
    StR A S (env.set i (.ow d')) σ (upd H p o') ∧ Mn S H S (upd H p o') := by
  obtain ⟨q, hs, hap⟩ := t.sl
  have key := hs i _ _ h1 h2
  have hq : q i = p := by cases key; rfl
  have w : Own A S H p d := by rw [← hq]; cases key with | ow w => exact w
  obtain ⟨o1, a4, a5, a6⟩ := w.ex
  have m : Mn S H S (upd H p o') := fun b u hs eb _ => ⟨hs, u, (upd_ne (by rintro rfl; exact hs w.s)).trans eb, rfl⟩
  refine ⟨⟨by rw [List.length_set]; exact t.len, ⟨q, fun j f u g1 g2 => ?_, fun j l e e' hn g1 g2 o1 o2 => ?_⟩, t.s0, fun a ha => ?_, fun b u eb z n => ?_, A.al H _ t.am fun b u eb hb => ?_⟩, m⟩
  · rcases set_get g1 with ⟨rfl, rfl⟩ | ⟨n1, g1⟩
    · rw [h2] at g2; cases g2
      rw [hq]
      exact .ow ⟨w.s, w.n0, w.h0, o', upd_same, r.mono m, mu⟩
    · have hne : ∀ {x : Sl}, env[j]? = some x → hasOwn x = true → q j ≠ p := fun {x} g o => by
        rw [← hq]
        exact hap j i _ _ (fun z => n1 z.symm) g h1 o rfl
      cases hs j f u g1 g2 with
      | no => exact .no
      | sh r => exact .sh (r.mono m)
      | ow v => exact .ow (v.step v.s m fun u e => (upd_ne (hne g1 rfl)).trans e)
      | ot e8 z v =>
        refine .ot ((upd_ne ?_).trans e8) z (v.step v.s m fun u e => (upd_ne (hne g1 rfl)).trans e)
        rintro rfl
        rw [a4] at e8
        rw [Option.some.inj e8] at a6
        simp [dataO] at a6
      | st z => exact .st z
  · have back : ∀ {j : Nat} {x : Sl}, (env.set i (.ow d'))[j]? = some x → hasOwn x = true → ∃ y, env[j]? = some y ∧ hasOwn y = true := fun {j x} g o => by
      rcases set_get g with ⟨rfl, _⟩ | ⟨_, g⟩
      · exact ⟨_, h1, rfl⟩
      · exact ⟨_, g, o⟩
    obtain ⟨y1, g1, p1⟩ := back g1 o1
    obtain ⟨y2, g2, p2⟩ := back g2 o2
    exact hap j l y1 y2 hn g1 g2 p1 p2
  · by_cases hb : a = p
    · subst hb; exact ⟨o', upd_same, r.nt⟩
    · rw [upd_ne hb]; exact t.dom a ha
  · rw [upd_ne]
    · exact t.base b u eb z n
    · rintro rfl; exact (w.h0 u eb n).elim
  · rw [upd_ne]
    · exact eb
    · rintro rfl
      rw [a4] at eb
      have eb := Option.some.inj eb
      rcases hb with hb | hb
      · rw [← eb, a6] at hb; cases hb
      · exact w.n0 hb
/-- an own slot's object may be handed on: it is not the frame's own any more -/
@[simp] def shr (env : List Sl) (i : Nat) : List Sl := match env[i]? with
  | some (.ow d) => env.set i (.sh d)
  | some (.ot d) => env.set i (.sh (.tup [.str "told", d]))
  | _ => env
theorem StR.lend (t : StR A S env σ H) {i : Nat} {q : Nat → Addr} {sl : Sl} {d : D} {u : Option L2.V} (hs : ∀ (i : Nat) (e : Sl) (o : Option L2.V), env[i]? = some e → σ[i]? = some o → SlR A S H (q i) o e)
    (hap : ∀ (i j : Nat) (e e' : Sl), i ≠ j → env[i]? = some e → env[j]? = some e' → hasOwn e = true → hasOwn e' = true → q i ≠ q j) (h1 : env[i]? = some sl) (ho : hasOwn sl = true) (hn : ¬ A.S0 (q i)) (h2 : σ[i]? = some u)
    (hr : ∀ S', (∀ b, S' b ↔ S b ∧ b ≠ q i) → Mn S H S' H → ∃ v, u = some v ∧ Rep A.W S' H v d) : ∃ S', StR A S' (env.set i (.sh d)) σ H ∧ Mn S H S' H ∧ ∀ b, S' b → S b := by
  have m : Mn S H (fun b => S b ∧ b ≠ q i) H := fun b u hs e _ => ⟨fun z => hs z.1, u, e, rfl⟩
  refine ⟨fun b => S b ∧ b ≠ q i, ⟨by rw [List.length_set]; exact t.len, ⟨q, fun j f u' g1 g2 => ?_, fun j l e e' hn g1 g2 o1 o2 => ?_⟩, fun a ha => ⟨t.s0 a ha, fun z => hn (z ▸ ha)⟩, fun a ha => t.dom a ha.1, t.base, t.am⟩, m, fun b h => h.1⟩
  · rcases set_get g1 with ⟨rfl, rfl⟩ | ⟨n1, g1⟩
    · rw [h2] at g2; cases g2
      obtain ⟨v, rfl, r⟩ := hr _ (fun _ => Iff.rfl) m
      exact .sh r
    · have hne : ∀ {x : Sl}, env[j]? = some x → hasOwn x = true → q j ≠ q i := fun {x} g o => hap j i _ _ (fun z => n1 z.symm) g h1 o ho
      cases hs j f u' g1 g2 with
      | no => exact .no
      | sh r => exact .sh (r.mono m)
      | ow v => exact .ow (v.step ⟨v.s, hne g1 rfl⟩ m fun _ e => e)
      | ot e z v => exact .ot e (fun y => z y.1) (v.step ⟨v.s, hne g1 rfl⟩ m fun _ e => e)
      | st z => exact .st z
  · rcases set_get g1 with ⟨_, rfl⟩ | ⟨n1, g1⟩
    · cases o1
    rcases set_get g2 with ⟨_, rfl⟩ | ⟨n2, g2⟩
    · cases o2
    exact hap j l e e' hn g1 g2 o1 o2
theorem StR.shr' (t : StR A S env σ H) (i : Nat) : ∃ S', StR A S' (shr env i) σ H ∧ Mn S H S' H ∧ ∀ b, S' b → S b := by
  unfold Bs.shr
  split
  · rename_i d h1
    obtain ⟨q, hs, hap⟩ := t.sl
    obtain ⟨u, h2, _, _⟩ := t.at h1
    have key := hs i _ _ h1 h2
    generalize hq : q i = p at key
    cases key with
    | ow w =>
      obtain ⟨o1, a4, a5, a6⟩ := w.ex
      exact t.lend hs hap h1 rfl (hq ▸ w.n0) h2 fun S' hS' m => ⟨_, rfl, .ob (fun z => ((hS' _).mp z).2 hq.symm) a4 (a5.mono m)⟩
  · rename_i d h1
    obtain ⟨q, hs, hap⟩ := t.sl
    obtain ⟨u, h2, _, _⟩ := t.at h1
    have key := hs i _ _ h1 h2
    generalize hq : q i = p at key
    cases key with
    | ot e8 z8 w =>
      obtain ⟨o1, a4, a5, a6⟩ := w.ex
      exact t.lend hs hap h1 rfl (hq ▸ w.n0) h2 fun S' hS' m => ⟨_, rfl, .ob (fun z => z8 ((hS' _).mp z).1) e8 (.tup (.cons .str (.cons (.ob (fun z => ((hS' _).mp z).2 hq.symm) a4 (a5.mono m)) .nil)))⟩
  · exact ⟨S, t, Mn.refl, fun _ h => h⟩
theorem StR.shr (t : StR A S env σ H) (i : Nat) : ∃ S', StR A S' (shr env i) σ H ∧ Mn S H S' H := by
  obtain ⟨S', a, b, _⟩ := t.shr' i
  exact ⟨S', a, b⟩
end
section
variable {X : Cx} {A : Am} {E : L2.St → XK} {e a b c tg : Expr} {es rest : List Expr} {τ τa τb τc : TV D} {τt : TV Bool} {τl : TV (List D)} {pos : Pos} {st : Stmt} {sts : List Stmt} {τs τu : VTS}
/-- an expression, then a statement's end -/
theorem LfG.go {ξ α : Type} {R : (Addr → Prop) → Hp → ξ → α → Prop} {τ : TV α} {g : α → VTS} {σ : L2.St} {H : Hp} {De : Ends} {r : ξ → L2.St → Hp → Prop}
    (h : LS A E (fun Vn env => τ env (fun d => g d Vn env) Vn.ex) De σ H) (step : ∀ S env Vn H' x d, StR A S env σ H' → R S H' x d → g d Vn env → EndsR A E S H' Vn De → r x σ H') : LfG A E R τ σ H fun x H' => r x σ H' := by
  obtain ⟨S, env, Vn, st, h, k⟩ := h
  exact ⟨S, env, _, _, st, h, fun d x H' f r q => step S env Vn H' x d (st.fx f) r q (k.from_ (st.mn f)), fun ex C dd H' f xr q => k.ex ex C dd σ H' (st.fx f).bf xr q⟩
theorem VF.go {e : Expr} {τ : TV D} {g : D → VTS} {σ : L2.St} {H : Hp} {De : Ends} {r : L2.V → Hp → Prop} {t : TE}
    (h : LS A E (fun Vn env => τ env (fun d => g d Vn env) Vn.ex) De σ H) (ht : ∀ Q, (∃ S env Qd Rd, StR A S env σ H ∧ τ env Qd Rd ∧ (∀ d o p H1, Fx A H H1 → H1 p = none → RepO A.W S H1 o d → dataO o = true → Qd d → Q (.ref p) (upd H1 p o)) ∧ ∀ ex C dd H', Fx A H H' → ExR A.W H' ex C dd → Rd ex → E σ C dd H') → t σ H Q)
    (step : ∀ S env Vn H' p o d, StR A S env σ H' → H' p = none → RepO A.W S H' o d → dataO o = true → g d Vn env → EndsR A E S H' Vn De → r (.ref p) (upd H' p o)) : t σ H r := by
  obtain ⟨S, env, Vn, st, h, k⟩ := h
  exact ht r ⟨S, env, _, _, st, h, fun d o p H1 f hp r mu q => step S env Vn H1 p o d (st.fx f) hp r mu q (k.from_ (st.mn f)), fun ex C dd H' f xr q => k.ex ex C dd σ H' (st.fx f).bf xr q⟩
@[simp] def vNext : VTS := fun Vn env => Vn.nx env
@[simp] def vSeq (t u : VTS) : VTS := fun Vn env => t { Vn with nx := u Vn } env
theorem vss_nil : VSs X A E [] vNext := ⟨PSs.imp pss_nil fun D σ H h => by
  obtain ⟨S, env, Vn, st, h, k⟩ := h
  exact k.nx S env σ H st Mn.refl h⟩
theorem vss_cons (h1 : VS X A E st τs) (h2 : VSs X A E sts τu) : VSs X A E (st :: sts) (vSeq τs τu) := ⟨PSs.imp (pss_cons h1.run h2.run) fun D σ H h => by
  obtain ⟨S, env, Vn, st, h, k⟩ := h
  exact ⟨S, env, _, st, h, fun S' env' σ' H' st' m q => ⟨S', env', Vn, st', q, k.from_ m⟩, k.bk, k.ct, k.rt, k.ex, k.rf⟩⟩
theorem vss_one (h1 : VS X A E st τs) : VSs X A E [st] τs := ⟨pss_one h1.run⟩
@[simp] def vShr (i : Nat) (t : VTS) : VTS := fun Vn env => t Vn (shr env i)
/-- an own slot is handed on ahead of a statement -/
theorem vss_shr (i : Nat) (h : VSs X A E sts τs) : VSs X A E sts (vShr i τs) := ⟨PSs.imp h.run fun D σ H h => by
  obtain ⟨S, env, Vn, st, h, k⟩ := h
  obtain ⟨S', st', m⟩ := st.shr i
  exact ⟨S', _, Vn, st', h, k.from_ m⟩⟩
@[simp] def vSet (i : Nat) (τ : TV D) : VTS := fun Vn env => τ env (fun d => Vn.nx (env.set i (.sh d))) Vn.ex
@[simp] def vOwn (i : Nat) (τ : TV D) : VTS := fun Vn env => τ env (fun d => Vn.nx (env.set i (.ow d))) Vn.ex
theorem vs_set {i : Nat} {x : Str} {pos' : Pos} (hN : X.N.Nodup) (hi : X.N[i]? = some x) (hx : Loc X.env.scope x) (he : VE X A E e τ) (hs : swapsWith e (some (.Name x pos')) pos.line X.env = pure false := by rfl) (hf : X.fn x = true ∨ X.env.scope.names.lookup x = some .local := by first | exact .inl rfl | exact .inr rfl | assumption) :
    VS X A E (.Assign [.Name x pos'] e pos) (vSet i τ) := ⟨PS.imp (ps_set hN hi hx he.run hs hf) fun D σ H h =>
  LfG.go (g := fun d Vn env => Vn.nx (env.set i (.sh d))) (r := fun v σ H' => D.nx (σ.set i (some v)) H') h fun S env Vn H' x d st r q k => k.nx _ _ _ _ (st.set i r) Mn.refl q⟩
theorem vs_own {i : Nat} {x : Str} {pos' : Pos} (hN : X.N.Nodup) (hi : X.N[i]? = some x) (hx : Loc X.env.scope x) (he : VF X A E e τ) (hs : swapsWith e (some (.Name x pos')) pos.line X.env = pure false := by rfl) (hf : X.fn x = true ∨ X.env.scope.names.lookup x = some .local := by first | exact .inl rfl | exact .inr rfl | assumption) :
    VS X A E (.Assign [.Name x pos'] e pos) (vOwn i τ) := ⟨PS.imp (ps_set hN hi hx he.run hs hf) fun D σ H h =>
  VF.go (e := e) (g := fun d Vn env => Vn.nx (env.set i (.ow d))) (r := fun v H' => D.nx (σ.set i (some v)) H') (t := fun σ H Q => ∃ S env Qd Rd, StR A S env σ H ∧ τ env Qd Rd ∧ (∀ d o p H1, Fx A H H1 → H1 p = none → RepO A.W S H1 o d → dataO o = true → Qd d → Q (.ref p) (upd H1 p o)) ∧ ∀ ex C dd H', Fx A H H' → ExR A.W H' ex C dd → Rd ex → E σ C dd H') h (fun _ h => h)
    fun S env Vn H' p o d st hp r mu q k => by
      obtain ⟨st2, m⟩ := st.own i hp r mu
      exact k.nx _ _ _ _ st2 m q⟩
/-- a, b = .., and the like -/
@[simp] def vAsg (τ : TV D) (γ : D → List Sl → (List Sl → Prop) → Prop) : VTS := fun Vn env => τ env (fun d => γ d env Vn.nx) Vn.ex
theorem vs_asg {idx : List Nat} {γ : D → List Sl → (List Sl → Prop) → Prop} (he : VE X A E e τ) (hg : VG X A tg idx γ) (hs : swapsWithSole [tg] e pos.line X.env = pure false := by rfl) (hw : swappedStores [tg] e X.env = pure none := by rfl)
    (h1 : (assignEach [tg] X.env).map (·.2) = [assign tg X.env] := by rfl) : VS X A E (.Assign [tg] e pos) (vAsg τ γ) := by
  obtain ⟨g, p, q⟩ := hg
  exact ⟨PS.imp (ps_asg he.run p hs hw h1) fun D σ H h => LfG.go (g := fun d Vn env => γ d env Vn.nx) (r := fun v σ H' => g v σ H' D.nx) h fun S env Vn H' x d st r h2 k => q S env σ H' x d Vn.nx D.nx st r h2 fun env' σ' st' _ h3 => k.nx _ _ _ _ st' Mn.refl h3⟩
@[simp] def vDrop (τ : TV D) : VTS := fun Vn env => τ env (fun _ => Vn.nx env) Vn.ex
theorem vs_expr (he : VE X A E e τ) (hs : swapsWith e none pos.line X.env = pure false := by rfl) : VS X A E (.Expr e pos) (vDrop τ) := ⟨PS.imp (ps_expr he.run hs) fun D σ H h =>
  LfG.go (g := fun d Vn env => Vn.nx env) (r := fun v σ H' => D.nx σ H') h fun S env Vn H' x d st r q k => k.nx _ _ _ _ st Mn.refl q⟩
@[simp] def vRet (τ : TV D) : VTS := fun Vn env => τ env Vn.rt Vn.ex
theorem vs_ret (he : VE X A E e τ) : VS X A E (.Return (some e) pos) (vRet τ) := ⟨PS.imp (ps_ret he.run) fun D σ H h =>
  LfG.go (g := fun d Vn env => Vn.rt d) (r := fun v σ H' => D.rt v H') h fun S env Vn H' x d st r q k => k.rt d x H' st.bf (Rep.s0 st r) q⟩
@[simp] def vRetF (τ : TV D) : VTS := fun Vn env => τ env Vn.rf Vn.ex
@[simp] def vRetN : VTS := fun Vn _ => Vn.rt .non
/-- return of a new object -/
theorem vs_retF (he : VF X A E e τ) : VS X A E (.Return (some e) pos) (vRetF τ) := ⟨PS.imp (ps_ret he.run) fun D' σ H h =>
  VF.go (e := e) (g := fun d Vn env => Vn.rf d) (r := fun v H' => D'.rt v H') (t := fun σ H Q => ∃ S env Qd Rd, StR A S env σ H ∧ τ env Qd Rd ∧ (∀ d o p H1, Fx A H H1 → H1 p = none → RepO A.W S H1 o d → dataO o = true → Qd d → Q (.ref p) (upd H1 p o)) ∧ ∀ ex C dd H', Fx A H H' → ExR A.W H' ex C dd → Rd ex → E σ C dd H') h (fun Q h => h) fun S env Vn H' p o d st hp r mu q k =>
    k.rf d o p H' st.bf (fun u e n => by
      have nz : ¬ A.z p := fun z => st.notS hp (st.s0 p (A.zs p z))
      have := st.base p u e nz n
      rw [hp] at this; cases this) (fun z => st.notS hp (st.s0 p z)) hp (r.mono fun b o hs e _ => ⟨fun z => hs (st.s0 b z), o, e, rfl⟩) mu q⟩
def rmA (H : Hp) (p : Addr) : Hp := fun b => if b = p then none else H b
/-- return of an own slot's object -/
@[simp] def vRetO (i : Nat) : VTS := fun Vn env => match env[i]? with
  | some (.ow d) => Vn.rf d
  | _ => False
theorem vs_retO {i : Nat} {x : Str} (hN : X.N[i]? = some x) (hv : Vis X.env.scope x) {pos' : Pos} (hd : (x == ("__debug__" : Str)) = false := by decide) (hcd : (x == ("__classdict__" : Str)) = false := by decide) :
    VS X A E (.Return (some (.Name x pos')) pos) (vRetO i) := ⟨PS.imp (ps_ret (pe_var (i := i) hN hv hd hcd)) fun D' σ H h => by
  obtain ⟨S, env, Vn, st, h, k⟩ := h
  unfold vRetO at h
  split at h
  · rename_i d h1
    obtain ⟨u, h2, q, sl⟩ := st.at h1
    cases sl with
    | ow w =>
      obtain ⟨o, e, r, mu⟩ := w.ex
      refine ⟨_, h2, ?_⟩
      have hu : upd (rmA H q) q o = H := by
        funext b
        unfold upd rmA
        by_cases hb : b = q
        · subst hb; simp [e]
        · simp [hb]
      have fin := k.rf d o q (rmA H q) ⟨fun b u eb z n => ?_, A.al H _ st.am fun b u eb hb => ?_⟩ w.h0 w.n0 (by unfold rmA; rw [if_pos rfl]) (r.mono fun b u hs eb _ => ⟨fun z => hs (st.s0 b z), u, ?_, rfl⟩) mu h
      · rw [hu] at fin; exact fin
      · unfold rmA; rw [if_neg]
        · exact st.base b u eb z n
        · rintro rfl; exact w.h0 u eb n
      · unfold rmA; rw [if_neg]
        · exact eb
        · rintro rfl
          rw [e] at eb
          have eb := Option.some.inj eb
          rcases hb with hb | hb
          · rw [← eb, mu] at hb; cases hb
          · exact w.n0 hb
      · unfold rmA; rw [if_neg]
        · exact eb
        · rintro rfl; exact hs w.s
  · exact h.elim⟩
theorem vs_retN : VS X A E (.Return none pos) vRetN := ⟨PS.imp ps_retN fun D σ H h => by
  obtain ⟨S, env, Vn, st, h, k⟩ := h
  exact k.rt .non .non H st.bf .non h⟩
@[simp] def vIfS (t : TV Bool) (u v : VTS) : VTS := fun Vn env => t env (fun k => if k = true then u Vn env else v Vn env) Vn.ex
theorem vs_if {p q : List Stmt} (hc : VT X A E c τt) (ha : VSs X A E p τs) (hb : VSs X A E q τu) : VS X A E (.If c p q pos) (vIfS τt τs τu) := ⟨PS.imp (ps_if hc.run ha.run hb.run) fun D σ H h =>
  LfG.go (g := fun k Vn env => if k = true then τs Vn env else τu Vn env) (r := fun k σ H' => if k = true then LS A E τs D σ H' else LS A E τu D σ H') h fun S env Vn H' x d st r q k => by
    have e : x = d := r
    subst e
    cases x with
    | true => exact ⟨S, env, Vn, st, q, k⟩
    | false => exact ⟨S, env, Vn, st, q, k⟩⟩
theorem vs_pass : VS X A E (.Pass pos) vNext := ⟨PS.imp ps_pass fun D σ H h => by
  obtain ⟨S, env, Vn, st, h, k⟩ := h
  exact k.nx S env σ H st Mn.refl h⟩
@[simp] def vBrk : VTS := fun Vn env => Vn.bk env
@[simp] def vCnt : VTS := fun Vn env => Vn.ct env
theorem vs_brk : VS X A E (.Break pos) vBrk := ⟨PS.imp ps_break fun D σ H h => by
  obtain ⟨S, env, Vn, st, h, k⟩ := h
  exact k.bk S env σ H st Mn.refl h⟩
theorem vs_cnt : VS X A E (.Continue pos) vCnt := ⟨PS.imp ps_continue fun D σ H h => by
  obtain ⟨S, env, Vn, st, h, k⟩ := h
  exact k.ct S env σ H st Mn.refl h⟩
/-! ### own lists -/
@[simp] def ownL (o : Option Sl) : Option (List D) := match o with
  | some (.ow (.lst ds)) => some ds
  | _ => none
theorem StR.ownL {S : Addr → Prop} {env : List Sl} {σ : L2.St} {H : Hp} (t : StR A S env σ H) {i : Nat} {ds : List D} (h : Bs.ownL env[i]? = some ds) : env[i]? = some (.ow (.lst ds)) ∧ ∃ p xs, σ[i]? = some (some (.ref p)) ∧ H p = some (.lst xs) ∧ RepL A.W S H xs ds := by
  unfold Bs.ownL at h
  split at h
  · rename_i ds' e
    cases h
    refine ⟨e, ?_⟩
    obtain ⟨u, h2, q0, sl⟩ := t.at e
    cases sl with
    | ow w =>
      obtain ⟨o, a4, a5, a6⟩ := w.ex
      cases a5 with
      | lst r => exact ⟨_, _, h2, a4, r⟩
  · cases h
/-- x.append(e), x the frame's own list -/
@[simp] def vApp (i : Nat) (τ : TV D) : VTS := fun Vn env => match ownL env[i]? with
  | some ds => τ env (fun y => ds.length < sizeLine ∧ Vn.nx (env.set i (.ow (.lst (ds ++ [y]))))) Vn.ex
  | none => False
theorem vs_app {i : Nat} {x : Str} {pos' apos cpos : Pos} (hN : X.N[i]? = some x) (hv : Vis X.env.scope x) (he : VE X A E e τ) (hd : (x == ("__debug__" : Str)) = false := by decide) (hcd : (x == ("__classdict__" : Str)) = false := by decide)
    (hbase : attributeBase (.Name x pos') "append" X.env (eval (.Name x pos') X.env) = eval (.Name x pos') X.env := by rfl)
    (hfew : ((backTo cpos (starEach [e] X.env)).all (fun x => !x.1) && (backToKw cpos (keywordEach [] X.env)).all (fun x => x.1.isSome) && decide ([e].length + ([] : List Keyword).length + (if ([] : List Keyword).isEmpty then 0 else 1) < 30)) = true := by rfl)
    (hline : (apos.endLine == cpos.line) = true := by rfl) (hst : starEach [e] X.env = (false, eval e X.env) :: starEach [] X.env := by rfl) (hplain : (backTo cpos (starEach [] X.env)).any (·.1) = false := by rfl)
    (hs : swapsWith (.Call (.Attribute (.Name x pos') "append" apos) [e] [] cpos) none pos.line X.env = pure false := by rfl) :
    VS X A E (.Expr (.Call (.Attribute (.Name x pos') "append" apos) [e] [] cpos) pos) (vApp i τ) :=
  ⟨PS.imp (ps_expr (pe_bm PySem.F.plainAttrs_list PySem.F.slot_list_append PySem.F.type_list_append mt_append (pe_var (i := i) hN hv hd hcd) (pa_cons he.run pa_nil hst) hbase hfew hline hst hplain) hs) fun D σ H h => by
    obtain ⟨S, env, Vn, st, h, k⟩ := h
    unfold vApp at h
    split at h
    · rename_i ds hd
      obtain ⟨he1, p, xs, h2, h3, r⟩ := st.ownL hd
      refine ⟨_, h2, .inl ⟨rfl, xs, SqL.of h3⟩, S, env, _, _, st, h, fun y v H1 f1 r1 q1 => ?_, fun ex C dd H' f xr q => k.ex ex C dd σ H' (st.fx f).bf xr q⟩
      have st1 := st.fx f1
      obtain ⟨_, p1, xs1, h4, h5, r5⟩ := st1.ownL hd
      rw [h2] at h4; cases h4
      refine ⟨p, xs1, v, rfl, rfl, h5, by rw [r5.length]; exact q1.1, ?_⟩
      obtain ⟨st2, m2⟩ := st1.put (o' := .lst (xs1 ++ [v])) (d' := .lst (ds ++ [y])) he1 h2 h5 (.lst (r5.app (.cons r1 .nil))) rfl
      exact k.nx _ _ _ _ st2 ((st.mn f1).trans m2) q1.2
    · exact h.elim⟩
/-- tg = x.pop(), x the frame's own list -/
@[simp] def vPop (i : Nat) (γ : D → List Sl → (List Sl → Prop) → Prop) : VTS := fun Vn env => match ownL env[i]? with
  | some ds => ∃ d, ds[ds.length - 1]? = some d ∧ γ d (env.set i (.ow (.lst ds.dropLast))) Vn.nx
  | none => False
theorem RepL.dropLast {W : Wd} {S : Addr → Prop} {H : Hp} {xs : List L2.V} {ds : List D} (r : RepL W S H xs ds) : RepL W S H xs.dropLast ds.dropLast := by
  rw [List.dropLast_eq_take, List.dropLast_eq_take, r.length]
  exact r.take _
theorem vs_pop {i : Nat} {x : Str} {pos' apos cpos : Pos} {idx : List Nat} {γ : D → List Sl → (List Sl → Prop) → Prop} (hN : X.N[i]? = some x) (hv : Vis X.env.scope x) (hg : VG X A tg idx γ) (hd : (x == ("__debug__" : Str)) = false := by decide) (hcd : (x == ("__classdict__" : Str)) = false := by decide)
    (hbase : attributeBase (.Name x pos') "pop" X.env (eval (.Name x pos') X.env) = eval (.Name x pos') X.env := by rfl) (hline : (apos.endLine == cpos.line) = true := by rfl)
    (hs : swapsWithSole [tg] (.Call (.Attribute (.Name x pos') "pop" apos) [] [] cpos) pos.line X.env = pure false := by rfl) (hw : swappedStores [tg] (.Call (.Attribute (.Name x pos') "pop" apos) [] [] cpos) X.env = pure none := by rfl)
    (h1 : (assignEach [tg] X.env).map (·.2) = [assign tg X.env] := by rfl) : VS X A E (.Assign [tg] (.Call (.Attribute (.Name x pos') "pop" apos) [] [] cpos) pos) (vPop i γ) := by
  obtain ⟨g, p, gq⟩ := hg
  exact ⟨PS.imp (ps_asg (pe_bm0 PySem.F.plainAttrs_list PySem.F.slot_list_pop PySem.F.type_list_pop mt_pop (pe_var (i := i) hN hv hd hcd) hbase hline) p hs hw h1) fun D σ H h => by
    obtain ⟨S, env, Vn, st, h, k⟩ := h
    unfold vPop at h
    split at h
    · rename_i ds hd
      obtain ⟨he1, p, xs, h2, h3, r⟩ := st.ownL hd
      obtain ⟨d, hl, h⟩ := h
      rw [← r.length] at hl
      obtain ⟨y, hy, ry⟩ := r.get hl
      obtain ⟨st2, m2⟩ := st.put (o' := .lst xs.dropLast) (d' := .lst ds.dropLast) he1 h2 h3 (.lst r.dropLast) rfl
      refine ⟨_, h2, .inl ⟨rfl, xs, SqL.of h3⟩, p, xs, y, rfl, rfl, h3, hy, ?_⟩
      exact gq S _ σ _ y d _ _ st2 (ry.mono m2) h fun env' σ' st' _ q => k.nx _ _ _ _ st' m2 q
    · exact h.elim⟩
/-- x[k] = e, x the frame's own list -/
@[simp] def vPut (i : Nat) (τ τk : TV D) : VTS := fun Vn env => match ownL env[i]? with
  | some ds => τ env (fun d => τk env (fun e => match e with
    | .int j => ∃ m, ixN ds.length j = some m ∧ Vn.nx (env.set i (.ow (.lst (ds.set m d))))
    | _ => False) Vn.ex) Vn.ex
  | none => False
/-- name op= e -/
@[simp] def vAug (i : Nat) (f : D → D → (D → Prop) → Prop) (τ : TV D) : VTS := fun Vn env => match env[i]? with
  | some (.sh d) => τ env (fun e => f d e fun r => Vn.nx (env.set i (.sh r))) Vn.ex
  | _ => False
theorem vs_aug {i : Nat} {x : Str} {op : Operator} {f : D → D → (D → Prop) → Prop} {pos' : Pos} (ho : OpV X A (inplaceOp op) f) (hN : X.N.Nodup) (hi : X.N[i]? = some x) (hx : Loc X.env.scope x) (he : VR X A E e τ) (hf : X.fn x = true ∨ X.env.scope.names.lookup x = some .local := by first | exact .inl rfl | exact .inr rfl | assumption) :
    VS X A E (.AugAssign (.Name x pos') op e pos) (vAug i f τ) := by
  obtain ⟨r, ho, hs⟩ := ho
  exact ⟨PS.imp (ps_aug hN hi hx he.run ho hf) fun D σ H h => by
    obtain ⟨S, env, Vn, st, h, k⟩ := h
    unfold vAug at h
    split at h
    · rename_i d hd
      obtain ⟨u, h2, q0, sl⟩ := st.at hd
      cases sl with
      | sh rd =>
        refine ⟨_, h2, S, env, _, _, st, h, fun e y H1 f1 r1 q1 => ?_, fun ex C dd H' f xr q => k.ex ex C dd σ H' (st.fx f).bf xr q⟩
        have st1 := st.fx f1
        exact hs S env σ H1 _ y d e _ _ st1 (.rep (rd.mono (st.mn f1))) r1 q1 fun z v H' f2 r2 q2 => k.nx _ _ _ _ ((st1.fx f2).set i r2) ((st.mn f1).trans (st1.mn f2)) q2
    · exact h.elim⟩
@[simp] def dIAdd (d e : D) (Q : D → Prop) : Prop := match d, e with
  | .int i, .int j => Q (.int (i + j))
  | .str x, .str y => x.length + y.length ≤ sizeLine ∧ Q (.str (x ++ y))
  | _, _ => False
theorem w_iadd : OpV X A (inplaceOp .Add) dIAdd := by
  refine ⟨_, iop_add.or iop_add_str, fun S env σ H x y d e Qd Q st r1 r2 hf hq => ?_⟩
  unfold dIAdd at hf
  split at hf
  · rw [r1.int, r2.int]; exact .inl ⟨_, _, rfl, rfl, hq _ _ H (Fx.refl st.am) .int hf⟩
  · rw [r1.str, r2.str]; exact .inr ⟨_, _, rfl, rfl, hf.1, hq _ _ H (Fx.refl st.am) .str hf.2⟩
  · exact hf.elim
theorem w_isub : OpV X A (inplaceOp .Sub) (dI0 fun i j => .int (i - j)) := by
  refine ⟨_, iop_sub, fun S env σ H x y d e Qd Q st r1 r2 hf hq => ?_⟩
  unfold dI0 at hf
  split at hf
  · rw [r1.int, r2.int]; exact ⟨_, _, rfl, rfl, hq _ _ H (Fx.refl st.am) .int hf⟩
  · exact hf.elim
/-! ### raise -/
@[simp] def vRaise (c : Str) : VTS := fun Vn _ => Vn.ex ⟨c, []⟩
/-! ### loops -/
def forV (γ : D → List Sl → (List Sl → Prop) → Prop) (body : VTS) : List D → VTS
  | [], Vn, env => Vn.nx env
  | d :: ds, Vn, env => γ d env fun env1 => body { Vn with nx := forV γ body ds Vn, ct := forV γ body ds Vn, bk := Vn.nx } env1
@[simp] def vFor (τi : TV (List D)) (γ : D → List Sl → (List Sl → Prop) → Prop) (body : VTS) : VTS := fun Vn env => τi env (fun ds => forV γ body ds Vn env) Vn.ex
theorem vs_for {iter : Expr} {body : List Stmt} {idx : List Nat} {γ : D → List Sl → (List Sl → Prop) → Prop} {τi : TV (List D)} (hp : PassesOwn (model X.prog X.w) X.A X.env X.xe) (hc : X.calm = true) (hi : VI X A E tg iter τi) (hg : VG X A tg idx γ) (hb : VSs X A E body τs)
    (hs : ∀ x, foldedSetIterable iter X.env x = pure x := by intro _; rfl) : VS X A E (.For tg iter body [] pos) (vFor τi γ τs) := by
  obtain ⟨g, p, gq⟩ := hg
  refine ⟨PS.imp (ps_for hp hc hi.run p hb.run hs) fun D σ H h => ?_⟩
  obtain ⟨S, env, Vn, st, h, k⟩ := h
  refine ⟨S, env, _, _, st, h, fun ds J H1 f1 y q => ?_, fun ex C dd H' f xr q => k.ex ex C dd σ H' (st.fx f).bf xr q⟩
  have k1 := k.from_ (st.mn f1)
  obtain ⟨n, G, Y, hn, w, hG, hY⟩ := y
  refine ⟨fun i m σ' H' => m = n - i ∧ i ≤ n ∧ ∃ S' env', StR A S' env' σ' H' ∧ Mn S H1 S' H' ∧ forV γ τs (ds.drop i) Vn env', ⟨_, rfl, Nat.zero_le _, S, env, st.fx f1, Mn.refl, q⟩, ?_⟩
  rintro i m σ' H' ⟨rfl, hi, S', env', st', mn, q⟩
  by_cases hlt : i < n
  · refine .inr ⟨w.goes i H' hlt (hG S' H' mn), fun σ2 H2 => ∃ S2 env2, StR A S2 env2 σ2 H2 ∧ Mn S H1 S2 H2 ∧ forV γ τs (ds.drop (i + 1)) Vn env2, fun σ2 H2 ⟨S2, env2, a1, a2, a3⟩ => ⟨n - (i + 1), by omega, rfl, hlt, S2, env2, a1, a2, a3⟩, fun x H2 y => ?_⟩
    obtain ⟨d, hd, f2, rd⟩ := hY i S' env' σ' H' x H2 hlt st' mn (w.yields i H' x H2 hlt (hG S' H' mn) y)
    have ed : ds.drop i = d :: ds.drop (i + 1) := by
      obtain ⟨hi2, e⟩ := List.getElem?_eq_some_iff.mp hd
      rw [List.drop_eq_getElem_cons hi2, e]
    rw [ed] at q
    have mn2 : Mn S H1 S' H2 := mn.trans (st'.mn f2)
    refine gq S' env' σ' H2 x d _ _ (st'.fx f2) rd q fun env1 σ1 st1 _ q1 => ?_
    have k2 := k1.from_ mn2
    exact ⟨S', env1, _, st1, q1, fun S3 e3 s3 H3 t3 m3 q3 => ⟨S3, e3, t3, mn2.trans m3, q3⟩, k2.nx, fun S3 e3 s3 H3 t3 m3 q3 => ⟨S3, e3, t3, mn2.trans m3, q3⟩, k.rt, k.ex, k.rf⟩
  · have e : i = n := by omega
    subst e
    refine .inl ⟨w.stops H' (hG S' H' mn), ?_⟩
    rw [List.drop_of_length_le (by omega)] at q
    exact k1.nx S' env' σ' H' st' mn q
/-- by an invariant and its measure -/
def vWhile (t : TV Bool) (body : VTS) : VTS := fun Vn env => ∃ I : Nat → List Sl → Prop, (∃ n, I n env) ∧ ∀ n env, I n env →
  t env (fun k => if k = true then body { Vn with nx := fun e => ∃ m, m < n ∧ I m e, ct := fun e => ∃ m, m < n ∧ I m e, bk := Vn.nx } env else Vn.nx env) Vn.ex
theorem vs_while {body : List Stmt} (hp : PassesOwn (model X.prog X.w) X.A X.env X.xe) (hc : VT X A E c τt) (hb : VSs X A E body τs) : VS X A E (.While c body [] pos) (vWhile τt τs) := by
  refine ⟨PS.imp (ps_while hp hc.run hb.run) fun D σ H h => ?_⟩
  obtain ⟨S, env, Vn, st, ⟨I, ⟨n, h⟩, turn⟩, k⟩ := h
  refine ⟨fun m σ' H' => ∃ S' env', StR A S' env' σ' H' ∧ Mn S H S' H' ∧ I m env', ⟨n, S, env, st, Mn.refl, h⟩, ?_⟩
  rintro m σ' H' ⟨S', env', st', mn, q⟩
  refine ⟨S', env', _, _, st', turn m env' q, fun b x H1 f1 e q1 => ?_, fun ex C dd H1 f xr q => k.ex ex C dd σ' H1 (st'.fx f).bf xr q⟩
  have e' : x = b := e
  subst e'
  have mn2 : Mn S H S' H1 := mn.trans (st'.mn f1)
  have k2 := k.from_ mn2
  cases x with
  | true => exact ⟨fun σ2 H2 => ∃ S2 env2, StR A S2 env2 σ2 H2 ∧ Mn S H S2 H2 ∧ ∃ m', m' < m ∧ I m' env2, fun σ2 H2 ⟨S2, env2, a1, a2, m', hm, a3⟩ => ⟨m', hm, S2, env2, a1, a2, a3⟩,
      S', env', _, st'.fx f1, q1, fun S3 e3 s3 H3 t3 m3 q3 => ⟨S3, e3, t3, mn2.trans m3, q3⟩, k2.nx, fun S3 e3 s3 H3 t3 m3 q3 => ⟨S3, e3, t3, mn2.trans m3, q3⟩, k.rt, k.ex, k.rf⟩
  | false => exact k2.nx S' env' σ' H1 (st'.fx f1) Mn.refl q1
end
end Bs
/-! Comprehensions, raising, the promise of a def over trees. -/
namespace Bs
open PySem PySem.Spec PyProof.Rows L2
@[simp] def wipeS (env : List Sl) : List Nat → List Sl
  | [] => env
  | v :: vs => (wipeS env vs).set v .no
section
variable {A : Am} {S : Addr → Prop} {H H' : Hp} {env : List Sl} {σ : L2.St}
theorem StR.clr (t : StR A S env σ H) (i : Nat) : StR A S (env.set i .no) (σ.set i none) H where
  len := by rw [List.length_set, List.length_set]; exact t.len
  sl := by
    obtain ⟨q, hs, ha⟩ := t.sl
    refine ⟨q, fun j e o h1 h2 => ?_, fun j l e e' hn h1 h2 o1 o2 => ?_⟩
    · rcases set_get h1 with ⟨rfl, rfl⟩ | ⟨n1, h1⟩
      · exact .no
      · rcases set_get h2 with ⟨e2, _⟩ | ⟨_, h2⟩
        · exact absurd e2 n1
        · exact hs j e o h1 h2
    · rcases set_get h1 with ⟨_, rfl⟩ | ⟨n1, h1⟩
      · cases o1
      rcases set_get h2 with ⟨_, rfl⟩ | ⟨n2, h2⟩
      · cases o2
      exact ha j l e e' hn h1 h2 o1 o2
  s0 := t.s0
  dom := t.dom
  base := t.base
  am := t.am
theorem StR.wipe (t : StR A S env σ H) : ∀ vs : List Nat, StR A S (wipeS env vs) (wipe σ vs) H
  | [] => t
  | v :: vs => (StR.wipe t vs).clr v
theorem wipe_wipe (σ : L2.St) (vs : List Nat) : L2.wipe (L2.wipe σ vs) vs = L2.wipe σ vs := by
  have key : ∀ (us : List Nat), (∀ i ∈ us, i ∈ vs) → L2.wipe (L2.wipe σ us) vs = L2.wipe σ vs := by
    intro us
    induction us with
    | nil => intro _; rfl
    | cons u us ih =>
      intro h
      show L2.wipe ((L2.wipe σ us).set u none) vs = _
      rw [wipe_in _ (h u List.mem_cons_self), ih fun i hi => h i (List.mem_cons_of_mem _ hi)]
  exact key vs fun _ h => h
end
/-- a comprehension's turns; acc: what is made so far -/
def lcV (γ : D → List Sl → (List Sl → Prop) → Prop) (tt : TV Bool) (te : TV D) (env0 : List Sl) : List D → List D → (D → Prop) → Prop
  | [], acc, Q => Q (.lst acc)
  | d :: ds, acc, Q => γ d env0 fun env1 => tt env1 (fun b => if b = true then te env1 (fun y => acc.length < sizeLine ∧ lcV γ tt te env0 ds (acc ++ [y]) Q) (fun _ => False) else lcV γ tt te env0 ds acc Q) fun _ => False
@[simp] def vLc (τi : TV (List D)) (γ : D → List Sl → (List Sl → Prop) → Prop) (tt : TV Bool) (te : TV D) (vs : List Nat) : TV D := fun env Q R => τi env (fun ds => lcV γ tt te (wipeS env vs) ds [] Q) R
structure VTs (X : Cx) (A : Am) (E : L2.St → XK) (ifs : List Expr) (τ : TV Bool) : Prop where
  run : PTs X ifs (LfG A E rB τ)
abbrev EN : L2.St → XK := fun _ _ _ _ => False
@[simp] def vYes : TV Bool := fun _ Q _ => Q true
theorem PTs.imp {X : Cx} {es : List Expr} {t t' : TT} (h : PTs X es t) (i : ∀ σ H Q, t' σ H Q → t σ H Q) : PTs X es t' := ⟨fun p s σ H Q I q => h.run p s σ H Q I (i σ H Q q)⟩
theorem vts_nil {X : Cx} {A : Am} {E : L2.St → XK} : VTs X A E [] vYes := ⟨PTs.imp pts_nil fun σ H Q h => by
  obtain ⟨S, env, Qd, Rd, st, h, hq, hr⟩ := h
  exact hq true true H (Fx.refl st.am) rfl h⟩
theorem vts_one {X : Cx} {A : Am} {E : L2.St → XK} {c : Expr} {τ : TV Bool} (h : VT X A E c τ) : VTs X A E [c] τ := ⟨pts_one h.run⟩
/-- the heap without one place -/
def rm (H : Hp) (p : Addr) : Hp := fun b => if b = p then none else H b
theorem upd_rm {H : Hp} {p : Addr} {o : HO} (h : H p = some o) : upd (rm H p) p o = H := by
  funext b
  unfold upd rm
  by_cases e : b = p
  · subst e; simp [h]
  · simp [e]
section
variable {X : Cx} {A : Am} {E : L2.St → XK} {elt tg iter : Expr} {ifs : List Expr} {scope : Scope} {own : List (Str × Nat)} {τi : TV (List D)} {γ : D → List Sl → (List Sl → Prop) → Prop} {tt : TV Bool} {te : TV D} {idx : List Nat} {pos : Pos}
theorem lc_read {g : TG} {σ : L2.St} {H : Hp} {Q : VK} {vs : List Nat} (hidx : ∀ i ∈ idx, i ∈ vs)
    (gq : ∀ S env σ H x d Qe (Q : L2.St → Hp → Prop), StR A S env σ H → Rep A.W S H x d → γ d env Qe → (∀ env' σ', StR A S env' σ' H → (∀ vs : List Nat, (∀ i ∈ idx, i ∈ vs) → wipe σ' vs = wipe σ vs) → Qe env' → Q σ' H) → g x σ H Q)
    (h : ∃ S env Qd Rd, StR A S env σ H ∧ vLc τi γ tt te vs env Qd Rd ∧ (∀ d o p H1, Fx A H H1 → H1 p = none → RepO A.W S H1 o d → dataO o = true → Qd d → Q (.ref p) (upd H1 p o)) ∧ ∀ ex C dd H', Fx A H H' → ExR A.W H' ex C dd → Rd ex → E σ C dd H') :
    tLc (fun σ H R => ∃ S env Qd Rd, StR A S env σ H ∧ τi env Qd Rd ∧ (∀ ds J H', Fx A H H' → Yields A J S H' ds → Qd ds → R J H') ∧ ∀ ex C dd H', Fx A H H' → ExR A.W H' ex C dd → Rd ex → E σ C dd H') g (LfG A EN rB tt) (LfG A EN (rV A) te) vs σ H Q := by
  obtain ⟨S, env, Qd, Rd, st, h, hq, hr⟩ := h
  refine ⟨S, env, _, Rd, st, h, fun ds J H1 f1 y q => ?_, hr⟩
  intro D hD
  obtain ⟨n, G, Y, hn, w, hG, hY⟩ := y
  have st1 := st.fx f1
  have nSD := st1.notS hD
  have nzD : ¬ A.z D := fun z => nSD (st1.s0 D (A.zs D z))
  have m0 : Mn S H1 (fun b => S b ∨ b = D) (upd H1 D (.lst [])) := fun b o hs e _ => ⟨fun z => z.elim hs fun z => ne_of_none e hD z, o, (upd_ne (ne_of_none e hD)).trans e, rfl⟩
  have ex1 : ∀ b o, H1 b = some o → upd H1 D (.lst []) b = some o := fun b o e => (upd_ne (ne_of_none e hD)).trans e
  have st2 : StR A (fun b => S b ∨ b = D) (wipeS env vs) (wipe σ vs) (upd H1 D (.lst [])) := by
    have t := st1.wipe vs
    obtain ⟨qq, hs, hap⟩ := t.sl
    refine ⟨t.len, ⟨qq, fun i e o h1 h2 => ?_, hap⟩, fun a ha => .inl (t.s0 a ha), fun a ha => ?_, fun b o e z n => ex1 b o (t.base b o e z n), A.al H1 _ t.am fun b o e _ => ex1 b o e⟩
    · cases hs i e o h1 h2 with
      | no => exact .no
      | sh r => exact .sh (r.mono m0)
      | ow w => exact .ow (w.step (.inl w.s) m0 fun _ e => ex1 _ _ e)
      | ot e z w => exact .ot (ex1 _ _ e) (fun y => y.elim z fun y => ne_of_none e hD y) (w.step (.inl w.s) m0 fun _ e => ex1 _ _ e)
      | st z => exact .st z
    · rcases ha with ha | rfl
      · obtain ⟨u, e, n⟩ := t.dom a ha
        exact ⟨u, ex1 a u e, n⟩
      · exact ⟨_, upd_same, trivial⟩
  refine ⟨fun i m H' => m = n - i ∧ i ≤ n ∧ ∃ acc accV, H' D = some (.lst accV) ∧ RepL A.W (fun b => S b ∨ b = D) H' accV acc ∧ StR A (fun b => S b ∨ b = D) (wipeS env vs) (wipe σ vs) H' ∧ Mn S H1 (fun b => S b ∨ b = D) H' ∧
      (∀ b o, H1 b = some o → ¬ A.z b → A.k o → H' b = some o) ∧ lcV γ tt te (wipeS env vs) (ds.drop i) acc Qd,
    ⟨_, rfl, Nat.zero_le _, [], [], upd_same, .nil, st2, m0, fun b o e _ _ => ex1 b o e, q⟩, ?_⟩
  rintro i m H' ⟨rfl, hi, acc, accV, hD', ra, st', mn, fr, q⟩
  by_cases hlt : i < n
  · refine .inr ⟨w.goes i H' hlt (hG _ H' mn), fun H2 => ∃ acc accV, H2 D = some (.lst accV) ∧ RepL A.W (fun b => S b ∨ b = D) H2 accV acc ∧ StR A (fun b => S b ∨ b = D) (wipeS env vs) (wipe σ vs) H2 ∧ Mn S H1 (fun b => S b ∨ b = D) H2 ∧
      (∀ b o, H1 b = some o → ¬ A.z b → A.k o → H2 b = some o) ∧ lcV γ tt te (wipeS env vs) (ds.drop (i + 1)) acc Qd, fun H2 ⟨a, b, c⟩ => ⟨n - (i + 1), by omega, rfl, hlt, a, b, c⟩, fun x H2 y => ?_⟩
    obtain ⟨d, hd, f2, rd⟩ := hY i _ _ _ H' x H2 hlt st' mn (w.yields i H' x H2 hlt (hG _ H' mn) y)
    have ed : ds.drop i = d :: ds.drop (i + 1) := by
      obtain ⟨hi2, e⟩ := List.getElem?_eq_some_iff.mp hd
      rw [List.drop_eq_getElem_cons hi2, e]
    rw [ed] at q
    have step : ∀ {Ha Hb : Hp}, Fx A Ha Hb → StR A (fun b => S b ∨ b = D) (wipeS env vs) (wipe σ vs) Ha → Ha D = some (.lst accV) → RepL A.W (fun b => S b ∨ b = D) Ha accV acc → Mn S H1 (fun b => S b ∨ b = D) Ha → (∀ b o, H1 b = some o → ¬ A.z b → A.k o → Ha b = some o) →
        StR A (fun b => S b ∨ b = D) (wipeS env vs) (wipe σ vs) Hb ∧ Hb D = some (.lst accV) ∧ RepL A.W (fun b => S b ∨ b = D) Hb accV acc ∧ Mn S H1 (fun b => S b ∨ b = D) Hb ∧ ∀ b o, H1 b = some o → ¬ A.z b → A.k o → Hb b = some o :=
      fun {Ha Hb} f t a1 a2 a3 a4 => ⟨t.fx f, f.ex _ _ a1 nzD (A.kd _ trivial), a2.mono (t.mn f), a3.trans (t.mn f), fun b o e z n => f.ex b o (a4 b o e z n) z n⟩
    obtain ⟨b1, b2, b3, b4, b5⟩ := step f2 st' hD' ra mn fr
    refine gq _ _ _ H2 x d _ _ b1 rd q fun env1 σ1 t1 w1 q1 => ⟨by rw [w1 vs hidx, wipe_wipe], ?_⟩
    refine ⟨_, env1, _, _, t1, q1, fun k k' H3 f3 ek q2 => ?_, fun ex C dd H3 f3 xr z => z.elim⟩
    have ek' : k' = k := ek
    subst ek'
    obtain ⟨c1, c2, c3, c4, c5⟩ := step f3 b1 b2 b3 b4 b5
    cases k' with
    | false => exact ⟨acc, accV, c2, c3, c1, c4, c5, q2⟩
    | true =>
      refine ⟨_, env1, _, _, t1.fx f3, q2, fun dy yv H4 f4 r4 q3 => ?_, fun ex C dd H3 f3 xr z => z.elim⟩
      obtain ⟨e1, e2, e3, e4, e5⟩ := step f4 c1 c2 c3 c4 c5
      have mD : Mn (fun b => S b ∨ b = D) H4 (fun b => S b ∨ b = D) (upd H4 D (.lst (accV ++ [yv]))) := fun b o hs e _ => ⟨hs, o, (upd_ne (by rintro rfl; exact hs (.inr rfl))).trans e, rfl⟩
      have ex4 : ∀ b o, b ≠ D → H4 b = some o → upd H4 D (.lst (accV ++ [yv])) b = some o := fun b o hb e => (upd_ne hb).trans e
      have t4 : StR A (fun b => S b ∨ b = D) (wipeS env vs) (wipe σ vs) (upd H4 D (.lst (accV ++ [yv]))) := by
        obtain ⟨qq, hs, hap⟩ := e1.sl
        refine ⟨e1.len, ⟨qq, fun i e o h1 h2 => ?_, hap⟩, e1.s0, fun a ha => ?_, fun b o e z n => ?_, A.al H4 _ e1.am fun b o e hb => ex4 b o (by rintro rfl; rw [e2] at e; cases e; rcases hb with hb | hb; cases hb; exact nSD (st1.s0 _ hb)) e⟩
        · have hne : hasOwn e = true → qq i ≠ D := fun ho z => by
            obtain ⟨q1, hs1, _⟩ := (st1.wipe vs).sl
            have g1 := hs1 i e o h1 h2
            have g2 := hs i e o h1 h2
            cases g1 with
            | ow w =>
              generalize hx : qq i = x at g2
              cases g2
              exact nSD ((hx.symm.trans z) ▸ w.s)
            | ot e1' z1 w =>
              generalize hx : qq i = x at g2
              cases g2 with
              | ot e2' z2 w2 =>
                have := e5 _ _ e1' (fun y => z1 (st1.s0 _ (A.zs _ y))) (A.kd _ trivial)
                rw [this] at e2'
                cases e2'
                exact nSD ((hx.symm.trans z) ▸ w.s)
            | _ => cases ho
          cases hs i e o h1 h2 with
          | no => exact .no
          | sh r => exact .sh (r.mono mD)
          | ow w => exact .ow (w.step w.s mD fun _ e => ex4 _ _ (hne rfl) e)
          | ot e z w => exact .ot (ex4 _ _ (by rintro rfl; rw [e2] at e; cases e) e) z (w.step w.s mD fun _ e => ex4 _ _ (hne rfl) e)
          | st z => exact .st z
        · by_cases hb : a = D
          · subst hb; exact ⟨_, upd_same, trivial⟩
          · obtain ⟨u, e, n⟩ := e1.dom a ha
            exact ⟨u, ex4 a u hb e, n⟩
        · have e0 := st1.base b o e z n
          exact ex4 b o (ne_of_none e0 hD) (e1.base b o e z n)
      refine ⟨accV, e2, by rw [e3.length]; exact q3.1, acc ++ [dy], accV ++ [yv], upd_same, (e3.app (.cons r4 .nil)).mono mD, t4, e4.trans mD, fun b o e z n => ex4 b o (ne_of_none e hD) (e5 b o e z n), q3.2⟩
  · have e : i = n := by omega
    subst e
    refine .inl ⟨w.stops H' (hG _ H' mn), ?_⟩
    rw [List.drop_of_length_le (by omega)] at q
    have fin := hq (.lst acc) (.lst accV) D (rm H' D) (f1.trans ⟨fun b o e z n => ?_, ?_⟩) (by unfold rm; rw [if_pos rfl]) (.lst (ra.mono fun b o hs e _ => ⟨fun z => hs (.inl z), o, ?_, rfl⟩)) rfl q
    · rw [upd_rm hD'] at fin; exact fin
    · unfold rm; rw [if_neg (ne_of_none e hD)]; exact fr b o e z n
    · refine A.al H' _ st'.am fun b o e hb => ?_
      unfold rm; rw [if_neg (by rintro rfl; rw [hD'] at e; cases e; rcases hb with hb | hb; cases hb; exact nSD (st1.s0 _ hb))]; exact e
    · unfold rm; rw [if_neg (by rintro rfl; exact hs (.inr rfl))]; exact e
theorem vf_lc (hc : X.calm = true) (hN : X.N.Nodup) (hi : VI X A E tg iter τi) (ok : BlkOk X.N X.env.scope scope own) (hidx : ∀ i ∈ idx, i ∈ own.map (·.2))
    (hg : ∃ g, (∀ (s : Shared) (H : Hp) (C : Addr) (cl : List (Str × Addr)) (fp : List Addr), PG (X.blk s H scope (compEnvC scope cl C X.env) fp) tg g) ∧ ∀ S env σ H x d Qe (Q : L2.St → Hp → Prop), StR A S env σ H → Rep A.W S H x d → γ d env Qe → (∀ env' σ', StR A S env' σ' H → (∀ vs : List Nat, (∀ i ∈ idx, i ∈ vs) → wipe σ' vs = wipe σ vs) → Qe env' → Q σ' H) → g x σ H Q)
    (ht : ∀ (s : Shared) (H : Hp) (C : Addr) (cl : List (Str × Addr)) (fp : List Addr), VTs (X.blk s H scope (compEnvC scope cl C X.env) fp) A EN ifs tt)
    (he : ∀ (s : Shared) (H : Hp) (C : Addr) (cl : List (Str × Addr)) (fp : List Addr), VE (X.blk s H scope (compEnvC scope cl C X.env) fp) A EN elt te) (hs : ∀ x, foldedSetIterable iter X.env x = pure x := by intro _; rfl) :
    VF X A E (.ListComp elt [⟨tg, iter, ifs, 0⟩] scope pos) (vLc τi γ tt te (own.map (·.2))) := by
  obtain ⟨g, p, gq⟩ := hg
  exact ⟨PE.imp (pe_lc hc hN hi.run ok p (fun s H C cl fp => (ht s H C cl fp).run) (fun s H C cl fp => (he s H C cl fp).run) hs) fun σ H Q h => lc_read hidx gq h⟩
end
end Bs
/-! Targets of comprehensions, name = [..], raising, defs over trees. -/
namespace Bs
open PySem PySem.Spec PyProof.Rows L2
def GQ (A : Am) (g : TG) (idx : List Nat) (γ : D → List Sl → (List Sl → Prop) → Prop) : Prop := ∀ S env σ H x d Qe (Q : L2.St → Hp → Prop), StR A S env σ H → Rep A.W S H x d → γ d env Qe →
  (∀ env' σ', StR A S env' σ' H → (∀ vs : List Nat, (∀ i ∈ idx, i ∈ vs) → wipe σ' vs = wipe σ vs) → Qe env' → Q σ' H) → g x σ H Q
def GQs (A : Am) (g : TGs) (idx : List Nat) (γ : List D → List Sl → (List Sl → Prop) → Prop) : Prop := ∀ S env σ H xs ds Qe (Q : L2.St → Hp → Prop), StR A S env σ H → RepL A.W S H xs ds → γ ds env Qe →
  (∀ env' σ', StR A S env' σ' H → (∀ vs : List Nat, (∀ i ∈ idx, i ∈ vs) → wipe σ' vs = wipe σ vs) → Qe env' → Q σ' H) → g xs σ H Q
section
variable {A : Am}
theorem gq_name (i : Nat) : GQ A (gName i) [i] (gSet i) := fun S env σ H x d Qe Q st r h k => k _ _ (st.set i r) (fun vs hv => wipe_in σ (hv i List.mem_cons_self)) h
theorem gqs_nil : GQs A gNil [] gsNil := fun S env σ H xs ds Qe Q st r h k => by
  obtain ⟨rfl, h⟩ := h
  cases r
  exact ⟨rfl, k env σ st (fun _ _ => rfl) h⟩
theorem gqs_cons {g : TG} {gs : TGs} {idx idx' : List Nat} {γ : D → List Sl → (List Sl → Prop) → Prop} {γs : List D → List Sl → (List Sl → Prop) → Prop} (q1 : GQ A g idx γ) (q2 : GQs A gs idx' γs) : GQs A (gCons g gs) (idx ++ idx') (gsCons γ γs) :=
  fun S env σ H xs ds Qe Q st r h k => by
    cases r with
    | nil => exact h.elim
    | cons r t =>
      refine ⟨_, _, rfl, q1 S env σ H _ _ _ _ st r h fun env1 σ1 st1 w1 h1 => ?_⟩
      exact q2 S env1 σ1 H _ _ _ _ st1 t h1 fun env2 σ2 st2 w2 h2 => k env2 σ2 st2 (fun vs hv => (w2 vs fun i hi => hv i (List.mem_append_right _ hi)).trans (w1 vs fun i hi => hv i (List.mem_append_left _ hi))) h2
theorem gq_tup {K : PySem.W.Frag} (hK : A.W.K = K) {n : Nat} {g : TGs} {idx : List Nat} {γs : List D → List Sl → (List Sl → Prop) → Prop} (q : GQs A g idx γs) : GQ A (gAny K n g) idx (gTupD n γs) := fun S env σ H x d Qe Q st r h k => by
  unfold gTupD at h
  split at h
  · rename_i ds hd
    obtain ⟨a, xs, rfl, hs, r⟩ := sq_rep (z := A.z) (.rep r) hd
    exact ⟨xs, hK ▸ hs, by rw [r.length]; exact h.1, q S env σ H xs ds Qe Q st r h.2 k⟩
  · exact h.elim
end
section
variable {X : Cx} {A : Am} {E : L2.St → XK} {elt tg iter : Expr} {ifs : List Expr} {scope : Scope} {own : List (Str × Nat)} {τi : TV (List D)} {γ : D → List Sl → (List Sl → Prop) → Prop} {tt : TV Bool} {te : TV D} {idx : List Nat} {pos spos py : Pos} {g : TG}
theorem vf_lc' (hc : X.calm = true) (hN : X.N.Nodup) (hi : VI X A E tg iter τi) (ok : BlkOk X.N X.env.scope scope own) (hidx : ∀ i ∈ idx, i ∈ own.map (·.2)) (gq : GQ A g idx γ)
    (p : ∀ (s : Shared) (H : Hp) (C : Addr) (cl : List (Str × Addr)) (fp : List Addr), PG (X.blk s H scope (compEnvC scope cl C X.env) fp) tg g)
    (ht : ∀ (s : Shared) (H : Hp) (C : Addr) (cl : List (Str × Addr)) (fp : List Addr), VTs (X.blk s H scope (compEnvC scope cl C X.env) fp) A EN ifs tt)
    (he : ∀ (s : Shared) (H : Hp) (C : Addr) (cl : List (Str × Addr)) (fp : List Addr), VE (X.blk s H scope (compEnvC scope cl C X.env) fp) A EN elt te) (hs : ∀ x, foldedSetIterable iter X.env x = pure x := by intro _; rfl) :
    VF X A E (.ListComp elt [⟨tg, iter, ifs, 0⟩] scope pos) (vLc τi γ tt te (own.map (·.2))) := vf_lc hc hN hi ok hidx ⟨g, p, gq⟩ ht he hs
/-- name = [..] -/
@[simp] def vSetF (i : Nat) (τ : TV D) : VTS := fun Vn env => τ env (fun d => Vn.nx (env.set i (.sh d))) Vn.ex
theorem vs_setLc {i : Nat} {y : Str} (hc : X.calm = true) (hN : X.N.Nodup) (hy : X.N[i]? = some y) (hyl : X.env.scope.names.lookup y = some .local)
    (hsw : swapsWith (.ListComp elt [⟨tg, iter, ifs, 0⟩] scope pos) (some (.Name y py)) spos.line X.env = pure true) (hi : VI X A E tg iter τi) (ok : BlkOk X.N X.env.scope scope own) (hidx : ∀ i ∈ idx, i ∈ own.map (·.2)) (gq : GQ A g idx γ)
    (p : ∀ (s : Shared) (H : Hp) (C : Addr) (cl : List (Str × Addr)) (fp : List Addr), PG (X.blk s H scope (compEnvC scope cl C X.env) fp) tg g)
    (ht : ∀ (s : Shared) (H : Hp) (C : Addr) (cl : List (Str × Addr)) (fp : List Addr), VTs (X.blk s H scope (compEnvC scope cl C X.env) fp) A EN ifs tt)
    (he : ∀ (s : Shared) (H : Hp) (C : Addr) (cl : List (Str × Addr)) (fp : List Addr), VE (X.blk s H scope (compEnvC scope cl C X.env) fp) A EN elt te) (hs : ∀ x, foldedSetIterable iter X.env x = pure x := by intro _; rfl) :
    VS X A E (.Assign [.Name y py] (.ListComp elt [⟨tg, iter, ifs, 0⟩] scope pos) spos) (vSet i (vLc τi γ tt te (own.map (·.2)))) := ⟨PS.imp (ps_setLc hc hN hy hyl hsw hi.run ok p (fun s H C cl fp => (ht s H C cl fp).run) (fun s H C cl fp => (he s H C cl fp).run) hs) fun D σ H h =>
  VF.go (e := elt) (g := fun d Vn env => Vn.nx (env.set i (.sh d))) (r := fun v H' => D.nx (σ.set i (some v)) H') h (fun Q h => lc_read hidx gq h) fun S env Vn H' p o d st hp r mu q k =>
    k.nx _ _ _ _ ((st.fx (st.new hp)).set i (st.mkO hp r)) (st.mn (st.new hp)) q⟩
theorem vs_ownLc {i : Nat} {y : Str} (hc : X.calm = true) (hN : X.N.Nodup) (hy : X.N[i]? = some y) (hyl : X.env.scope.names.lookup y = some .local)
    (hsw : swapsWith (.ListComp elt [⟨tg, iter, ifs, 0⟩] scope pos) (some (.Name y py)) spos.line X.env = pure true) (hi : VI X A E tg iter τi) (ok : BlkOk X.N X.env.scope scope own) (hidx : ∀ i ∈ idx, i ∈ own.map (·.2)) (gq : GQ A g idx γ)
    (p : ∀ (s : Shared) (H : Hp) (C : Addr) (cl : List (Str × Addr)) (fp : List Addr), PG (X.blk s H scope (compEnvC scope cl C X.env) fp) tg g)
    (ht : ∀ (s : Shared) (H : Hp) (C : Addr) (cl : List (Str × Addr)) (fp : List Addr), VTs (X.blk s H scope (compEnvC scope cl C X.env) fp) A EN ifs tt)
    (he : ∀ (s : Shared) (H : Hp) (C : Addr) (cl : List (Str × Addr)) (fp : List Addr), VE (X.blk s H scope (compEnvC scope cl C X.env) fp) A EN elt te) (hs : ∀ x, foldedSetIterable iter X.env x = pure x := by intro _; rfl) :
    VS X A E (.Assign [.Name y py] (.ListComp elt [⟨tg, iter, ifs, 0⟩] scope pos) spos) (vOwn i (vLc τi γ tt te (own.map (·.2)))) := ⟨PS.imp (ps_setLc hc hN hy hyl hsw hi.run ok p (fun s H C cl fp => (ht s H C cl fp).run) (fun s H C cl fp => (he s H C cl fp).run) hs) fun D σ H h =>
  VF.go (e := elt) (g := fun d Vn env => Vn.nx (env.set i (.ow d))) (r := fun v H' => D.nx (σ.set i (some v)) H') h (fun Q h => lc_read hidx gq h) fun S env Vn H' p o d st hp r mu q k => by
    obtain ⟨st2, m⟩ := st.own i hp r mu
    exact k.nx _ _ _ _ st2 m q⟩
end
/-! ### raise X('..') of a plain class -/
/-- an error's class, told over trees -/
structure ErrV (W : Wd) (mg : Str → Option Value) (x : Str) : Prop where
  ex : ∃ C, W.cl x = some C ∧ mg x = some (.ref C) ∧ PySem.W.keepIn W.K (.ref C) = true ∧ PySem.W.excIn W.K C [.type "ValueError", .type "Exception", .type "BaseException", .type "object"] "ValueError.__new__" = true ∧
    PySem.W.subIn W.K (.ref C) (.type "BaseException") = some true ∧ PySem.W.typeIn W.K (.ref C) = some (.type "type")
section
variable {X : Cx} {A : Am} {E : L2.St → XK} {E' : XK}
theorem vs_raise {x : Str} {m : Str} {j : Nat} {p p2 pos' pos : Pos} (Er : ErrV A.W X.mg x) (hK : A.W.K = X.K) (hc : X.calm = true) (tk : L2.Takes X (fun cls d σ H => E σ cls d H)) (hg : Gl X x) (hdb : (x == ("__debug__" : Str)) = false := by decide) :
    VS X A E (.Raise (some (.Call (.Name x p) [.Constant (.str m) j p2] [] pos')) none pos) (vRaise x) := by
  obtain ⟨C, h1, h2, h3, h4, h5, h6⟩ := Er.ex
  rw [hK] at h3 h4 h5 h6
  exact ⟨PS.imp (ps_raise hc tk (pmk_own PySem.F.excBase_ValueError h4 h2 h3 (raises_own h5 h6) hg (hdb := hdb))) fun D σ H h => by
    obtain ⟨S, env, Vn, st, h, k⟩ := h
    exact k.ex ⟨x, []⟩ (.ref C) none σ H st.bf ⟨C, h1, rfl, fun _ => rfl, fun z => absurd rfl z⟩ h⟩
end
/-! ### a def -/
@[simp] def stV (n : Nat) (ds : List D) : List Sl := ds.map .sh ++ List.replicate (n - ds.length) .no
def amOf (W : Wd) (S : Addr → Prop) (H : Hp) : Am where
  W := W
  S0 := S
  H0 := H
  z := fun _ => False
  am := fun _ => True
  zs := fun _ h => h.elim
  zd := fun _ _ _ h => h.elim
  al := fun _ _ _ _ => trivial
  k := fun _ => True
  kd := fun _ _ => trivial
  st := none
theorem st_start {W : Wd} {S : Addr → Prop} {H : Hp} {N : List Str} {vs : List V} {ds : List D} (hS : ∀ a, S a → ∃ o, H a = some o ∧ nt o) (r : RepL W S H vs ds) (hl : vs.length ≤ N.length) : StR (amOf W S H) S (stV N.length ds) (L2.start N vs) H where
  len := by unfold stV L2.start; simp [r.length]
  sl := by
    refine ⟨fun _ => 0, fun i e o h1 h2 => ?_, fun i j e e' hn h1 h2 o1 o2 => ?_⟩
    · unfold stV at h1
      unfold L2.start at h2
      have rl := r.length
      by_cases hi : i < ds.length
      · rw [List.getElem?_append_left (by simpa using hi), List.getElem?_map] at h1
        rw [List.getElem?_append_left (by simp; omega), List.getElem?_map] at h2
        cases hd : ds[i]? with
        | none => rw [hd] at h1; cases h1
        | some d =>
          obtain ⟨v, hv, rv⟩ := r.get hd
          rw [hd] at h1; rw [hv] at h2
          cases h1; cases h2
          exact .sh rv
      · rw [List.getElem?_append_right (by simp; omega), List.getElem?_replicate] at h1
        split at h1
        · cases h1; exact .no
        · cases h1
    · exfalso
      unfold stV at h1
      by_cases hi : i < ds.length
      · rw [List.getElem?_append_left (by simpa using hi), List.getElem?_map] at h1
        cases hd : ds[i]? with
        | none => rw [hd] at h1; cases h1
        | some d => rw [hd] at h1; cases h1; cases o1
      · rw [List.getElem?_append_right (by simp; omega), List.getElem?_replicate] at h1
        split at h1
        · cases h1; cases o1
        · cases h1
  s0 := fun _ h => h
  dom := hS
  base := fun _ _ e _ _ => e
  am := trivial
section
variable {P : Program} {w : World} {K : PySem.W.Frag} {mg : Str → Option Value} {base : Heap}
/-- from a body's reading to its promise -/
theorem body_of {W : Wd} {n : Nat} {f : Fd} {N : List Str} {vs : List V} {H : Hp} {Q : VK} {E : XK} {X : Cx} {body : List Stmt} (hn : n ≤ N.length) (h : spV W n f vs H Q E)
    (hb : ∀ A : Am, A.W = W → (∀ a, ¬ A.z a) → ∃ τ, VSs X A (fun _ => E) body τ ∧ ∀ ds Q R, ds.length = n → f ds Q R → τ { nx := fun _ => Q .non, rt := Q, ex := R } (stV N.length ds)) :
    ∃ t, PSs X body t ∧ t { nx := fun _ H' => Q .non H', rt := Q } (L2.start N vs) H := by
  obtain ⟨hl, S, ds, Qd, Rx, hS, r, hf, hq, hr⟩ := h
  obtain ⟨τ, hv, hi⟩ := hb (amOf W S H) rfl (fun _ h => h)
  refine ⟨_, hv.run, S, _, _, st_start hS r (by omega), hi ds Qd Rx (by rw [← r.length]; exact hl) hf, ?_⟩
  have ext : ∀ {H'}, Bf (amOf W S H) H' → Ext H H' := fun b c o e => b.base c o e (fun z => z) trivial
  exact ⟨fun S' env' σ' H' st m q => hq .non .non H' (ext st.bf) .non q, fun _ _ _ _ _ _ q => q.elim, fun _ _ _ _ _ _ q => q.elim, fun d x H' b r q => hq d x H' (ext b) r q, fun ex C dd σ' H' b xr q => hr ex C dd H' (ext b) xr q, fun d o p H' b h0 hs hp r mu q => by
    have e : ∀ c u, H' c = some u → upd H' p o c = some u := fun c u e => (upd_ne (ne_of_none e hp)).trans e
    exact hq d _ _ (fun c u eu => e c u (ext b c u eu)) (.ob hs upd_same (r.mono fun c u hs eu _ => ⟨hs, u, e c u eu, rfl⟩)) q⟩
theorem Fun.okV {x qual : Str} {st : Stmt} {f : Addr} {fd : FuncData} {N ps : List Str} {k : Nat} {W : Wd} {fv : Fd} (F : Fun K x qual st f fd) (S : FnScope N ps (defScope st)) (hp : ps.length ≤ N.length)
    (hbody : ∀ (cdv : Value) (Ar : Around) (outer : List Env) (s : Shared) (H : Hp) (E : XK) (A : Am), A.W = W → (∀ a, ¬ A.z a) → Room k (Ar.deeper (envOfC qual (defScope st) s.heap.objs.size f cdv)) →
      ∃ τ, VSs (cxOf (L2.CX P w) P w K mg base N qual (defScope st) f cdv Ar outer s H E) A (fun _ => E) (defBody st) τ ∧ ∀ ds Q R, ds.length = ps.length → fv ds Q R → τ { nx := fun _ => Q .non, rt := Q, ex := R } (stV N.length ds)) :
    FnOk P w K mg base (L2.CX P w) (k + 1) f fd ps (spV W ps.length fv) :=
  F.okX S (fun vs H Q E h => h.1) fun cdv Ar outer s H vs Q E hr h => body_of hp h fun A hA hz => hbody cdv Ar outer s H E A hA hz hr
theorem FunD.okV {x qual : Str} {params : Arguments} {body : List Stmt} {scope : Scope} {dvs : List V} {kws : List (Str × V)} {f : Addr} {fd : FuncData} {N ps : List Str} {k : Nat} {W : Wd} {fv : Fd} (F : FunD K x qual params body scope dvs kws f fd) (S : FnScope N ps scope) (hp : ps.length ≤ N.length)
    (hbody : ∀ (cdv : Value) (Ar : Around) (outer : List Env) (s : Shared) (H : Hp) (E : XK) (A : Am), A.W = W → (∀ a, ¬ A.z a) → Room k (Ar.deeper (envOfC qual scope s.heap.objs.size f cdv)) →
      ∃ τ, VSs (cxOf (L2.CX P w) P w K mg base N qual scope f cdv Ar outer s H E) A (fun _ => E) body τ ∧ ∀ ds Q R, ds.length = ps.length → fv ds Q R → τ { nx := fun _ => Q .non, rt := Q, ex := R } (stV N.length ds)) :
    FnOk P w K mg base (L2.CX P w) (k + 1) f fd ps (spV W ps.length fv) :=
  F.ok S (fun vs H Q E h => h.1) fun cdv Ar outer s H vs Q E hr h => body_of hp h fun A hA hz => hbody cdv Ar outer s H E A hA hz hr
end
end Bs
/-! A lambda that is handed on: what is promised of its call, wherever it is called. -/
namespace Bs
open PySem PySem.Spec PyProof.Rows L2 LamX
theorem un_deep {fs : List Addr} {n : Addr} {H H1 H2 : Hp} {h h1 h2 : Heap} (a : Un fs [] H H1 h h1) (b : Un (n :: fs) [] H1 H2 h1 h2) (hn : ∀ o, h.get? n = some o → False) : Un fs [] H H2 h h2 where
  keep := fun c ob q z hc hx => b.keep c ob (a.keep c ob q z hc hx) (a.free c ob q z hx) (fun m => (List.mem_cons.mp m).elim (fun e => hn ob (e ▸ q)) hc) hx
  slot := fun c ob q z hc hx => by
    obtain ⟨sl, e1⟩ := a.slot c ob q z hc hx
    obtain ⟨sl2, e2⟩ := b.slot c _ e1 (a.free c ob q z hx) (List.mem_cons_of_mem _ hc) hx
    exact ⟨sl2, e2⟩
  free := fun c ob q z hx => by
    obtain ⟨o2, e1⟩ := a.there c ob q hx
    exact b.free c o2 e1 (a.free c ob q z hx) hx
  there := fun c ob q hx => by
    obtain ⟨o2, e1⟩ := a.there c ob q hx
    exact b.there c o2 e1 hx
  tups := fun c xs q => b.tups c xs (a.tups c xs q)
  frzs := fun c ob u q => b.frzs c ob u (a.frzs c ob u q)
  tbls := fun c ps q => by
    obtain ⟨m1, e1⟩ := a.tbls c ps q
    obtain ⟨m2, e2⟩ := b.tbls c _ e1
    exact ⟨m1 ++ m2, by rw [e2, Array.append_assoc]⟩
/-- f, called without arguments at a state that follows (s0, H0), keeps sp -/
def ThkOk (P : Program) (w : World) (K : PySem.W.Frag) (mg : Str → Option Value) (base : Heap) (k : Nat) (fs : List Addr) (s0 : Shared) (H0 : Hp) (f : Addr) (sp : XK → Hp → VK → Prop) : Prop :=
  (∀ (H : Hp) (s : Shared), Un fs [] H0 H s0.heap s.heap → PySem.W.FnAt f s.heap) ∧
  ∀ (A : Around) (outer : List Env) (s : Shared) (H : Hp) (Q : VK) (E : XK), Room k A → Env0 P w K mg base A outer s H → Un fs [] H0 H s0.heap s.heap → sp E H Q →
    codeAny (model P w) A (.call (.ref f) ⟨[], []⟩) (CR (L2.CX P w) outer P w H s Q E) s
section
variable {X : Cx} {pins : List (Addr × Obj)} {σ : L2.St} {H : Hp} {s : Shared}
theorem thk_of {f c' : Addr} {pm ctv : Value} {params : Arguments} {body : Expr} {scope : Scope} {k : Nat} {t : XK → TE}
    (I : Inv X pins σ H s) (L : LamS X.env.scope scope) (hf : s.heap.get? f = some (PySem.W.kla_obj "<lambda>" (X.env.qual ++ "<lambda>") params body scope (cloFrom X.env.cells scope.names []) pm c' ctv)) (hfn : H f = none) (hfr : f ∉ frs X.stack)
    (hbind : bindArgs (PySem.W.kla_fn "<lambda>" (X.env.qual ++ "<lambda>") params body scope (cloFrom X.env.cells scope.names []) pm (.ref c') ctv) ⟨[], []⟩ = pure [])
    (hbody : ∀ (A : Around) (outer : List Env) (s : Shared) (H : Hp) (E : XK), Room k (A.deeper (lamEnv X scope s.heap.objs.size f c')) → PE (lamCx X A outer s H E scope f c') body (t E)) :
    ThkOk X.prog X.w X.K X.mg X.base (k + 1) (frs X.stack) s H f (fun E HZ Q => HZ c' = some (CodeO c' (X.env.qual ++ "<lambda>")) ∧ t E σ HZ Q) := by
  have at_ : ∀ (HZ : Hp) (s1 : Shared), Un (frs X.stack) [] H HZ s.heap s1.heap → s1.heap.get? f = some (PySem.W.kla_obj "<lambda>" (X.env.qual ++ "<lambda>") params body scope (cloFrom X.env.cells scope.names []) pm c' ctv) := fun HZ s1 un => un.keep f _ hf hfn hfr (by simp)
  refine ⟨fun HZ s1 un => ⟨_, _, _, _, at_ HZ s1 un⟩, fun A outer s1 HZ Q E hr e0 un ⟨hc, ht⟩ => ?_⟩
  obtain ⟨⟨oc, vs, tk, hoc, hdc, hvc⟩, _, _⟩ := e0.hok c' _ hc
  have lim : s1.heap.NoLimit := e0.mod.nolimit.keeps fun b o e => (e0.bs b o e).1
  refine PySem.W.kla_callFunE hr.depth (at_ HZ s1 un) rfl L.co L.gen rfl ⟨c', oc, vs, tk, rfl, hoc, hdc, hvc⟩ ?_
  rw [hbind]
  refine wpAny_pure (wpAny_newFunctionEnv (fun y hy => (L.own y hy).2) (fun y hy => absurd hy (by simp)) (fun h₁ hns hsb => ⟨lim.fresh _ hsb, ?_⟩) L.kind)
  show codeAny _ _ (.expr body (lamEnv X scope s1.heap.objs.size f c')) _ _
  have kp : ∀ b o, s1.heap.get? b = some o → h₁.get? b = some o := fun b o e => hsb.extBut b o (Nat.ne_of_lt (Heap.lt_size e)) (Heap.get?_push_of_some _ e)
  have J : Inv (lamCx X A outer s1 HZ E scope f c') [] σ HZ { s1 with heap := h₁, toks := s1.toks + ([] : List (Str × Value)).length } := lam_start2 I L e0 hr.hd un hns kp
  refine PySem.W.kla_codeExpr (wpAny_mono ((hbody _ _ s1 HZ E (hr.deeper _)).run [] _ _ HZ Q J ht) (fun v s' hq => ?_) fun e s' hq => hq)
  obtain ⟨w', H', J', rv, q⟩ := hq
  exact ⟨w', H', J'.os, J'.bare, J'.base, J'.hok, rv, q⟩
/-- x(), in a context that follows the promise's state -/
theorem pe_thk {k i : Nat} {fs : List Addr} {s0 : Shared} {H0 : Hp} {f : Addr} {sp : XK → Hp → VK → Prop} {x : Str} {E : XK} {p1 p2 : Pos} (Th : ThkOk X.prog X.w X.K X.mg X.base k fs s0 H0 f sp) (hr : Room k X.A)
    (hU : ∀ (H : Hp) (h : Heap), Un X.fs X.ex X.H_0 H X.s_0.heap h → Un fs [] H0 H s0.heap h) (hx : Passes (L2.CX X.prog X.w) X E)
    (hN : X.N[i]? = some x) (hv : Vis X.env.scope x) (hd : (x == ("__debug__" : Str)) = false := by decide) (hcd : (x == ("__classdict__" : Str)) = false := by decide) :
    PE X (.Call (.Name x p1) [] [] p2) (fun σ H Q => σ[i]? = some (some (.ref f)) ∧ sp E H Q) := by
  refine ⟨fun pins s σ H Q I ⟨hs, h⟩ => ?_⟩
  refine wpAny_Call_Name_kw (thn ((pe_var (pos := p1) (i := i) hN hv hd hcd).run pins s σ H (fun v H1 => v = .ref f ∧ H1 = H) I ⟨.ref f, hs, rfl, rfl⟩) fun u s1 ⟨v, H1, I1, r1, ev, eH⟩ => ?_)
  subst ev
  subst eH
  obtain rfl : u = Value.ref f := r1
  have un := hU _ _ I1.base
  refine PySem.W.callWith_F0 (Th.1 _ s1 un) ?_
  refine wpAny_call (codeAny_mono (Th.2 _ _ s1 _ Q E hr I1.env0 un h) fun r s' hq => ?_)
  cases r with
  | error e => exact hx pins σ _ s1 e s' I1 hq
  | ok fl =>
    cases fl with
    | ret u => exact I1.after hq
    | next => exact False.elim hq
    | brk => exact False.elim hq
    | cont => exact False.elim hq
end
end Bs
namespace Bs
open PySem PySem.Spec PyProof.Rows L2 LamX
/-! ### defs that are called with defaults, by keywords; defs that make lambdas -/
def FnDE (P : Program) (w : World) (K : PySem.W.Frag) (mg : Str → Option Value) (base : Heap) (CX : CXT) (k : Nat) (x : Str) (ps : List Str) (sp : Sp) (dvs : List V) : Prop :=
  ∃ f fd, FnOk P w K mg base CX k f fd ps sp ∧ mg x = some (.ref f) ∧ PySem.W.keepIn K (.ref f) = true ∧ ∃ ds, Vals dvs ds ∧ Binds K fd ps ds
def FnKE (P : Program) (w : World) (K : PySem.W.Frag) (mg : Str → Option Value) (base : Heap) (CX : CXT) (k : Nat) (x : Str) (ps : List Str) (sp : Sp) (ks : List Str) (gV : List V → List V → List V) : Prop :=
  ∃ f fd, FnOk P w K mg base CX k f fd ps sp ∧ mg x = some (.ref f) ∧ PySem.W.keepIn K (.ref f) = true ∧ ∃ g, KBn K fd ps 0 ks g gV
def tFD (sp : Sp) (dvs : List V) (E : XK) (t : TA) : TE := fun σ H Q => t σ H fun vs H1 => sp (vs ++ dvs) H1 Q E
def tFK (sp : Sp) (n : Nat) (gV : List V → List V → List V) (E : XK) (tk : TA) : TE := fun σ H Q => tk σ H fun zs H1 => zs.length = n ∧ sp (gV [] zs) H1 Q E
section
variable {X : Cx} {CX : CXT} {k : Nat} {ps ks : List Str} {sp : Sp} {dvs : List V} {gV : List V → List V → List V} {E : XK} {x : Str} {p pos : Pos} {e : Expr} {es : List Expr} {kws : List Keyword} {t tk : TA}
theorem fnD (F : FnDE X.prog X.w X.K X.mg X.base CX k x ps sp dvs) (hr : Room k X.A) (hg : Gl X x) (hx : Passes CX X E) (ha : PA X (e :: es) t) (hdb : (x == ("__debug__" : Str)) = false := by decide)
    (he : starEach (e :: es) X.env = (false, eval e X.env) :: starEach es X.env := by rfl) (hpl : (backTo pos (starEach es X.env)).any (·.1) = false := by rfl) : PE X (.Call (.Name x p) (e :: es) [] pos) (tFD sp dvs E t) := by
  obtain ⟨f, fd, ok, hm, kp, ds, hd, hb⟩ := F
  exact PE.imp (pe_call ok hr hg hm kp hb hd hx ha hdb he hpl) fun σ H Q h => h
theorem fnK (F : FnKE X.prog X.w X.K X.mg X.base CX k x ps sp ks gV) (hr : Room k X.A) (hg : Gl X x) (hx : Passes CX X E) (hkw : PK X kws tk) (hall : (backToKw pos (keywordEach kws X.env)).all (·.1.isSome) = true := by rfl)
    (hks : (backToKw pos (keywordEach kws X.env)).filterMap (·.1) = ks := by rfl) (hdb : (x == ("__debug__" : Str)) = false := by decide)
    (hpl : ((backTo pos (starEach [] X.env)).any (·.1) || (backToKw pos (keywordEach kws X.env)).any (·.1.isNone)) = false := by rfl) : PE X (.Call (.Name x p) [] kws pos) (tFK sp ks.length gV E tk) := by
  obtain ⟨f, fd, ok, hm, kp, g, hb⟩ := F
  refine ⟨fun pins s σ H Q I h => ?_⟩
  refine wpAny_Call_Name_kw (ld_glob I hg hm ?_ hdb)
  refine PySem.W.callWith_KW0 (h₀ := X.base) I.ok.mod.kin kp hall ?_ hpl
  refine thn (hkw.run pos pins s σ H _ I h) fun ws s2 ⟨zs, H2, I2, rz, l2, q2⟩ => ⟨I2.kIn, ?_⟩
  rw [hks]
  exact run_fnN (us := []) (vs := []) ok hr hb hx I2 .nil rz rfl l2 q2
/-- what a call of the lambda's body may let out goes on -/
theorem lamX {X : Cx} {A : Around} {outer : List Env} {s : Shared} {H : Hp} {E : XK} {scope : Scope} {f c' : Addr} : Passes (L2.CX X.prog X.w) (lamCx X A outer s H E scope f c') E := passes_call (takes_of rfl rfl rfl rfl) (fun _ _ _ _ h => h)
end
/-- a def whose code object stands at c -/
structure FunC (K : PySem.W.Frag) (x qual : Str) (st : Stmt) (f : Addr) (fd : FuncData) (c : Addr) : Prop where
  ex : ∃ (oc : Value) (od : Option Addr) (kV doc pm : Value) (an : Option Addr) (ct : Value) (osl : Array (Option Value)),
    fd = PySem.W.fnOf x qual (defArgs st) (defBody st) (defScope st) .none kV doc pm an (.ref c) ct ∧ K.lookup f = some ⟨oc, od, .func fd, osl⟩ ∧ PySem.W.codeIn K (.ref c) qual = true
  kp : PySem.W.keepIn K (.ref f) = true
theorem FunC.ok {P : Program} {w : World} {K : PySem.W.Frag} {mg : Str → Option Value} {base : Heap} {x qual : Str} {st : Stmt} {f c : Addr} {fd : FuncData} {N ps : List Str} {k : Nat} {sp : Sp} (F : FunC K x qual st f fd c) (S : FnScope N ps (defScope st)) (len : ∀ vs H Q E, sp vs H Q E → vs.length = ps.length)
    (hbody : ∀ (A : Around) (outer : List Env) (s : Shared) (H : Hp) (vs : List V) (Q : VK) (E : XK), Room k (A.deeper (envOfC qual (defScope st) s.heap.objs.size f (.ref c))) → sp vs H Q E →
      ∃ t, PSs (cxOf CX0 P w K mg base N qual (defScope st) f (.ref c) A outer s H E).nox (defBody st) t ∧ t { nx := fun _ H' => Q .non H', rt := Q } (L2.start N vs) H) : FnOk P w K mg base CX0 (k + 1) f fd ps sp := by
  obtain ⟨oc, od, kV, doc, pm, an, ct, osl, rfl, lk, hcd⟩ := F.ex
  refine fn_of lk hcd S len fun A outer s H vs Q E hr hsp => ?_
  obtain ⟨t, h, q⟩ := hbody A outer s H vs Q E hr hsp
  exact ⟨t, h.nox, q⟩
end Bs
/-! Chains, stores by place, calls of defs by a bundle. -/
namespace Bs
open PySem PySem.Spec PyProof.Rows L2
section
variable {X : Cx} {A : Am} {E : L2.St → XK} {e a b c tg : Expr} {es rest : List Expr} {τ τa τb τc : TV D} {τt : TV Bool} {τl : TV (List D)} {pos : Pos}
/-! ### a op b op c -/
@[simp] def vChain (f g : D → D → (D → Prop) → Prop) (τa τb τc : TV D) : TV D := fun env Q R => τa env (fun d => τb env (fun e => f d e fun v => bOf v fun k => if k = true then τc env (fun w => g e w Q) R else Q (.bl false)) R) R
theorem chain_read {f g : D → D → (D → Prop) → Prop} {r r' : R2} {ξ α : Type} {R3 : (Addr → Prop) → Hp → ξ → α → Prop} {σ : L2.St} {H : Hp} {Q : ξ → Hp → Prop} {G : D → (α → Prop) → Prop} {G' : VK → (ξ → Hp → Prop)}
    (hs : ∀ S env σ H x y d e Qd (Q : VK), StR A S env σ H → RepR A.W A.z S H x d → RepR A.W A.z S H y e → f d e Qd → (∀ d x H', Fx A H H' → Rep A.W S H' x d → Qd d → Q x H') → r x y H Q)
    (hs' : ∀ S env σ H x y d e Qd (Q : VK), StR A S env σ H → RepR A.W A.z S H x d → RepR A.W A.z S H y e → g d e Qd → (∀ d x H', Fx A H H' → Rep A.W S H' x d → Qd d → Q x H') → r' x y H Q)
    (Qv : VK) (hqv : ∀ S env σ H' d x (Qd : α → Prop), StR A S env σ H' → Rep A.W S H' x d → G d Qd → (∀ a x H2, Fx A H' H2 → R3 S H2 x a → Qd a → Q x H2) → Qv x H')
    (h : LfG A E R3 (fun env Q R => τa env (fun d => τb env (fun e => f d e fun v => bOf v fun k => if k = true then τc env (fun w => g e w fun u => G u Q) R else G (.bl false) Q) R) R) σ H Q) :
    tChain r r' (LfG A E (rR A) τa) (LfG A E (rR A) τb) (LfG A E (rR A) τc) σ H Qv := by
  obtain ⟨S, env, Qd, Rd, st, h, hq, hr⟩ := h
  refine ⟨S, env, _, Rd, st, h, fun d x H1 f1 r1 q1 => ⟨S, env, _, Rd, st.fx f1, q1, fun e y H2 f2 r2 q2 => ?_, fun ex C dd H' f => hr ex C dd H' (f1.trans f)⟩, hr⟩
  have st2 := (st.fx f1).fx f2
  have r1' := kept_R S H1 H2 x d st.s0 f2 r1
  refine hs S env σ H2 x y d e _ _ st2 r1' r2 q2 fun v z H3 f3 rz q3 => ?_
  unfold bOf at q3
  split at q3
  · rename_i k
    refine ⟨k, (RepR.rep (z := A.z) rz).bl, ?_⟩
    have f123 := (f1.trans f2).trans f3
    cases k with
    | true => exact ⟨S, env, _, Rd, st2.fx f3, q3, fun w u H4 f4 r4 q4 => hs' S env σ H4 y u e w _ _ ((st2.fx f3).fx f4) (kept_R S H2 H4 y e st.s0 (f3.trans f4) r2) r4 q4 fun v' x' H5 f5 r5 q5 =>
        hqv S env σ H5 v' x' Qd (((st2.fx f3).fx f4).fx f5) r5 q5 fun a x H6 f6 r6 q6 => hq a x H6 (((f123.trans f4).trans f5).trans f6) r6 q6, fun ex C dd H' f => hr ex C dd H' (f123.trans f)⟩
    | false => exact hqv S env σ H3 _ _ Qd (st2.fx f3) .bl q3 fun a x H6 f6 r6 q6 => hq a x H6 (f123.trans f6) r6 q6
  · exact q3.elim
theorem v_chain {op op' : CmpOp} {f g : D → D → (D → Prop) → Prop} (ho : OpV X A (compareOp op) f) (ho' : OpV X A (compareOp op') g) (ha : VR X A E a τa) (hb : VR X A E b τb) (hc : VR X A E c τc)
    (hm : lastMarks [op, op'] [b, c] = false := by with_unfolding_all rfl) : VE X A E (.Compare a [op, op'] [b, c] pos) (vChain f g τa τb τc) := by
  obtain ⟨r, ho, hs⟩ := ho
  obtain ⟨r', ho', hs'⟩ := ho'
  exact ⟨PE.imp (pe_chain ho ho' ha.run hb.run hc.run hm) fun σ H Q h => chain_read (R3 := rV A) (Q := Q) (G := fun d (Q : D → Prop) => Q d) (G' := fun q => q) hs hs' Q (fun S env σ H' d x Qd st r h k => k d x H' (Fx.refl st.am) r h) h⟩
@[simp] def vChainT (f g : D → D → (D → Prop) → Prop) (τa τb τc : TV D) : TV Bool := fun env Q R => τa env (fun d => τb env (fun e => f d e fun v => bOf v fun k => if k = true then τc env (fun w => g e w fun u => bOf u Q) R else bOf (.bl false) Q) R) R
theorem vt_chain {op op' : CmpOp} {f g : D → D → (D → Prop) → Prop} (ho : OpV X A (compareOp op) f) (ho' : OpV X A (compareOp op') g) (ha : VR X A E a τa) (hb : VR X A E b τb) (hc : VR X A E c τc)
    (hm : lastMarks [op, op'] [b, c] = false := by with_unfolding_all rfl) : VT X A E (.Compare a [op, op'] [b, c] pos) (vChainT f g τa τb τc) := by
  obtain ⟨r, ho, hs⟩ := ho
  obtain ⟨r', ho', hs'⟩ := ho'
  refine ⟨PT.imp (pt_chain ho ho' ha.run hb.run hc.run hm) fun σ H Q h => ?_⟩
  refine chain_read (R3 := rB) (Q := Q) (G := fun d (Q : Bool → Prop) => bOf d Q) (G' := fun q => fun _ _ => True) hs hs' _ (fun S env σ H' d x Qd st r h k => ?_) h
  unfold bOf at h
  split at h
  · exact ⟨_, (RepR.rep (z := A.z) r).bl, k _ _ H' (Fx.refl st.am) rfl h⟩
  · exact h.elim
/-! ### x[k] = e, x the frame's own list -/
theorem vs_put {i : Nat} {x : Str} {pos' spos : Pos} (hN : X.N[i]? = some x) (hv : Vis X.env.scope x) (he : VE X A E e τ) (hk : VE X A E b τb) (hd : (x == ("__debug__" : Str)) = false := by decide) (hcd : (x == ("__classdict__" : Str)) = false := by decide)
    (ha : ∀ v, assign (.Subscript (.Name x pos') b spos) X.env v = (do
      let ov ← holding [v] (eval (.Name x pos') X.env)
      let iv ← holding [v, ov] (eval b X.env)
      standAt spos
      holding [v, ov, iv] (setItem ov iv v)
      release [v, ov, iv] []) := by intro _; rfl)
    (hs : swapsWithSole [.Subscript (.Name x pos') b spos] e pos.line X.env = pure false := by rfl) (hw : swappedStores [.Subscript (.Name x pos') b spos] e X.env = pure none := by rfl) (h1 : (assignEach [.Subscript (.Name x pos') b spos] X.env).map (·.2) = [assign (.Subscript (.Name x pos') b spos) X.env] := by rfl) :
    VS X A E (.Assign [.Subscript (.Name x pos') b spos] e pos) (vPut i τ τb) :=
  ⟨PS.imp (ps_asg he.run (pg_sub (pe_var (i := i) hN hv hd hcd) hk.run s_list ha) hs hw h1) fun D' σ H h => by
    obtain ⟨S, env, Vn, st, h, k⟩ := h
    unfold vPut at h
    split at h
    · rename_i ds hd
      refine ⟨S, env, _, _, st, h, fun d y H1 f1 r1 q1 => ?_, fun ex C dd H' f xr q => k.ex ex C dd σ H' (st.fx f).bf xr q⟩
      have st1 := st.fx f1
      have k1 := k.from_ (st.mn f1)
      obtain ⟨he1, p, xs, h2, h3, r⟩ := st1.ownL hd
      refine ⟨_, h2, S, env, _, _, st1, q1, fun e z H2 f2 r2 q2 => ?_, fun ex C dd H' f xr q => k1.ex ex C dd σ H' (st1.fx f).bf xr q⟩
      have st2 := st1.fx f2
      obtain ⟨_, p2, xs2, h4, h5, r5⟩ := st2.ownL hd
      rw [h2] at h4; cases h4
      cases e with
      | int j =>
        obtain ⟨m, hm, q⟩ := q2
        rw [(RepR.rep (z := A.z) r2).int]
        refine ⟨xs2, m, h5, by rw [r5.length]; exact hm, ?_⟩
        have ry := r1.mono (st1.mn f2)
        obtain ⟨st3, m3⟩ := st2.put (o' := .lst (xs2.set m y)) (d' := .lst (ds.set m d)) he1 h2 h5 (.lst (r5.set m ry)) rfl
        exact k1.nx _ _ _ _ st3 ((st1.mn f2).trans m3) q
      | _ => exact q2.elim
    · exact h.elim⟩
/-! ### calls of defs -/
/-- a def, as its callers know it over trees -/
structure FnV (P : Program) (w : World) (K : PySem.W.Frag) (mg : Str → Option Value) (base : Heap) (k : Nat) (x : Str) (ps : List Str) (W : Wd) (f : Fd) : Prop where
  ex : ∃ g fd, Fn P w K mg base (L2.CX P w) k x ps (spV W ps.length f) g fd
  len : ∀ ds Q R, f ds Q R → ds.length = ps.length
variable {k : Nat} {ps : List Str} {f : Fd} {E' : XK} {x : Str} {p : Pos} {W : Wd}
theorem v_fn (F : FnV X.prog X.w X.K X.mg X.base k x ps W f) (hW : A.W = W) (hr : Room k X.A) (hg : Gl X x) (hx : Passes (L2.CX X.prog X.w) X E') (hE : ∀ σ C dd H, E σ C dd H → E' C dd H)
    (ha : VA X A E (e :: es) τl) (hdb : (x == ("__debug__" : Str)) = false := by decide) (he : starEach (e :: es) X.env = (false, eval e X.env) :: starEach es X.env := by rfl) (hpl : (backTo pos (starEach es X.env)).any (·.1) = false := by rfl) :
    VE X A E (.Call (.Name x p) (e :: es) [] pos) (vCall f τl) := by
  obtain ⟨⟨g, fd, F⟩, len⟩ := F
  exact ⟨PE.imp (fn F hr hg hx ha.run hdb he hpl) fun σ H Q h =>
    LfG.then_ (g := fun (dd : List D) env Q R => f dd Q R) (r := fun vs σ H1 Q => spV W ps.length f vs H1 Q E') (fun S env σ H vs ds Qd Rd Q st r hg hq hr =>
      spV_of hW st (by rw [r.length]; exact len _ _ _ hg) r hg hq fun ex C dd H' f h i => hE σ C dd H' (hr ex C dd H' f h i)) h⟩
end
end Bs
/-! Draws over trees: defs whose first argument is the store. -/
namespace Bs
open PySem PySem.Spec PyProof.Rows L2 K0
/-- what a drawing def is worth, over trees, its store left out -/
abbrev Gd := List D → (D → Prop) → Prop
def spD (W : Wd) (n : Nat) (g : Gd) : Sp := fun vs H Q _ => vs.length = n ∧ ∃ a c vs' S ds Qd, vs = .ref a :: vs' ∧ StAt H a c ∧ S a ∧ S c ∧ (∀ b, S b → ∃ o, H b = some o ∧ nt o) ∧ RepL W S H vs' ds ∧ g ds Qd ∧
  ∀ d x H', Grow a H H' → StAt H' a c → Rep W S H' x d → Qd d → Q x H'
/-- the store is what may change by itself here -/
structure StAm (A : Am) (a c : Addr) : Prop where
  st : A.st = some a
  z : A.z a
  s : A.S0 a
  sc : A.S0 c
  am : ∀ H, A.am H → StAt H a c
  am' : ∀ H H', A.am H → Grow a H H' → StAt H' a c → A.am H'
/-- a def, as its callers know it: it raises nothing -/
structure FnN (P : Program) (w : World) (K : PySem.W.Frag) (mg : Str → Option Value) (base : Heap) (k : Nat) (x : Str) (ps : List Str) (W : Wd) (f : Gd) : Prop where
  ex : ∃ g fd, Fn P w K mg base CX0 k x ps (spV W ps.length fun ds Q _ => f ds Q) g fd
  len : ∀ ds Q, f ds Q → ds.length = ps.length
structure FnD (P : Program) (w : World) (K : PySem.W.Frag) (mg : Str → Option Value) (base : Heap) (k : Nat) (x : Str) (ps : List Str) (W : Wd) (f : Gd) : Prop where
  ex : ∃ g fd, Fn P w K mg base CX0 k x ps (spD W ps.length f) g fd
  len : ∀ ds Q, f ds Q → ds.length + 1 = ps.length
section
variable {X : Cx} {A : Am} {E : L2.St → XK} {e : Expr} {es : List Expr} {τl : TV (List D)} {pos : Pos} {k : Nat} {ps : List Str} {f : Gd} {x : Str} {p : Pos} {W : Wd}
@[simp] def vCallN (f : Gd) (τl : TV (List D)) : TV D := fun env Q R => τl env (fun ds => f ds Q) R
theorem v_fnN (F : FnN X.prog X.w X.K X.mg X.base k x ps W f) (hW : A.W = W) (hr : Room k X.A) (hg : Gl X x)
    (ha : VA X A E (e :: es) τl) (hdb : (x == ("__debug__" : Str)) = false := by decide) (he : starEach (e :: es) X.env = (false, eval e X.env) :: starEach es X.env := by rfl) (hpl : (backTo pos (starEach es X.env)).any (·.1) = false := by rfl) :
    VE X A E (.Call (.Name x p) (e :: es) [] pos) (vCallN f τl) := by
  obtain ⟨⟨g, fd, F⟩, len⟩ := F
  exact ⟨PE.imp (fn F hr hg pass0 ha.run hdb he hpl) fun σ H Q h =>
    LfG.then_ (g := fun (dd : List D) env Q R => f dd Q) (r := fun vs σ H1 Q => spV W ps.length (fun ds Q _ => f ds Q) vs H1 Q E0) (fun S env σ H vs ds Qd Rd Q st r hg hq hr =>
      spV_of (Rd := fun _ => False) hW st (by rw [r.length]; exact len _ _ hg) r hg hq fun _ _ _ _ _ _ i => i.elim) h⟩
/-- f(store, e, ..) -/
@[simp] def vDraw (i : Nat) (f : Gd) (τl : TV (List D)) : TV D := fun env Q R => env[i]? = some .st ∧ τl env (fun ds => f ds Q) R
theorem v_draw {a c : Addr} (sA : StAm A a c) (i : Nat) {y : Str} {py : Pos} (F : FnD X.prog X.w X.K X.mg X.base k x ps W f) (hW : A.W = W) (hr : Room k X.A) (hg : Gl X x) (ha : VA X A E es τl)
    (hN : X.N[i]? = some y := by rfl) (hv : Vis X.env.scope y := by first | exact Or.inl rfl | exact Or.inr (Or.inl rfl) | exact Or.inr (Or.inr rfl)) (hd : (y == ("__debug__" : Str)) = false := by decide) (hcd : (y == ("__classdict__" : Str)) = false := by decide)
    (hdb : (x == ("__debug__" : Str)) = false := by decide) (hs : starEach (.Name y py :: es) X.env = (false, eval (.Name y py) X.env) :: starEach es X.env := by rfl) (hpl : (backTo pos (starEach es X.env)).any (·.1) = false := by rfl) :
    VE X A E (.Call (.Name x p) (.Name y py :: es) [] pos) (vDraw i f τl) := by
  obtain ⟨⟨g, fd, F⟩, len⟩ := F
  refine ⟨PE.imp (fn F hr hg pass0 (pa_cons (pe_var (i := i) hN hv hd hcd) ha.run hs) hdb hs hpl) fun σ H Q h => ?_⟩
  obtain ⟨S, env, Qd, Rd, st, ⟨h0, h⟩, hq, hr⟩ := h
  obtain ⟨u, h2, q0, sl⟩ := st.at h0
  cases sl with
  | st hz =>
    rw [sA.st] at hz; cases hz
    refine ⟨_, h2, S, env, _, Rd, st, h, fun ds xs H1 f1 r1 q1 => ?_, hr⟩
    subst hW
    have st1 := st.fx f1
    refine ⟨?_, a, c, xs, S, ds, Qd, rfl, sA.am H1 st1.am, st1.s0 a sA.s, st1.s0 c sA.sc, st1.dom, r1, q1, fun d x H' g s r q => ?_⟩
    · rw [List.length_cons, r1.length]
      exact len _ _ q1
    · exact hq d x H' (f1.trans ⟨fun b o e z _ => g b o (by rintro rfl; exact z sA.z) e, sA.am' H1 H' st1.am g s⟩) r q
end
/-! ### defs that raise nothing -/
def amDr (W : Wd) (S : Addr → Prop) (H : Hp) (a c : Addr) (ha : S a) (hc : S c) : Am where
  W := W
  S0 := S
  H0 := H
  z := fun b => b = a
  am := fun H => StAt H a c
  zs := fun b h => h ▸ ha
  zd := fun H b s h => by
    obtain ⟨cells, p, w, x, n, t, sd, s⟩ := s
    subst h
    exact ⟨_, s.at_, trivial⟩
  al := fun H H' s h => by
    obtain ⟨cells, p, w, x, n, t, sd, s⟩ := s
    exact ⟨cells, p, w, x, n, t, sd, h _ _ s.at_ (.inr ha), h _ _ s.cl (.inr hc), s.ne, s.pp⟩
  k := fun _ => True
  kd := fun _ _ => trivial
  st := some a
theorem stAm_dr {W : Wd} {S : Addr → Prop} {H : Hp} {a c : Addr} {ha : S a} {hc : S c} : StAm (amDr W S H a c ha hc) a c := ⟨rfl, rfl, ha, hc, fun _ h => h, fun _ _ _ _ h => h⟩
section
variable {P : Program} {w : World} {K : PySem.W.Frag} {mg : Str → Option Value} {base : Heap}
theorem Fun.okN {x qual : Str} {st : Stmt} {f : Addr} {fd : FuncData} {N ps : List Str} {k : Nat} {W : Wd} {fv : Gd} (F : Fun K x qual st f fd) (S : FnScope N ps (defScope st)) (hp : ps.length ≤ N.length)
    (hbody : ∀ (cdv : Value) (Ar : Around) (outer : List Env) (s : Shared) (H : Hp) (E : XK) (A : Am), A.W = W → Room k (Ar.deeper (envOfC qual (defScope st) s.heap.objs.size f cdv)) →
      ∃ τ, VSs (cxOf CX0 P w K mg base N qual (defScope st) f cdv Ar outer s H E).nox A EN (defBody st) τ ∧ ∀ ds Q, ds.length = ps.length → fv ds Q → τ { nx := fun _ => Q .non, rt := Q, ex := fun _ => False } (stV N.length ds)) :
    FnOk P w K mg base CX0 (k + 1) f fd ps (spV W ps.length fun ds Q _ => fv ds Q) :=
  F.ok S (fun vs H Q E h => h.1) fun cdv Ar outer s H vs Q E hr h => by
    obtain ⟨hl, S', ds, Qd, Rx, hS, r, hf, hq, _⟩ := h
    obtain ⟨τ, hv, hi⟩ := hbody cdv Ar outer s H E (amOf W S' H) rfl hr
    refine ⟨_, hv.run, S', _, _, st_start hS r (by omega), hi ds Qd (by rw [← r.length]; exact hl) hf, ?_⟩
    have ext : ∀ {H'}, Bf (amOf W S' H) H' → Ext H H' := fun b c o e => b.base c o e (fun z => z) trivial
    exact ⟨fun S' env' σ' H' st m q => hq .non .non H' (ext st.bf) .non q, fun _ _ _ _ _ _ q => q.elim, fun _ _ _ _ _ _ q => q.elim, fun d x H' b r q => hq d x H' (ext b) r q, fun ex C dd σ' H' b xr q => q.elim, fun d o p H' b h0 hs hp r mu q => by
      have e : ∀ c u, H' c = some u → upd H' p o c = some u := fun c u e => (upd_ne (ne_of_none e hp)).trans e
      exact hq d _ _ (fun c u eu => e c u (ext b c u eu)) (.ob hs upd_same (r.mono fun c u hs eu _ => ⟨hs, u, e c u eu, rfl⟩)) q⟩
/-- the slots of a drawing def at its start -/
@[simp] def stD (n : Nat) (ds : List D) : List Sl := .st :: stV (n - 1) ds
theorem Fun.okD {x qual : Str} {st : Stmt} {f : Addr} {fd : FuncData} {N ps : List Str} {k : Nat} {W : Wd} {fv : Gd} (F : Fun K x qual st f fd) (S : FnScope N ps (defScope st)) (hp : ps.length ≤ N.length)
    (hbody : ∀ (cdv : Value) (Ar : Around) (outer : List Env) (s : Shared) (H : Hp) (E : XK) (A : Am) (a c : Addr), A.W = W → StAm A a c → Room k (Ar.deeper (envOfC qual (defScope st) s.heap.objs.size f cdv)) →
      ∃ τ, VSs (cxOf CX0 P w K mg base N qual (defScope st) f cdv Ar outer s H E).nox A EN (defBody st) τ ∧ ∀ ds Q, ds.length + 1 = ps.length → fv ds Q → τ { nx := fun _ => Q .non, rt := Q, ex := fun _ => False } (stD N.length ds)) :
    FnOk P w K mg base CX0 (k + 1) f fd ps (spD W ps.length fv) :=
  F.ok S (fun vs H Q E h => h.1) fun cdv Ar outer s H vs Q E hr h => by
    obtain ⟨hl, a, c, vs', S', ds, Qd, rfl, hst, ha, hc, hS, r, hf, hq⟩ := h
    obtain ⟨τ, hv, hi⟩ := hbody cdv Ar outer s H E (amDr W S' H a c ha hc) a c rfl stAm_dr hr
    rw [List.length_cons] at hl
    have rl := r.length
    refine ⟨_, hv.run, S', _, _, ?_, hi ds Qd (by omega) hf, ?_⟩
    · have base := @st_start W S' H (N.drop 1) vs' ds hS r (by rw [List.length_drop]; omega)
      rw [List.length_drop] at base
      have e : L2.start N (.ref a :: vs') = some (.ref a) :: L2.start (N.drop 1) vs' := by
        unfold L2.start
        rw [List.map_cons, List.cons_append, List.length_cons, List.length_drop, show N.length - (vs'.length + 1) = N.length - 1 - vs'.length by omega]
      rw [e]
      obtain ⟨q, hs, hap⟩ := base.sl
      refine ⟨by unfold stD; rw [List.length_cons, List.length_cons, base.len], ⟨fun i => q (i - 1), fun i e o h1 h2 => ?_, fun i j e e' hn h1 h2 o1 o2 => ?_⟩, fun _ h => h, hS, fun b o e _ _ => e, hst⟩
      · cases i with
        | zero => cases h1; cases h2; exact .st rfl
        | succ i =>
          show SlR _ _ _ (q i) o e
          cases hs i e o h1 h2 with
          | no => exact .no
          | sh r => exact .sh r
          | ow w => exact absurd w.s w.n0
          | ot _ _ w => exact absurd w.s w.n0
          | st z => cases z
      · cases i with
        | zero => cases h1; cases o1
        | succ i =>
          cases j with
          | zero => cases h2; cases o2
          | succ j => exact hap i j e e' (fun z => hn (by rw [z])) h1 h2 o1 o2
    · have ext : ∀ {H'}, Bf (amDr W S' H a c ha hc) H' → Grow a H H' := fun b c o z e => b.base c o e z trivial
      exact ⟨fun S2 env' σ' H' st m q => hq .non .non H' (ext st.bf) st.am .non q, fun _ _ _ _ _ _ q => q.elim, fun _ _ _ _ _ _ q => q.elim, fun d x H' b r q => hq d x H' (ext b) b.am r q, fun ex C dd σ' H' b xr q => q.elim, fun d o p H' b h0 hs hp r mu q => by
        have e : ∀ c u, H' c = some u → upd H' p o c = some u := fun c u e => (upd_ne (ne_of_none e hp)).trans e
        refine hq d _ _ (fun c u z eu => e c u (ext b c u z eu)) ?_ (.ob hs upd_same (r.mono fun c u hs eu _ => ⟨hs, u, e c u eu, rfl⟩)) q
        exact b.am.new hp⟩
end
/-! ### the store's own defs, over trees -/
def gTake : Gd := fun ds Q => ∃ lim : Int, ds = [.int lim] ∧ lim < 2 ^ 62 ∧ ∀ r : Int, 0 ≤ r → r < most lim → Q (.int r)
theorem spTake_D {W : Wd} {vs : List V} {H : Hp} {Q : VK} {E : XK} (h : spD W 2 gTake vs H Q E) : spTake vs H Q E := by
  obtain ⟨hl, a, c, vs', S, ds, Qd, rfl, st, ha, hc, hS, r, ⟨lim, rfl, hlim, hf⟩, hq⟩ := h
  cases r with
  | cons r t =>
    cases t
    rw [(RepR.rep (z := fun _ => True) r).int]
    exact ⟨a, c, lim, rfl, st, hlim, fun r H' h0 h1 s' o => hq _ _ H' o.grow s' .int (hf r h0 h1)⟩
/-- one of a text's signs, one of a list's items -/
def gPick : Gd := fun ds Q => match ds with
  | [.str z] => 0 < z.length ∧ z.length ≤ sizeLine ∧ ∀ c ∈ z.cps.toList, Q (.str (one c))
  | [.lst l] => 0 < l.length ∧ l.length ≤ sizeLine ∧ ∀ d ∈ l, Q d
  | [.tup l] => 0 < l.length ∧ l.length ≤ sizeLine ∧ ∀ d ∈ l, Q d
  | _ => False
end Bs
/-! What is said of a comprehension, of a loop, over trees. -/
namespace Bs
open PySem PySem.Spec PyProof.Rows L2
section
variable {γ : D → List Sl → (List Sl → Prop) → Prop} {tt : TV Bool} {te : TV D} {env0 : List Sl} {Q : D → Prop} {body : VTS} {Vn : VEnds}
theorem lcV_filt (p : D → Bool) (f : D → D) : ∀ (ds acc : List D), acc.length + ds.length ≤ sizeLine →
    (∀ d ∈ ds, ∀ (M : D → Prop) (B : Prop), (p d = true → M (f d)) → (p d = false → B) → γ d env0 fun env1 => tt env1 (fun b => if b = true then te env1 M (fun _ => False) else B) fun _ => False) →
    Q (.lst (acc ++ (ds.filter p).map f)) → lcV γ tt te env0 ds acc Q
  | [], acc, _, _, q => by simpa [lcV] using q
  | d :: ds, acc, hl, h, q => by
    unfold lcV
    rw [List.length_cons] at hl
    refine h d List.mem_cons_self _ _ (fun hp => ⟨by omega, ?_⟩) (fun hp => ?_)
    · refine lcV_filt p f ds (acc ++ [f d]) (by rw [List.length_append, List.length_singleton]; omega) (fun e he => h e (List.mem_cons_of_mem _ he)) ?_
      rw [List.filter_cons, if_pos hp, List.map_cons] at q
      rw [List.append_assoc]
      exact q
    · refine lcV_filt p f ds acc (by omega) (fun e he => h e (List.mem_cons_of_mem _ he)) ?_
      rw [List.filter_cons, if_neg (by rw [hp]; decide)] at q
      exact q
theorem lcV_map (f : D → D) (ds : List D) (hl : ds.length ≤ sizeLine) (h : ∀ d ∈ ds, ∀ (M : D → Prop), M (f d) → γ d env0 fun env1 => te env1 M fun _ => False)
    (q : Q (.lst (ds.map f))) : lcV γ vYes te env0 ds [] Q := by
  refine lcV_filt (fun _ => true) f ds [] (by simpa using hl) (fun d hd M B hm _ => ?_) ?_
  · have := h d hd M (hm rfl)
    simpa using this
  · have e : ds.filter (fun _ => true) = ds := List.filter_eq_self.mpr fun _ _ => rfl
    rw [e]
    exact q
/-- a loop by what is said ahead of each turn -/
theorem forV_ind (I : List D → List Sl → Prop) (step : ∀ d rest env (N : List Sl → Prop), I (d :: rest) env → (∀ env', I rest env' → N env') → γ d env fun env1 => body { Vn with nx := N, ct := N, bk := Vn.nx } env1)
    (fin : ∀ env, I [] env → Vn.nx env) : ∀ (ds : List D) (env : List Sl), I ds env → forV γ body ds Vn env
  | [], env, h => fin env h
  | d :: ds, env, h => step d ds env _ h (forV_ind I step fin ds)
theorem blL_map {α : Type} (f : α → Bool) : ∀ l : List α, blL (l.map fun x => D.bl (f x)) = some (l.map f)
  | [] => rfl
  | a :: l => by
    show (blL (l.map fun x => D.bl (f x))).map (f a :: ·) = _
    rw [blL_map f l]
    rfl
theorem stL_map : ∀ l : List Str, stL (l.map D.str) = some l
  | [] => rfl
  | a :: l => by
    show (stL (l.map D.str)).map (a :: ·) = _
    rw [stL_map l]
    rfl
theorem inL_map : ∀ l : List Int, inL (l.map D.int) = some l
  | [] => rfl
  | a :: l => by
    show (inL (l.map D.int)).map (a :: ·) = _
    rw [inL_map l]
    rfl
/-- the signs of a text, as trees -/
def sg (cs : List Nat) : List D := cs.map fun c => .str (one c)
theorem sg_st (cs : List Nat) : stL (sg cs) = some (cs.map one) := by
  have : sg cs = (cs.map one).map D.str := by simp [sg]
  rw [this, stL_map]
theorem isSub_ne {t c : String} (h : t ≠ c) (h2 : ¬ (t = "bool" ∧ c = "int")) : isSub t c = false := by
  unfold isSub
  rw [beq_false_of_ne h, Bool.false_or, Bool.and_eq_false_iff]
  by_cases e : t = "bool"
  · exact .inr (beq_false_of_ne fun z => h2 ⟨e, z⟩)
  · exact .inl (beq_false_of_ne e)
theorem notStr {d : D} {t : String} (h : ¬ ∃ z, d = .str z) (e : tyD d = some t) : isSub t "str" = false := by
  refine isSub_ne (fun z => ?_) (fun z => absurd z.2 (by decide))
  subst z
  cases d with
  | str z => exact h ⟨z, rfl⟩
  | _ => simp [tyD] at e
theorem notInt {d : D} {t : String} (h : ¬ ∃ z, d = .int z) (h2 : ¬ ∃ z, d = .bl z) (e : tyD d = some t) : isSub t "int" = false := by
  refine isSub_ne (fun z => ?_) (fun z => ?_)
  · subst z
    cases d with
    | int z => exact h ⟨z, rfl⟩
    | _ => simp [tyD] at e
  · obtain ⟨z, _⟩ := z
    subst z
    cases d with
    | bl z => exact h2 ⟨z, rfl⟩
    | _ => simp [tyD] at e
theorem notBl {d : D} {t : String} (h2 : ¬ ∃ z, d = .bl z) (e : tyD d = some t) : isSub t "bool" = false := by
  refine isSub_ne (fun z => ?_) (fun z => absurd z.2 (by decide))
  subst z
  cases d with
  | bl z => exact h2 ⟨z, rfl⟩
  | _ => simp [tyD] at e
@[simp] theorem sub_ss : isSub "str" "str" = true := by decide
@[simp] theorem sub_ll : isSub "list" "list" = true := by decide
@[simp] theorem sub_tt : isSub "tuple" "tuple" = true := by decide
@[simp] theorem sub_ii : isSub "int" "int" = true := by decide
@[simp] theorem sub_bi : isSub "bool" "int" = true := by decide
@[simp] theorem sub_bb : isSub "bool" "bool" = true := by decide
@[simp] theorem sub_ib : isSub "int" "bool" = false := by decide
@[simp] theorem ty_s : "str" ∈ tys := by decide
@[simp] theorem ty_l : "list" ∈ tys := by decide
@[simp] theorem ty_t : "tuple" ∈ tys := by decide
@[simp] theorem ty_i : "int" ∈ tys := by decide
@[simp] theorem ty_b : "bool" ∈ tys := by decide
@[simp] theorem ty_d : "dict" ∈ tys := by decide
end
end Bs
namespace K0
open PySem PySem.Spec PyProof.Rows L2 Bs
def top (i : Nat) : Stmt := PySem.Challenge.pw_boundslots_k01_lots_as_sets.main.body.getD i (.Pass ⟨0, 0, 0, 0⟩)

abbrev s_mix : Stmt := top 36
theorem sc_mix : FnScope ["cell", "turn", "prime", "number"] ["cell", "turn"] (defScope s_mix) := ⟨rfl, rfl, rfl, by decide +kernel, rfl, by decide +kernel, by decide +kernel⟩
section
variable {P : Program} {w : World} {K : PySem.W.Frag} {mg : Str → Option Value} {base : Heap}
theorem ok_mix {f : Addr} {fd : FuncData} (F : Fun K "_law_mix" "_law_mix" s_mix f fd) (T : Txt K mg) : FnOk P w K mg base CX0 1 f fd ["cell", "turn"] spMix := by
  have sc := sc_mix
  refine F.ok sc (fun vs H Q E h => ?_) (fun cdv A outer s H vs Q E hr h => ?_)
  · obtain ⟨i, j, rfl, _⟩ := h
    rfl
  · obtain ⟨i, j, rfl, k⟩ := h
    refine ⟨_, (pss_cons (ps_set (i := 2) sc.nd rfl (Or.inl rfl) pe_int)
      (pss_cons (ps_set (i := 3) sc.nd rfl (Or.inl rfl) (pe_op o_mod (pe_callTy b_int (by rfl) T.int (by decide +kernel) (pa_cons (pe_op o_add (pe_op o_mod (pe_callTy b_int (by rfl) T.int (by decide +kernel) (pa_cons (nm 0) pa_nil)) (nm 2)) (pe_op o_mul (pe_op o_add (nm 1) pe_int) pe_int)) pa_nil)) (nm 2)))
      (pss_cons (ps_set (i := 3) sc.nd rfl (Or.inl rfl) (pe_op o_mod (pe_callTy b_int (by rfl) T.int (by decide +kernel) (pa_cons (pe_op o_add (pe_op o_mul (nm 3) (nm 3)) pe_int) pa_nil)) (nm 2)))
      (pss_cons (ps_set (i := 3) sc.nd rfl (Or.inl rfl) (pe_op o_add (pe_op o_fdiv (nm 3) pe_int) (pe_op o_mul (pe_op o_mod (pe_callTy b_int (by rfl) T.int (by decide +kernel) (pa_cons (nm 3) pa_nil)) pe_int) pe_int)))
      (pss_cons (ps_set (i := 3) sc.nd rfl (Or.inl rfl) (pe_op o_mod (pe_callTy b_int (by rfl) T.int (by decide +kernel) (pa_cons (pe_op o_add (pe_op o_mul (nm 3) (nm 3)) (pe_op o_mul (pe_op o_add (nm 1) pe_int) pe_int)) pa_nil)) pe_int))
      (pss_one (ps_ret (pe_op o_fdiv (nm 3) pe_int)))))))), ?_⟩
    have p1 : (0 : Int) < 2305843009213693951 := by decide
    have p2 : (0 : Int) < 2305843009213693921 := by decide
    have p3 : (0 : Int) < 1073741824 := by decide
    have m1 : ∀ x : Int, 0 ≤ x % 2305843009213693951 ∧ x % 2305843009213693951 < 2305843009213693951 := fun x => ⟨Int.emod_nonneg x (by decide), Int.emod_lt_of_pos x p1⟩
    refine ⟨p1, .inl (.inr ⟨by decide, by decide⟩), p1, ?_⟩
    have h1 := m1 (i % 2305843009213693951 + (j + 1) * 1442695040888963407)
    refine ⟨.inl (.inl ⟨by show -(2 ^ 64) < _ % _; omega, by show _ % _ < 2 ^ 64; omega⟩), p1, ?_⟩
    refine ⟨⟨p3, by decide⟩, p3, .inl (.inr ⟨by decide, by decide⟩), ?_⟩
    have h2 := m1 (((i % 2305843009213693951 + (j + 1) * 1442695040888963407) % 2305843009213693951) * ((i % 2305843009213693951 + (j + 1) * 1442695040888963407) % 2305843009213693951) + 88172645463325252)
    generalize ((i % 2305843009213693951 + (j + 1) * 1442695040888963407) % 2305843009213693951) * ((i % 2305843009213693951 + (j + 1) * 1442695040888963407) % 2305843009213693951) + 88172645463325252 = y at h2
    refine ⟨.inl (.inl ⟨by show -(2 ^ 64) < _ % _ / _ + _ % _ % _ * _; omega, by show _ % _ / _ + _ % _ % _ * _ < 2 ^ 64; omega⟩), .inl (.inr ⟨by decide, by decide⟩), p2, ⟨by decide, by decide⟩, ?_⟩
    exact k _
end

abbrev s_open : Stmt := top 38
theorem sc_open : FnScope ["store", "cell", "wide", "k"] ["store"] (defScope s_open) := ⟨rfl, rfl, rfl, by decide +kernel, rfl, by decide +kernel, by decide +kernel⟩
section
variable {P : Program} {w : World} {K : PySem.W.Frag} {mg : Str → Option Value} {base : Heap}
theorem ok_open {f : Addr} {fd : FuncData} (F : Fun K "_law_open" "_law_open" s_open f fd) (T : Txt K mg) : FnOk P w K mg base CX0 1 f fd ["store"] spOpen := by
  have sc := sc_open
  refine F.ok sc (fun vs H Q E h => ?_) (fun cdv A outer s H vs Q E hr h => ?_)
  · obtain ⟨a, c, cells, p, w, x, n, t, sd, rfl, _⟩ := h
    rfl
  · obtain ⟨a, c, cells, p, w, x, n, t, sd, rfl, S, hp, k⟩ := h
    refine ⟨_, (pss_cons (ps_set (i := 1) sc.nd rfl (Or.inl rfl) (pe_ix x_any (pe_ix x_any (nm 0) pe_int (fun _ _ => rfl)) (pe_ix x_any (nm 0) pe_int (fun _ _ => rfl)) (fun _ _ => rfl)))
      (pss_cons (ps_asg (pe_op o_add (pe_ix x_any (nm 0) pe_int (fun _ _ => rfl)) pe_int) (pg_sub (nm 0) pe_int s_list))
      (pss_one (ps_if (cmpT o_ge (nm 1) (pe_op o_pow pe_int pe_int) (nomark _)) (pss_cons (ps_set (i := 2) sc.nd rfl (Or.inl rfl) (pe_op o_pow pe_int pe_int))
      (pss_cons (ps_for PassesOwn.never rfl (pi_range1 rfl T.range (pa_cons pe_int pa_nil)) (pg_name (i := 3) sc.nd rfl (Or.inl rfl)) (pss_one (ps_set (i := 2) sc.nd rfl (Or.inl rfl) (pe_op o_mul (nm 2) (nm 2)))))
      (pss_one (ps_asg (pe_op o_mod (pe_callTy b_int (by rfl) T.int (by decide +kernel) (pa_cons (nm 1) pa_nil)) (nm 2)) (pg_sub (nm 0) pe_int s_list))))) (pss_cons (ps_asg (nm 1) (pg_sub (nm 0) pe_int s_list))
      (pss_one (ps_asg pe_int (pg_sub (nm 0) pe_int s_list)))))))), ?_⟩
    have hS := S.at_
    have hc := S.cl
    have hpp := S.pp
    have hat : atI (cells.map V.int) p = (cells.map V.int)[p.toNat]? := by
      have hl : p < ((cells.map V.int).length : Int) := by simpa using hp
      unfold atI ixN
      rw [if_pos hpp, if_pos hl]
      rfl
    have hlt : p.toNat < cells.length := by omega
    refine ⟨_, _, .inl (SqL.of hS), rfl, ⟨_, _, .inl (SqL.of hS), rfl, ?_⟩⟩
    refine ⟨_, .int cells[p.toNat], .inl (SqL.of hc), by rw [hat]; simp [hlt], ?_⟩
    refine ⟨_, _, .inl (SqL.of hS), rfl, ?_⟩
    refine ⟨_, _, hS, rfl, ?_⟩
    have hS1 : upd H a (.lst [V.ref c, V.int (p + 1), V.int w, V.int x, V.int n, V.int t, V.int sd]) a = some (.lst [V.ref c, V.int (p + 1), V.int w, V.int x, V.int n, V.int t, V.int sd]) := upd_same
    have fin : ∀ w' x' n' : Int, ∀ H', H' a = some (.lst [V.ref c, V.int (p + 1), V.int w', V.int x', V.int n', V.int t, V.int sd]) → Only a H H' → Q .non H' :=
      fun w' x' n' H' e o => k H' ⟨cells, p + 1, w', x', n', t, sd, S.put o e (by omega)⟩ o
    refine ⟨⟨by decide, by decide, by decide⟩, ite2 (fun _ => ?_) (fun _ => ?_)⟩
    · refine ⟨⟨by decide, by decide, by decide⟩, ⟨_, rfl, by decide, by decide, for_range (lo := 0) (n := 4) (fun i σ H' => H' = upd H a (.lst [V.ref c, V.int (p + 1), V.int w, V.int x, V.int n, V.int t, V.int sd]) ∧
        ∃ v, σ = [some (.ref a), some (.int cells[p.toNat]), some (.int (10 ^ (64 * 2 ^ i))), v]) ⟨rfl, none, rfl⟩ ?_ ?_⟩⟩
      · rintro i σ H' hi ⟨rfl, v, rfl⟩
        refine ⟨.inr ?_, rfl, some (.int (0 + (i : Int))), ?_⟩
        · show (((10 : Int) ^ (64 * 2 ^ i)).natAbs).log2 + ((10 : Int) ^ (64 * 2 ^ i)).natAbs.log2 < 1000000
          have h4 : i = 0 ∨ i = 1 ∨ i = 2 ∨ i = 3 := by omega
          rcases h4 with rfl | rfl | rfl | rfl <;> decide +kernel
        · show [some (V.ref a), some (V.int cells[p.toNat]), some (V.int (10 ^ (64 * 2 ^ i) * 10 ^ (64 * 2 ^ i))), some (V.int (0 + (i : Int)))] = _
          rw [← Int.pow_add, show 64 * 2 ^ i + 64 * 2 ^ i = 64 * 2 ^ (i + 1) by rw [Nat.pow_succ]; omega]
      · rintro σ H' ⟨rfl, v, rfl⟩
        refine ⟨?_, ⟨_, _, hS1, rfl, ?_⟩⟩
        · show (0 : Int) < 10 ^ (64 * 2 ^ 4)
          exact Int.pow_pos (by decide)
        · exact fin _ x n _ upd_same (Only.trans Only.upd Only.upd)
    · refine ⟨_, _, hS1, rfl, ⟨_, _, upd_same, rfl, ?_⟩⟩
      exact fin w _ 4 _ upd_same (Only.trans (Only.trans Only.upd Only.upd) Only.upd)
end

abbrev s_take : Stmt := top 39
theorem sc_take : FnScope ["store", "limit", "most", "k", "digit"] ["store", "limit"] (defScope s_take) := ⟨rfl, rfl, rfl, by decide +kernel, rfl, by decide +kernel, by decide +kernel⟩
section
variable {P : Program} {w : World} {K : PySem.W.Frag} {mg : Str → Option Value} {base : Heap}
theorem ok_take {f fm fo : Addr} {fd fdm fdo : FuncData} (F : Fun K "_law_take" "_law_take" s_take f fd) (T : Txt K mg)
    (Gm : Fn P w K mg base CX0 1 "_law_mix" ["cell", "turn"] spMix fm fdm) (Go : Fn P w K mg base CX0 1 "_law_open" ["store"] spOpen fo fdo) : FnOk P w K mg base CX0 2 f fd ["store", "limit"] spTake := by
  have sc := sc_take
  refine F.ok sc (fun vs H Q E h => ?_) (fun cdv A outer s H vs Q E hr h => ?_)
  · obtain ⟨a, _, lim, rfl, _⟩ := h
    rfl
  · obtain ⟨a, c, lim, rfl, S0, hlim, k⟩ := h
    refine ⟨_, (pss_cons (ps_set (i := 2) sc.nd rfl (Or.inl rfl) (pe_callB (b_max rfl) (by rfl) T.max boot_max (pa_cons pe_int (pa_cons (nm 1) pa_nil))))
      (pss_cons (ps_asg (pe_op o_add (pe_ix x_any (nm 0) pe_int (fun _ _ => rfl)) pe_int) (pg_sub (nm 0) pe_int s_list))
      (pss_cons (ps_for PassesOwn.never rfl (pi_range1 rfl T.range (pa_cons pe_int pa_nil)) (pg_name (i := 3) sc.nd rfl (Or.inl rfl)) (pss_cons (ps_if (cmpT o_gt (pe_ix x_any (nm 0) pe_int (fun _ _ => rfl)) pe_int (nomark _)) (pss_cons (ps_set (i := 4) sc.nd rfl (Or.inl rfl) (pe_op o_mod (pe_callTy b_int (by rfl) T.int (by decide +kernel) (pa_cons (pe_ix x_any (nm 0) pe_int (fun _ _ => rfl)) pa_nil)) (nm 2)))
      (pss_cons (ps_asg (pe_op o_fdiv (pe_ix x_any (nm 0) pe_int (fun _ _ => rfl)) (nm 2)) (pg_sub (nm 0) pe_int s_list))
      (pss_one (ps_ret (nm 4))))) pss_nil)
      (pss_cons (ps_if (cmpT o_gt (pe_ix x_any (nm 0) pe_int (fun _ _ => rfl)) pe_int (nomark _)) (pss_cons (ps_asg (pe_op o_sub (pe_ix x_any (nm 0) pe_int (fun _ _ => rfl)) pe_int) (pg_sub (nm 0) pe_int s_list))
      (pss_one (ps_ret (pe_op o_mod (pe_callTy b_int (by rfl) T.int (by decide +kernel) (pa_cons (fn Gm (hr.mono (by decide)) (by rfl) pass0 (pa_cons (pe_ix x_any (nm 0) pe_int (fun _ _ => rfl)) (pa_cons (pe_ix x_any (nm 0) pe_int (fun _ _ => rfl)) pa_nil))) pa_nil)) (nm 2))))) pss_nil)
      (pss_cons (ps_if (cmpT o_ge (pe_ix x_any (nm 0) pe_int (fun _ _ => rfl)) (pe_callB b_len (by rfl) T.len boot_len (pa_cons (pe_ix x_any (nm 0) pe_int (fun _ _ => rfl)) pa_nil)) (nomark _)) (pss_one (ps_ret (pe_op o_mod (pe_callTy b_int (by rfl) T.int (by decide +kernel) (pa_cons (fn Gm (hr.mono (by decide)) (by rfl) pass0 (pa_cons (pe_ix x_any (nm 0) pe_int (fun _ _ => rfl)) (pa_cons (pe_ix x_any (nm 0) pe_int (fun _ _ => rfl)) pa_nil))) pa_nil)) (nm 2)))) pss_nil)
      (pss_one (ps_expr (fn Go (hr.mono (by decide)) (by rfl) pass0 (pa_cons (nm 0) pa_nil))))))))
      (pss_one (ps_ret pe_int))))), ?_⟩
    have hm0 := most_pos lim
    have hmd := most_div hlim
    have mod_ok : ∀ x : Int, 0 ≤ x % most lim ∧ x % most lim < most lim := fun x => ⟨Int.emod_nonneg x (by omega), Int.emod_lt_of_pos x hm0⟩
    obtain ⟨cells, p, w, x, n, t, sd, S⟩ := S0
    refine ⟨_, _, .inl (SqL.of S.at_), rfl, ⟨_, _, S.at_, rfl, ?_⟩⟩
    have S1 : StAt (upd H a (.lst [.ref c, .int p, .int w, .int x, .int n, .int (t + 1), .int sd])) a c := ⟨cells, p, w, x, n, t + 1, sd, S.put Only.upd upd_same S.pp⟩
    refine ⟨_, rfl, by decide, by decide, for_range (lo := 0) (n := 66) (fun i σ H' => StAt H' a c ∧ Only a H H' ∧ ∃ v u, σ = [some (.ref a), some (.int lim), some (.int (most lim)), v, u]) ⟨S1, Only.upd, none, none, rfl⟩ ?_ ?_⟩
    · rintro i σ H1 hi ⟨⟨cells, p, w, x, n, t, sd, S⟩, o1, v, u, rfl⟩
      refine ⟨_, _, .inl (SqL.of S.at_), rfl, ite2 (fun _ => ?_) (fun _ => ?_)⟩
      · -- a digit of the wide number
        refine ⟨_, _, .inl (SqL.of S.at_), rfl, hm0, ?_⟩
        refine ⟨_, _, .inl (SqL.of S.at_), rfl, ⟨hmd.1, hmd.2⟩, ⟨_, _, S.at_, rfl, ?_⟩⟩
        exact k _ _ (mod_ok w).1 (mod_ok w).2 ⟨cells, p, w / most lim, x, n, t, sd, S.put Only.upd upd_same S.pp⟩ (o1.trans Only.upd)
      · refine ⟨_, _, .inl (SqL.of S.at_), rfl, ite2 (fun _ => ?_) (fun _ => ?_)⟩
        · refine ⟨_, _, .inl (SqL.of S.at_), rfl, ⟨_, _, S.at_, rfl, ?_⟩⟩
          have e1 : upd H1 a (.lst [.ref c, .int p, .int w, .int x, .int (n - 1), .int t, .int sd]) a = some (.lst [.ref c, .int p, .int w, .int x, .int (n - 1), .int t, .int sd]) := upd_same
          refine ⟨_, _, .inl (SqL.of e1), rfl, _, _, .inl (SqL.of e1), rfl, _, _, rfl, fun r => ?_⟩
          exact ⟨hm0, k _ _ (mod_ok r).1 (mod_ok r).2 ⟨cells, p, w, x, n - 1, t, sd, S.put Only.upd upd_same S.pp⟩ (o1.trans Only.upd)⟩
        · refine ⟨_, _, .inl (SqL.of S.at_), rfl, _, _, .inl (SqL.of S.at_), rfl, .inl ⟨_, .inl (SqL.of S.cl), ite2 (fun hge => ?_) (fun hge => ?_)⟩⟩
          · refine ⟨_, _, .inl (SqL.of S.at_), rfl, _, _, .inl (SqL.of S.at_), rfl, _, _, rfl, fun r => ?_⟩
            exact ⟨hm0, k _ _ (mod_ok r).1 (mod_ok r).2 ⟨cells, p, w, x, n, t, sd, S⟩ o1⟩
          · have hlt : p < (cells.length : Int) := by
              have := of_decide_eq_false (Bool.eq_false_iff.mpr hge)
              simp only [List.length_map] at this
              omega
            exact ⟨a, c, cells, p, w, x, n, t, sd, rfl, S, hlt, fun H2 S2 o2 => ⟨S2, o1.trans o2, _, _, rfl⟩⟩
    · rintro σ H1 ⟨S1, o1, v, u, rfl⟩
      exact k 0 H1 (by decide) hm0 S1 o1
end

abbrev s_store : Stmt := top 37
theorem sc_store : FnScope ["script", "cells", "cell", "seed"] ["script"] (defScope s_store) := ⟨rfl, rfl, rfl, by decide +kernel, rfl, by decide +kernel, by decide +kernel⟩
section
variable {P : Program} {w : World} {K : PySem.W.Frag} {mg : Str → Option Value} {base : Heap}
theorem ok_store {f fm : Addr} {fd fdm : FuncData} (F : Fun K "_law_store" "_law_store" s_store f fd) (T : Txt K mg)
    (Gm : Fn P w K mg base CX0 1 "_law_mix" ["cell", "turn"] spMix fm fdm) : FnOk P w K mg base CX0 2 f fd ["script"] (spStore K) := by
  have sc := sc_store
  let st := s_store
  let N : List Str := ["script", "cells", "cell", "seed"]
  refine F.ok sc (fun vs H Q E h => ?_) (fun cdv A outer s H vs Q E hr h => ?_)
  · obtain ⟨a, ns, rfl, _⟩ := h
    rfl
  · obtain ⟨a, ns, rfl, hS, hlen, k⟩ := h
    refine ⟨_, (pss_cons ((ps_setLc (i := 1) (own := [("cell", 2)]) rfl sc.nd rfl rfl (sw_true rfl rfl rfl (by decide +kernel)) (pi_any (pe_slice sl_any (nm 0) po_none (po pe_int))) (blkOk_by (N := N) (sc := defScope st) (by decide +kernel)) (fun _ _ _ _ _ => (pg_name (i := 2) sc.nd rfl (Or.inl rfl))) (fun _ _ _ _ _ => pts_nil) (fun _ _ _ _ _ => (pe_callTy b_int (by rfl) T.int (by decide +kernel) (pa_cons (nm 2) pa_nil)))))
      (pss_cons (ps_set (i := 3) sc.nd rfl (Or.inl rfl) (pe_op o_add pe_int (pe_op o_mul pe_int (pe_callB b_len (by rfl) T.len boot_len (pa_cons (nm 1) pa_nil)))))
      (pss_cons (ps_for PassesOwn.never rfl (pi_any (nm 1)) (pg_name (i := 2) sc.nd rfl (Or.inl rfl)) (pss_one (ps_set (i := 3) sc.nd rfl (Or.inl rfl) (fn Gm (hr.mono (by decide)) (by rfl) pass0 (pa_cons (pe_op o_add (pe_op o_mul (nm 3) pe_int) (pe_op o_mod (pe_callTy b_int (by rfl) T.int (by decide +kernel) (pa_cons (nm 2) pa_nil)) pe_int)) (pa_cons (nm 3) pa_nil))))))
      (pss_one (ps_ret (pe_lst (pa_cons (nm 1) (pa_cons pe_int (pa_cons pe_int (pa_cons pe_int (pa_cons pe_int (pa_cons pe_int (pa_cons (nm 3) pa_nil))))))))))))), ?_⟩
    refine .inl ⟨_, hS, fun l hl => .inl ⟨⟨_, SqL.of upd_same⟩, fun D hD => ?_⟩⟩
    have hlD : l ≠ D := ne_of_none (upd_same (H := H) (a := l)) hD
    have hD0 : H D = none := (upd_ne hlD.symm).symm.trans hD
    refine lc_list (K := K) (a := l) (xs := cutV (ns.map V.int) none (some 63)) (fun i H' => ∃ cs : List Int, cs.length = i ∧ H' = upd (upd H l (.lst (cutV (ns.map V.int) none (some 63)))) D (.lst (cs.map V.int))) ⟨[], rfl, rfl⟩
      (fun i H' _ ⟨cs, _, e⟩ => SqL.of (by rw [e, upd_ne hlD, upd_same])) ?_ ?_
    · rintro i y H' hy ⟨cs, hcs, rfl⟩
      obtain ⟨z, hz, rfl⟩ := List.mem_map.mp (mem_cutV (mem_get hy))
      refine ⟨rfl, ?_⟩
      refine ⟨_, upd_same, ?_, cs ++ [z], by simp [hcs], ?_⟩
      · have h1 : i < (cutV (ns.map V.int) none (some 63)).length := (List.getElem?_eq_some_iff.mp hy).1
        have h2 := @cutV_len (ns.map V.int) none (some 63)
        rw [List.length_map] at h2
        exact small1000 (by rw [List.length_map]; omega)
      · rw [upd_upd, List.map_append]
        rfl
    · rintro H' ⟨cs, hcs, rfl⟩
      have hcell : upd (upd H l (.lst (cutV (ns.map V.int) none (some 63)))) D (.lst (cs.map V.int)) D = some (.lst (cs.map V.int)) := upd_same
      have hsame : Same H (upd (upd H l (.lst (cutV (ns.map V.int) none (some 63)))) D (.lst (cs.map V.int))) := fun b o e => by
        rw [upd_ne (ne_of_none e hD0), upd_ne (ne_of_none e hl)]
        exact e
      generalize upd (upd H l (.lst (cutV (ns.map V.int) none (some 63)))) D (.lst (cs.map V.int)) = H1 at hcell hsame ⊢
      refine .inl ⟨_, .inl (SqL.of hcell), .inl (.inl ⟨by decide, by decide⟩), ?_⟩
      refine for_sq (K := K) (a := D) (xs := cs.map V.int) (fun i σ H' => H' = H1 ∧ ∃ (v : Option V) (sd : Int), σ = [some (.ref a), some (.ref D), v, some (.int sd)]) ⟨rfl, none, _, rfl⟩
        (.inl fun i σ H' _ ⟨e, _⟩ => SqL.of (by rw [e]; exact hcell)) ?_ ?_ rfl
      · rintro i y σ H' hy ⟨rfl, v, sd, rfl⟩
        obtain ⟨z, hz, rfl⟩ := List.mem_map.mp (mem_get hy)
        exact ⟨.inl (.inr ⟨by decide, by decide⟩), (by show (0 : Int) < 2305843009213693951; decide), _, _, rfl, fun r => ⟨rfl, _, _, rfl⟩⟩
      · rintro σ H' ⟨rfl, v, sd, rfl⟩
        refine ⟨(by show 7 ≤ sizeLine; decide), fun q hq => k q D _ (hsame.free hq) hD0 (fun b o e => by rw [upd_ne (ne_of_none (hsame b o e) hq)]; exact hsame b o e) ?_⟩
        exact ⟨cs, 0, 0, 0, 0, 0, sd, upd_same, by rw [upd_ne (ne_of_none hcell hq)]; exact hcell, ne_of_none hcell hq, Int.le_refl 0⟩
end
end K0
/-! An own slot lent for a scalar; new objects handed back; defaults and keywords; what was told. -/
namespace Bs
open PySem PySem.Spec PyProof.Rows L2 K0
section
variable {X : Cx} {A : Am} {E : L2.St → XK} {e a b : Expr} {es : List Expr} {τ τa τb : TV D} {τt : TV Bool} {τl : TV (List D)} {pos : Pos}
@[simp] def isSc : D → Bool
  | .non => true
  | .bl _ => true
  | .int _ => true
  | .str _ => true
  | .ty _ => true
  | _ => false
theorem Rep.sc {W : Wd} {S S' : Addr → Prop} {H H' : Hp} {x : V} {d : D} (r : Rep W S H x d) (h : isSc d = true) : Rep W S' H' x d := by
  have r' := RepR.rep (z := fun _ => True) r
  cases d with
  | non => rw [r'.non]; exact .non
  | bl _ => rw [r'.bl]; exact .bl
  | int _ => rw [r'.int]; exact .int
  | str _ => rw [r'.str]; exact .str
  | ty _ => rw [r'.ty]; exact .ty
  | _ => cases h
@[simp] def vLend (i : Nat) (τ : TV D) : TV D := fun env Q R => τ (shr env i) (fun d => isSc d = true ∧ Q d) R
/-- an own slot is lent while a scalar is made -/
theorem v_lend (i : Nat) (h : VE X A E e τ) : VE X A E e (vLend i τ) := ⟨PE.imp h.run fun σ H Q h => by
  obtain ⟨S, env, Qd, Rd, st, h, hq, hr⟩ := h
  obtain ⟨S', st', m, _⟩ := st.shr' i
  exact ⟨S', _, _, Rd, st', h, fun d x H' f r q => hq d x H' f (r.sc q.1) q.2, hr⟩⟩
@[simp] def vtLend (i : Nat) (τ : TV Bool) : TV Bool := fun env Q R => τ (shr env i) Q R
theorem vt_lend (i : Nat) (h : VT X A E e τt) : VT X A E e (vtLend i τt) := ⟨PT.imp h.run fun σ H Q h => by
  obtain ⟨S, env, Qd, Rd, st, h, hq, hr⟩ := h
  obtain ⟨S', st', m, _⟩ := st.shr' i
  exact ⟨S', _, _, Rd, st', h, fun d x H' f r q => hq d x H' f r q, hr⟩⟩
/-! ### what was told: ("told", a new list) -/
/-- told[1] -/
@[simp] def vOt1 (i : Nat) : TV D := fun env Q _ => match env[i]? with
  | some (.ot d) => Q d
  | some (.sh (.tup [_, d])) => Q d
  | _ => False
theorem v_ot1 (hK : A.W.K = X.K) (i : Nat) {x : Str} {p2 p3 : Pos} {j : Nat} (hN : X.N[i]? = some x := by rfl) (hv : Vis X.env.scope x := by first | exact Or.inl rfl | exact Or.inr (Or.inl rfl) | exact Or.inr (Or.inr rfl)) (hd : (x == ("__debug__" : Str)) = false := by decide)
    (hcd : (x == ("__classdict__" : Str)) = false := by decide) (hs : PlainIx (.Constant (.int 1) j p3) := by intro _ _; rfl) : VR X A E (.Subscript (.Name x p2) (.Constant (.int 1) j p3) pos) (vOt1 i) := ⟨PE.imp (pe_ix x_any (pe_var (i := i) hN hv hd hcd) pe_int hs) fun σ H Q h => by
  obtain ⟨S, env, Qd, Rd, st, h, hq, hr⟩ := h
  unfold vOt1 at h
  split at h
  · rename_i d e
    obtain ⟨u, h2, q, sl⟩ := st.at e
    cases sl with
    | ot e8 z w =>
      obtain ⟨o, a4, a5, a6⟩ := w.ex
      exact ⟨_, h2, _, _, .inr (SqT.of e8), rfl, hq _ _ H (Fx.refl st.am) (.own a4 a5 (fun y => w.n0 (A.zs _ y)) a6) h⟩
  · rename_i d0 d e
    obtain ⟨u, h2, q, sl⟩ := st.at e
    cases sl with
    | sh r =>
      obtain ⟨p, xs, rfl, h1, r⟩ := (RepR.rep (z := A.z) r).tup
      cases r with
      | cons r0 r => cases r with
        | cons r1 r => cases r; exact ⟨_, h2, _, _, .inr (hK ▸ h1), rfl, hq _ _ H (Fx.refl st.am) (.rep r1) h⟩
  · exact h.elim⟩
/-- told[0] -/
@[simp] def vOt0 (i : Nat) : TV D := fun env Q _ => match env[i]? with
  | some (.ot _) => Q (.str "told")
  | some (.sh (.tup (d :: _))) => Q d
  | _ => False
theorem v_ot0 (hK : A.W.K = X.K) (i : Nat) {x : Str} {p2 p3 : Pos} {j : Nat} (hN : X.N[i]? = some x := by rfl) (hv : Vis X.env.scope x := by first | exact Or.inl rfl | exact Or.inr (Or.inl rfl) | exact Or.inr (Or.inr rfl)) (hd : (x == ("__debug__" : Str)) = false := by decide)
    (hcd : (x == ("__classdict__" : Str)) = false := by decide) (hs : PlainIx (.Constant (.int 0) j p3) := by intro _ _; rfl) : VE X A E (.Subscript (.Name x p2) (.Constant (.int 0) j p3) pos) (vOt0 i) := ⟨PE.imp (pe_ix x_any (pe_var (i := i) hN hv hd hcd) pe_int hs) fun σ H Q h => by
  obtain ⟨S, env, Qd, Rd, st, h, hq, hr⟩ := h
  unfold vOt0 at h
  split at h
  · rename_i d e
    obtain ⟨u, h2, q, sl⟩ := st.at e
    cases sl with
    | ot e8 z w => exact ⟨_, h2, _, _, .inr (SqT.of e8), rfl, hq _ _ H (Fx.refl st.am) .str h⟩
  · rename_i d r0 e
    obtain ⟨u, h2, q, sl⟩ := st.at e
    cases sl with
    | sh r =>
      obtain ⟨p, xs, rfl, h1, r⟩ := (RepR.rep (z := A.z) r).tup
      cases r with
      | cons r0 r => exact ⟨_, h2, _, _, .inr (hK ▸ h1), atI_zero _ _, hq _ _ H (Fx.refl st.am) r0 h⟩
  · exact h.elim⟩
theorem StR.putT {S : Addr → Prop} {env : List Sl} {σ : L2.St} {H : Hp} {t p : Addr} {o' : HO} {d d' : D} {i : Nat} (st : StR A S env σ H) (h1 : env[i]? = some (.ot d)) (h2 : σ[i]? = some (some (.ref t))) (ht : H t = some (.tup [.str "told", .ref p])) (r : RepO A.W S H o' d') (mu : dataO o' = true) :
    StR A S (env.set i (.ot d')) σ (upd H p o') ∧ Mn S H S (upd H p o') := by
  obtain ⟨q, hs, hap⟩ := st.sl
  have key := hs i _ _ h1 h2
  have hq : q i = p := by
    generalize q i = x at key
    cases key with
    | ot e8 _ _ => rw [ht] at e8; cases e8; rfl
  have nt_ : ¬ S t := by cases key with | ot _ z _ => exact z
  have w : Own A S H p d := by rw [← hq]; cases key with | ot _ _ w => exact w
  obtain ⟨o1, a4, a5, a6⟩ := w.ex
  have m : Mn S H S (upd H p o') := fun b u hs eb _ => ⟨hs, u, (upd_ne (by rintro rfl; exact hs w.s)).trans eb, rfl⟩
  have htp : ∀ {b xs}, H b = some (.tup xs) → b ≠ p := fun {b xs} e => by
    rintro rfl
    rw [a4] at e
    rw [Option.some.inj e] at a6
    simp [dataO] at a6
  refine ⟨⟨by rw [List.length_set]; exact st.len, ⟨q, fun j f u g1 g2 => ?_, fun j l e e' hn g1 g2 o1 o2 => ?_⟩, st.s0, fun a ha => ?_, fun b u eb z n => ?_, A.al H _ st.am fun b u eb hb => ?_⟩, m⟩
  · rcases set_get g1 with ⟨rfl, rfl⟩ | ⟨n1, g1⟩
    · rw [h2] at g2; cases g2
      rw [hq]
      exact .ot ((upd_ne (htp ht)).trans ht) nt_ ⟨w.s, w.n0, w.h0, o', upd_same, r.mono m, mu⟩
    · have hne : ∀ {x : Sl}, env[j]? = some x → hasOwn x = true → q j ≠ p := fun {x} g o => by
        rw [← hq]
        exact hap j i _ _ (fun z => n1 z.symm) g h1 o rfl
      cases hs j f u g1 g2 with
      | no => exact .no
      | sh r => exact .sh (r.mono m)
      | ow v => exact .ow (v.step v.s m fun u e => (upd_ne (hne g1 rfl)).trans e)
      | ot e8 z v => exact .ot ((upd_ne (htp e8)).trans e8) z (v.step v.s m fun u e => (upd_ne (hne g1 rfl)).trans e)
      | st z => exact .st z
  · have back : ∀ {j : Nat} {x : Sl}, (env.set i (.ot d'))[j]? = some x → hasOwn x = true → ∃ y, env[j]? = some y ∧ hasOwn y = true := fun {j x} g o => by
      rcases set_get g with ⟨rfl, _⟩ | ⟨_, g⟩
      · exact ⟨_, h1, rfl⟩
      · exact ⟨_, g, o⟩
    obtain ⟨y1, g1, p1⟩ := back g1 o1
    obtain ⟨y2, g2, p2⟩ := back g2 o2
    exact hap j l y1 y2 hn g1 g2 p1 p2
  · by_cases hb : a = p
    · subst hb; exact ⟨o', upd_same, r.nt⟩
    · rw [upd_ne hb]; exact st.dom a ha
  · rw [upd_ne]
    · exact st.base b u eb z n
    · rintro rfl; exact (w.h0 u eb n).elim
  · rw [upd_ne]
    · exact eb
    · rintro rfl
      rw [a4] at eb
      have eb := Option.some.inj eb
      rcases hb with hb | hb
      · rw [← eb, a6] at hb; cases hb
      · exact w.n0 hb
/-- told[1].append(e) -/
@[simp] def vOtApp (i : Nat) (τ : TV D) : VTS := fun Vn env => match env[i]? with
  | some (.ot (.lst ds)) => τ env (fun y => ds.length < sizeLine ∧ Vn.nx (env.set i (.ot (.lst (ds ++ [y]))))) Vn.ex
  | _ => False
theorem vs_otapp {i j : Nat} {x : Str} {p2 p3 p4 apos cpos : Pos} (hN : X.N[i]? = some x) (hv : Vis X.env.scope x) (he : VE X A E e τ) (hd : (x == ("__debug__" : Str)) = false := by decide) (hcd : (x == ("__classdict__" : Str)) = false := by decide) (hpl : PlainIx (.Constant (.int 1) j p3) := by intro _ _; rfl)
    (hbase : attributeBase (.Subscript (.Name x p2) (.Constant (.int 1) j p3) p4) "append" X.env (eval (.Subscript (.Name x p2) (.Constant (.int 1) j p3) p4) X.env) = eval (.Subscript (.Name x p2) (.Constant (.int 1) j p3) p4) X.env := by rfl)
    (hfew : ((backTo cpos (starEach [e] X.env)).all (fun x => !x.1) && (backToKw cpos (keywordEach [] X.env)).all (fun x => x.1.isSome) && decide ([e].length + ([] : List Keyword).length + (if ([] : List Keyword).isEmpty then 0 else 1) < 30)) = true := by rfl)
    (hline : (apos.endLine == cpos.line) = true := by rfl) (hst : starEach [e] X.env = (false, eval e X.env) :: starEach [] X.env := by rfl) (hplain : (backTo cpos (starEach [] X.env)).any (·.1) = false := by rfl)
    (hs : swapsWith (.Call (.Attribute (.Subscript (.Name x p2) (.Constant (.int 1) j p3) p4) "append" apos) [e] [] cpos) none pos.line X.env = pure false := by rfl) :
    VS X A E (.Expr (.Call (.Attribute (.Subscript (.Name x p2) (.Constant (.int 1) j p3) p4) "append" apos) [e] [] cpos) pos) (vOtApp i τ) :=
  ⟨PS.imp (ps_expr (pe_bm PySem.F.plainAttrs_list PySem.F.slot_list_append PySem.F.type_list_append mt_append (pe_ix x_any (pe_var (i := i) hN hv hd hcd) pe_int hpl) (pa_cons he.run pa_nil hst) hbase hfew hline hst hplain) hs) fun D' σ H h => by
    obtain ⟨S, env, Vn, st, h, k⟩ := h
    unfold vOtApp at h
    split at h
    · rename_i ds e0
      obtain ⟨u, h2, q, sl⟩ := st.at e0
      cases sl with
      | ot e8 z w =>
        rename_i t
        obtain ⟨o, a4, a5, a6⟩ := w.ex
        cases a5 with
        | lst r =>
          rename_i xs
          refine ⟨_, h2, _, _, .inr (SqT.of e8), rfl, .inl ⟨rfl, xs, SqL.of a4⟩, S, env, _, _, st, h, fun y v H1 f1 r1 q1 => ?_, fun ex C dd H' f xr q => k.ex ex C dd σ H' (st.fx f).bf xr q⟩
          have st1 := st.fx f1
          have e81 : H1 t = some (.tup [.str "told", .ref q]) := f1.ex _ _ e8 (fun y => z (st.s0 _ (A.zs _ y))) (A.kd _ trivial)
          have a41 : H1 q = some (.lst xs) := f1.ex _ _ a4 (fun y => w.n0 (A.zs _ y)) (A.kd _ trivial)
          have r' := r.mono (st.mn f1)
          refine ⟨q, xs, v, rfl, rfl, a41, by rw [r.length]; exact q1.1, ?_⟩
          obtain ⟨st2, m2⟩ := st1.putT (o' := .lst (xs ++ [v])) (d' := .lst (ds ++ [y])) e0 h2 e81 (.lst (r'.app (.cons r1 .nil))) rfl
          exact k.nx _ _ _ _ st2 ((st.mn f1).trans m2) q1.2
    · exact h.elim⟩
end
/-! ### a def that hands back a new object -/
def spF (W : Wd) (n : Nat) (f : Fd) : Sp := fun vs H Q E => vs.length = n ∧ ∃ S ds Qd Rx, (∀ a, S a → ∃ o, H a = some o ∧ nt o) ∧ RepL W S H vs ds ∧ f ds Qd Rx ∧
  (∀ d o p H', Ext H H' → H' p = none → RepO W S H' o d → dataO o = true → Qd d → Q (.ref p) (upd H' p o)) ∧ ∀ ex C dd H', Ext H H' → ExR W H' ex C dd → Rx ex → E C dd H'
theorem spF_of_spV {W : Wd} {n : Nat} {f : Fd} {vs : List V} {H : Hp} {Q : VK} {E : XK} (h : spV W n f vs H Q E) : spF W n f vs H Q E := by
  obtain ⟨hl, S, ds, Qd, Rx, hS, r, hf, hq, hr⟩ := h
  refine ⟨hl, S, ds, Qd, Rx, hS, r, hf, fun d o p H' e hp ro mu q => ?_, hr⟩
  have e2 : ∀ c u, H' c = some u → upd H' p o c = some u := fun c u e => (upd_ne (ne_of_none e hp)).trans e
  refine hq d _ _ (fun c u eu => e2 c u (e c u eu)) (.ob (fun z => ?_) upd_same (ro.mono fun c u hs eu _ => ⟨hs, u, e2 c u eu, rfl⟩)) q
  obtain ⟨u, eu, _⟩ := hS p z
  have := e p u eu
  rw [hp] at this; cases this
section
variable {P : Program} {w : World} {K : PySem.W.Frag} {mg : Str → Option Value} {base : Heap}
/-- as FnV, its answer new -/
structure FnF (P : Program) (w : World) (K : PySem.W.Frag) (mg : Str → Option Value) (base : Heap) (k : Nat) (x : Str) (ps : List Str) (W : Wd) (f : Fd) : Prop where
  ex : ∃ g fd, Fn P w K mg base (L2.CX P w) k x ps (spF W ps.length f) g fd
  len : ∀ ds Q R, f ds Q R → ds.length = ps.length
theorem FnF.v {k : Nat} {x : Str} {ps : List Str} {W : Wd} {f : Fd} (F : FnF P w K mg base k x ps W f) : FnV P w K mg base k x ps W f := by
  obtain ⟨⟨g, fd, F⟩, len⟩ := F
  exact ⟨⟨g, fd, ⟨F.ok.imp fun vs H Q E h => spF_of_spV h, F.hm, F.kp, F.bd⟩⟩, len⟩
theorem body_ofF {W : Wd} {n : Nat} {f : Fd} {N : List Str} {vs : List V} {H : Hp} {Q : VK} {E : XK} {X : Cx} {body : List Stmt} (hn : n ≤ N.length) (h : spF W n f vs H Q E)
    (hb : ∀ A : Am, A.W = W → (∀ a, ¬ A.z a) → ∃ τ, VSs X A (fun _ => E) body τ ∧ ∀ ds Q R, ds.length = n → f ds Q R → τ { nx := fun _ => False, rt := fun _ => False, rf := Q, ex := R } (stV N.length ds)) :
    ∃ t, PSs X body t ∧ t { nx := fun _ H' => Q .non H', rt := Q } (L2.start N vs) H := by
  obtain ⟨hl, S, ds, Qd, Rx, hS, r, hf, hq, hr⟩ := h
  obtain ⟨τ, hv, hi⟩ := hb (amOf W S H) rfl (fun _ h => h)
  refine ⟨_, hv.run, S, _, _, st_start hS r (by omega), hi ds Qd Rx (by rw [← r.length]; exact hl) hf, ?_⟩
  have ext : ∀ {H'}, Bf (amOf W S H) H' → Ext H H' := fun b c o e => b.base c o e (fun z => z) trivial
  exact ⟨fun _ _ _ _ _ _ q => q.elim, fun _ _ _ _ _ _ q => q.elim, fun _ _ _ _ _ _ q => q.elim, fun _ _ _ _ _ q => q.elim, fun ex C dd σ' H' b xr q => hr ex C dd H' (ext b) xr q, fun d o p H' b h0 hs hp r mu q => hq d o p H' (ext b) hp r mu q⟩
theorem Fun.okF {x qual : Str} {st : Stmt} {f : Addr} {fd : FuncData} {N ps : List Str} {k : Nat} {W : Wd} {fv : Fd} (F : Fun K x qual st f fd) (S : FnScope N ps (defScope st)) (hp : ps.length ≤ N.length)
    (hbody : ∀ (cdv : Value) (Ar : Around) (outer : List Env) (s : Shared) (H : Hp) (E : XK) (A : Am), A.W = W → (∀ a, ¬ A.z a) → Room k (Ar.deeper (envOfC qual (defScope st) s.heap.objs.size f cdv)) →
      ∃ τ, VSs (cxOf (L2.CX P w) P w K mg base N qual (defScope st) f cdv Ar outer s H E) A (fun _ => E) (defBody st) τ ∧ ∀ ds Q R, ds.length = ps.length → fv ds Q R → τ { nx := fun _ => False, rt := fun _ => False, rf := Q, ex := R } (stV N.length ds)) :
    FnOk P w K mg base (L2.CX P w) (k + 1) f fd ps (spF W ps.length fv) :=
  F.okX S (fun vs H Q E h => h.1) fun cdv Ar outer s H vs Q E hr h => body_ofF hp h fun A hA hz => hbody cdv Ar outer s H E A hA hz hr
theorem FunD.okF {x qual : Str} {params : Arguments} {body : List Stmt} {scope : Scope} {dvs : List V} {kws : List (Str × V)} {f : Addr} {fd : FuncData} {N ps : List Str} {k : Nat} {W : Wd} {fv : Fd} (F : FunD K x qual params body scope dvs kws f fd) (S : FnScope N ps scope) (hp : ps.length ≤ N.length)
    (hbody : ∀ (cdv : Value) (Ar : Around) (outer : List Env) (s : Shared) (H : Hp) (E : XK) (A : Am), A.W = W → (∀ a, ¬ A.z a) → Room k (Ar.deeper (envOfC qual scope s.heap.objs.size f cdv)) →
      ∃ τ, VSs (cxOf (L2.CX P w) P w K mg base N qual scope f cdv Ar outer s H E) A (fun _ => E) body τ ∧ ∀ ds Q R, ds.length = ps.length → fv ds Q R → τ { nx := fun _ => False, rt := fun _ => False, rf := Q, ex := R } (stV N.length ds)) :
    FnOk P w K mg base (L2.CX P w) (k + 1) f fd ps (spF W ps.length fv) :=
  F.ok S (fun vs H Q E h => h.1) fun cdv Ar outer s H vs Q E hr h => body_ofF hp h fun A hA hz => hbody cdv Ar outer s H E A hA hz hr
end
section
variable {X : Cx} {A : Am} {E : L2.St → XK} {e : Expr} {es : List Expr} {τl : TV (List D)} {pos : Pos} {k : Nat} {ps : List Str} {f : Fd} {E' : XK} {x : Str} {p : Pos} {W : Wd}
theorem spF_of {f : Fd} {n : Nat} {S : Addr → Prop} {env : List Sl} {σ : L2.St} {H : Hp} {vs : List V} {ds : List D} {Qd : D → Prop} {Rd : Exn → Prop} {Q : VK} {E' : XK} (hW : A.W = W) (st : StR A S env σ H) (hn : vs.length = n) (r : RepL A.W S H vs ds) (h : f ds Qd Rd)
    (hq : ∀ d o p H1, Fx A H H1 → H1 p = none → RepO A.W S H1 o d → dataO o = true → Qd d → Q (.ref p) (upd H1 p o)) (hr : ∀ ex C dd H', Fx A H H' → ExR A.W H' ex C dd → Rd ex → E' C dd H') : spF W n f vs H Q E' := by
  subst hW
  exact ⟨hn, S, ds, Qd, Rd, st.dom, r, h, fun d o p H' e hp r mu q => hq d o p H' (st.ext e) hp r mu q, fun ex C dd H' e => hr ex C dd H' (st.ext e)⟩
theorem vf_fn (F : FnF X.prog X.w X.K X.mg X.base k x ps W f) (hW : A.W = W) (hr : Room k X.A) (hg : Gl X x) (hx : Passes (L2.CX X.prog X.w) X E') (hE : ∀ σ C dd H, E σ C dd H → E' C dd H)
    (ha : VA X A E (e :: es) τl) (hdb : (x == ("__debug__" : Str)) = false := by decide) (he : starEach (e :: es) X.env = (false, eval e X.env) :: starEach es X.env := by rfl) (hpl : (backTo pos (starEach es X.env)).any (·.1) = false := by rfl) :
    VF X A E (.Call (.Name x p) (e :: es) [] pos) (vCall f τl) := by
  obtain ⟨⟨g, fd, F⟩, len⟩ := F
  refine ⟨PE.imp (fn F hr hg hx ha.run hdb he hpl) fun σ H Q h => ?_⟩
  obtain ⟨S, env, Qd, Rd, st, h, hq, hr⟩ := h
  refine ⟨S, env, _, Rd, st, h, fun ds vs H1 f1 r q => ?_, fun ex C dd H' f xr q => hr ex C dd H' f xr q⟩
  exact spF_of hW (st.fx f1) (by rw [r.length]; exact len _ _ _ q) r q (fun d o p H2 f2 hp ro mu q => hq d o p H2 (f1.trans f2) hp ro mu q) fun ex C dd H' f2 xr q => hE σ C dd H' (hr ex C dd H' (f1.trans f2) xr q)
end
end Bs
/-! list(zip(a, b)) of two lists. -/
namespace Zl
open PySem PySem.Calls PyProof.Rows PySem.Spec
theorem zip_len0 : typeLookup (.type "zip") "__len__" = pure none := by rw [typeLookup_type, builtinLookup_eq_fast]; kernel_rfl
theorem zip_hint0 : typeLookup (.type "zip") "__length_hint__" = pure none := by rw [typeLookup_type, builtinLookup_eq_fast]; kernel_rfl
/-- a zip z over the lists l1, l2, i pairs given out; the new list S stands apart from the tuple that is out -/
structure ZP (h : Heap) (S z TI TO i1 i2 l1 l2 : Addr) (xs ys : Array Value) (i : Nat) : Prop where
  ti : IsPair h TI (.ref i1) (.ref i2)
  a1 : h.IsListIter i1 l1 i
  a2 : h.IsListIter i2 l2 i
  b1 : h.IsList l1 xs
  b2 : h.IsList l2 ys
  st : (IsZip h z TI TO .none ∧ ∃ a b, IsPair h TO a b) ∨ ∃ T f oT, IsZipHeld h z TI TO T f ∧ h.get? T = some oT ∧ T ≠ z ∧ T ≠ i1 ∧ T ≠ i2 ∧ T ≠ S
/-- all of the zip's objects lie below the new list -/
structure Low (S z TI TO i1 i2 l1 l2 : Addr) : Prop where
  z : z < S
  TI : TI < S
  TO : TO < S
  i1 : i1 < S
  i2 : i2 < S
  l1 : l1 < S
  l2 : l2 < S
variable {S z TI TO i1 i2 l1 l2 : Addr} {xs ys : Array Value}
theorem ZP.ty {h : Heap} {i : Nat} (p : ZP h S z TI TO i1 i2 l1 l2 xs ys i) : ∃ o, h.get? z = some o ∧ o.cls = .type "zip" := by
  rcases p.st with ⟨h1, _⟩ | ⟨T, f, oT, h1, _⟩
  · exact ⟨_, h1, rfl⟩
  · exact ⟨_, h1, rfl⟩
theorem ZP.keep {h h' : Heap} {i : Nat} (p : ZP h S z TI TO i1 i2 l1 l2 xs ys i) (L : Low S z TI TO i1 i2 l1 l2) (k : ∀ b o, b ≠ S → h.get? b = some o → h'.get? b = some o) : ZP h' S z TI TO i1 i2 l1 l2 xs ys i where
  ti := k _ _ (Nat.ne_of_lt L.TI) p.ti
  a1 := p.a1.at fun o e => k _ o (Nat.ne_of_lt L.i1) e
  a2 := p.a2.at fun o e => k _ o (Nat.ne_of_lt L.i2) e
  b1 := p.b1.at fun o e => k _ o (Nat.ne_of_lt L.l1) e
  b2 := p.b2.at fun o e => k _ o (Nat.ne_of_lt L.l2) e
  st := by
    rcases p.st with ⟨h1, a, b, h2⟩ | ⟨T, f, oT, h1, h2, h3, h4, h5, h6⟩
    · exact .inl ⟨k _ _ (Nat.ne_of_lt L.z) h1, a, b, k _ _ (Nat.ne_of_lt L.TO) h2⟩
    · exact .inr ⟨T, f, oT, k _ _ (Nat.ne_of_lt L.z) h1, k _ _ h6 h2, h3, h4, h5, h6⟩
section
variable {prog : Program} {w : World} {A : Around} {E : Value → Shared → Prop} {s : Shared}
theorem item {i : Nat} {x y : Value} {Q : Option Value → Shared → Prop} (D : ZipApart z TI TO i1 i2 l1 l2) (L : Low S z TI TO i1 i2 l1 l2) (p : ZP s.heap S z TI TO i1 i2 l1 l2 xs ys i) (hS : S < s.heap.objs.size) (hx : xs[i]? = some x) (hy : ys[i]? = some y)
    (hQ : ∀ h', ZP h' S z TI TO i1 i2 l1 l2 xs ys (i + 1) → IsPair h' s.heap.objs.size x y → h'.objs.size = s.heap.objs.size + 1 → (∀ c o, S ≤ c → s.heap.get? c = some o → h'.get? c = some o) →
      (∀ c o, c ≠ z → c ≠ TO → c ≠ i1 → c ≠ i2 → s.heap.get? c = some o → h'.get? c = some o) → Q (some (.ref s.heap.objs.size)) { s with heap := h' }) : wpAny (model prog w) A (pyNext (.ref z)) Q E s := by
  have low : ∀ c, S ≤ c → c ≠ z ∧ c ≠ TO ∧ c ≠ i1 ∧ c ≠ i2 := fun c hc => ⟨Nat.ne_of_gt (Nat.lt_of_lt_of_le L.z hc), Nat.ne_of_gt (Nat.lt_of_lt_of_le L.TO hc), Nat.ne_of_gt (Nat.lt_of_lt_of_le L.i1 hc), Nat.ne_of_gt (Nat.lt_of_lt_of_le L.i2 hc)⟩
  have nl := low s.heap.objs.size (Nat.le_of_lt hS)
  rcases p.st with ⟨h1, a, b, h2⟩ | ⟨T, f, oT, h1, h2, h3, h4, h5, h6⟩
  · refine wpAny_pyNext_zip_item D h1 p.ti h2 p.a1 p.a2 p.b1 p.b2 hx hy fun h' q1 q2 q3 q4 q5 q6 q7 => hQ h' ⟨q7 _ _ D.TIz D.TITO D.TIi1 D.TIi2 p.ti, q3, q4, p.b1.at fun o e => q7 _ o D.l1z D.l1TO D.l1i1 D.l1i2 e, p.b2.at fun o e => q7 _ o D.l2z D.l2TO D.l2i1 D.l2i2 e, .inr ⟨_, false, _, q1, q5, nl.1, nl.2.2.1, nl.2.2.2, Nat.ne_of_gt hS⟩⟩ q5 q6 (fun c o hc e => q7 c o (low c hc).1 (low c hc).2.1 (low c hc).2.2.1 (low c hc).2.2.2 e) q7
  · refine wpAny_pyNext_zip_item_held D h1 h2 p.ti p.a1 p.a2 p.b1 p.b2 hx hy fun h' q1 q3 q4 q5 q6 q7 => hQ h' ⟨q7 _ _ D.TIz D.TIi1 D.TIi2 p.ti, q3, q4, p.b1.at fun o e => q7 _ o D.l1z D.l1i1 D.l1i2 e, p.b2.at fun o e => q7 _ o D.l2z D.l2i1 D.l2i2 e, .inr ⟨T, true, oT, q1, q7 _ _ h3 h4 h5 h2, h3, h4, h5, h6⟩⟩ q5 q6 (fun c o hc e => q7 c o (low c hc).1 (low c hc).2.2.1 (low c hc).2.2.2 e) (fun c o c1 _ c3 c4 e => q7 c o c1 c3 c4 e)
theorem done {i : Nat} {Q : Option Value → Shared → Prop} (hh : A.handled = none) (D : ZipApart z TI TO i1 i2 l1 l2) (p : ZP s.heap S z TI TO i1 i2 l1 l2 xs ys i) (hx : xs[i]? = none)
    (hQ : ∀ h', (∀ c o, c ≠ z → c ≠ TO → c ≠ i1 → c ≠ i2 → s.heap.get? c = some o → h'.get? c = some o) → Q none { s with heap := h' }) : wpAny (model prog w) A (pyNext (.ref z)) Q E s := by
  rcases p.st with ⟨h1, a, b, h2⟩ | ⟨T, f, oT, h1, h2, h3, h4, h5, h6⟩
  · exact wpAny_pyNext_zip_end hh D h1 p.ti h2 p.a1 p.a2 p.b1 p.b2 (.inl hx) fun h' k => hQ h' k
  · exact wpAny_pyNext_zip_end_held hh D h1 h2 p.ti p.a1 p.a2 p.b1 p.b2 (.inl hx) fun h' k => hQ h' fun c o c1 _ c3 c4 e => k c o c1 c3 c4 e
end
/-- the pairs that the new list holds -/
structure Prs (xs ys : Array Value) (S : Addr) (h : Heap) (as : List Addr) : Prop where
  up : as.Pairwise (· < ·)
  hi : ∀ a ∈ as, S < a
  at_ : ∀ (j : Nat) (a : Addr), as[j]? = some a → ∃ x y, xs[j]? = some x ∧ ys[j]? = some y ∧ IsPair h a x y
theorem Prs.lt {h : Heap} {as : List Addr} (g : Prs xs ys S h as) {a : Addr} (ha : a ∈ as) : a < h.objs.size := by
  obtain ⟨j, hj⟩ := List.mem_iff_getElem?.mp ha
  obtain ⟨x, y, _, _, e⟩ := g.at_ j a hj
  exact Heap.lt_size e
section
variable {prog : Program} {w : World} {A : Around} {s : Shared} {R : Result → Shared → Prop}
theorem loop (hh : A.handled = none) (D : ZipApart z TI TO i1 i2 l1 l2) (L : Low S z TI TO i1 i2 l1 l2) (hl : xs.size = ys.size) (hn : xs.size ≤ sizeLine) (res : Value) {h₁ : Heap}
    (hR : ∀ h' tk acc c as, (∀ b o, b ≠ S → b ≠ z → b ≠ TO → b ≠ i1 → b ≠ i2 → h₁.get? b = some o → h'.get? b = some o) → h'.get? S = some { cls := .type "list", dict := none, data := .seq acc c, slots := #[] } → as.length = xs.size → Prs xs ys S h' as →
      acc.toList = as.map Value.ref → R (.ok (.ret res)) { s with heap := h', toks := tk }) :
    ∀ (k i : Nat) (h : Heap) (tk c : Nat) (acc : Array Value) (as : List Addr), xs.size - i = k → i ≤ xs.size → ZP h S z TI TO i1 i2 l1 l2 xs ys i → (∀ b o, b ≠ S → b ≠ z → b ≠ TO → b ≠ i1 → b ≠ i2 → h₁.get? b = some o → h.get? b = some o) →
      h.get? S = some { cls := .type "list", dict := none, data := .seq acc c, slots := #[] } → acc.toList = as.map Value.ref → as.length = i → Prs xs ys S h as →
      codeAny (model prog w) A (.builtin "list.extend.loop" ⟨[.ref S, .ref z, res], []⟩) R { s with heap := h, toks := tk } := by
  intro k
  induction k with
  | zero =>
    intro i h tk c acc as hk hi hst hkeep hS hacc hal hG
    refine codeAny_builtin PySem.F.entry_extend_loop ?_
    rw [Around.under_plainId PySem.F.plain_extend_loop _]
    show wpAny _ A.in1 (pyNext (.ref z) >>= _) _ _ _
    refine wpAny_bind (done (s := { s with heap := h, toks := tk }) (A := A.in1) hh D hst (Array.getElem?_eq_none (by omega)) fun h' he => ?_)
    have hiS : ∀ b, S ≤ b → b ≠ z ∧ b ≠ TO ∧ b ≠ i1 ∧ b ≠ i2 := fun c hc => ⟨Nat.ne_of_gt (Nat.lt_of_lt_of_le L.z hc), Nat.ne_of_gt (Nat.lt_of_lt_of_le L.TO hc), Nat.ne_of_gt (Nat.lt_of_lt_of_le L.i1 hc), Nat.ne_of_gt (Nat.lt_of_lt_of_le L.i2 hc)⟩
    have ge : ∀ b o, S ≤ b → h.get? b = some o → h'.get? b = some o := fun b o hb e => he b o (hiS b hb).1 (hiS b hb).2.1 (hiS b hb).2.2.1 (hiS b hb).2.2.2 e
    refine wpAny_pure (hR h' tk acc c as (fun b o c1 c2 c3 c4 c5 e => he b o c2 c3 c4 c5 (hkeep b o c1 c2 c3 c4 c5 e)) (ge S _ (Nat.le_refl _) hS) (by omega) ⟨hG.up, hG.hi, fun j a hj => ?_⟩ hacc)
    obtain ⟨x, y, e1, e2, e3⟩ := hG.at_ j a hj
    exact ⟨x, y, e1, e2, ge a _ (Nat.le_of_lt (hG.hi a (List.mem_of_getElem? hj))) e3⟩
  | succ k ih =>
    intro i h tk c acc as hk hi hst hkeep hS hacc hal hG
    have hlt : i < xs.size := by omega
    have hsz : acc.size = i := by rw [← Array.length_toList, hacc, List.length_map, hal]
    have hSl : S < h.objs.size := Heap.lt_size hS
    refine codeAny_builtin PySem.F.entry_extend_loop ?_
    rw [Around.under_plainId PySem.F.plain_extend_loop _]
    show wpAny _ A.in1 (pyNext (.ref z) >>= _) _ _ _
    refine wpAny_bind (item (s := { s with heap := h, toks := tk }) D L hst hSl (Array.getElem?_eq_getElem hlt) (Array.getElem?_eq_getElem (by omega)) fun h' hst' ht hz hge hkp => ?_)
    dsimp only at ht hz hge hkp ⊢
    have hS' := hge S _ (Nat.le_refl _) hS
    have up : ∀ b o, b ≠ S → h'.get? b = some o → (h'.update S (Obj.mapSeq (·.push (Value.ref h.objs.size)))).get? b = some o := fun b o hb e => (Heap.get?_update_other _ _ (Ne.symm hb)).trans e
    show wpAny _ A.in1 (updateSeq S (·.push (Value.ref h.objs.size)) >>= _) _ _ _
    refine wpAny_bind ?_
    refine wpAny_updateSeq hS' rfl (wpAny_pure ⟨plainId_quiet PySem.F.plain_extend_loop _, ih (i + 1) _ tk _ (acc.push (Value.ref h.objs.size)) (as ++ [h.objs.size]) (by omega) hlt (hst'.keep L up)
      (fun b o c1 c2 c3 c4 c5 e => up b o c1 (hkp b o c2 c3 c4 c5 (hkeep b o c1 c2 c3 c4 c5 e))) (Heap.get?_update_self _ hS' rfl) (by rw [Array.toList_push, hacc, List.map_append]; rfl) (by rw [List.length_append, hal]; rfl) ⟨?_, ?_, ?_⟩⟩) (by rw [hsz]; omega) (by show (acc.push (Value.ref h.objs.size)).size ≤ sizeLine + 1; rw [Array.size_push, hsz]; omega)
    · refine List.pairwise_append.mpr ⟨hG.up, List.pairwise_singleton _ _, fun a ha b hb => ?_⟩
      rw [List.mem_singleton.mp hb]
      exact hG.lt ha
    · intro a ha
      rcases List.mem_append.mp ha with ha | ha
      · exact hG.hi a ha
      · rw [List.mem_singleton.mp ha]; exact hSl
    · intro j b hj
      rcases Nat.lt_trichotomy j as.length with h1 | h1 | h1
      · rw [List.getElem?_append_left h1] at hj
        obtain ⟨x, y, e1, e2, e3⟩ := hG.at_ j b hj
        have hb := hG.hi b (List.mem_of_getElem? hj)
        exact ⟨x, y, e1, e2, up b _ (Nat.ne_of_gt hb) (hge b _ (Nat.le_of_lt hb) e3)⟩
      · subst h1
        have hb : h.objs.size = b := by simpa using hj
        subst hb
        exact ⟨_, _, by subst hal; exact Array.getElem?_eq_getElem hlt, by subst hal; exact Array.getElem?_eq_getElem (by omega), up _ _ (Nat.ne_of_gt hSl) ht⟩
      · have hnone : (as ++ [h.objs.size])[j]? = none := List.getElem?_eq_none (by rw [List.length_append, List.length_singleton]; omega)
        rw [hnone] at hj; cases hj
theorem extend (hh : A.handled = none) (D : ZipApart z TI TO i1 i2 l1 l2) (L : Low S z TI TO i1 i2 l1 l2) (hl : xs.size = ys.size) (hn : xs.size ≤ sizeLine) (res : Value) (c₀ : Nat) (p : ZP s.heap S z TI TO i1 i2 l1 l2 xs ys 0) (p0 : IsZip s.heap z TI TO .none)
    (hS : s.heap.get? S = some { cls := .type "list", data := .seq #[] c₀ })
    (hR : ∀ h' tk acc c as, (∀ b o, b ≠ S → b ≠ z → b ≠ TO → b ≠ i1 → b ≠ i2 → s.heap.get? b = some o → h'.get? b = some o) → h'.get? S = some { cls := .type "list", dict := none, data := .seq acc c, slots := #[] } → as.length = xs.size → Prs xs ys S h' as →
      acc.toList = as.map Value.ref → R (.ok (.ret res)) { s with heap := h', toks := tk }) :
    wpAny (model prog w) A.in1 (Builtin.List.listExtendWith (.ref S) (.ref z) res)
      (fun fin s' => match fin with | .done f => R (.ok f) s' | .again c' => c'.quiet = true ∧ codeAny (model prog w) A c' R s') (fun e s' => R (.error e) s') s := by
  have hT : s.TypeIs (.ref z) "zip" := ⟨_, p0, rfl⟩
  have hne : S ≠ z := Nat.ne_of_gt L.z
  unfold Builtin.List.listExtendWith
  refine wpAny_bind (wpAny_typeOf hT ?_)
  have e1 : Builtin.List.listSameRef (.ref S) (.ref z) = false := by simp [Builtin.List.listSameRef, hne]
  have e2 : (Value.type "zip" == Value.type "list") = false := by decide
  have e3 : (Value.type "zip" == Value.type "tuple") = false := by decide
  simp only [e1, e2, e3, Bool.or_false, Bool.false_eq_true, if_false]
  refine wpAny_bind (wpAny_pyIter_zip p0 ?_)
  refine wpAny_bind (wpAny_holding ?_)
  unfold Builtin.List.listLengthHint
  refine wpAny_bind (wpAny_specialOf hT zip_len0 ?_)
  show wpAny _ A.in1 (specialOf (Value.ref z) (Str.ofString "__length_hint__") >>= _) _ _ _
  refine wpAny_bind (wpAny_specialOf hT zip_hint0 ?_)
  refine wpAny_pure ?_
  show wpAny _ A.in1 (rule "list.extend.makes-room" >>= fun _ => Builtin.List.listTouch (.ref S) >>= fun _ =>
    again (.builtin "list.extend.loop" ⟨[.ref S, .ref z, res], []⟩)) _ _ _
  refine wpAny_bind (wpAny_rule ?_)
  refine wpAny_bind ?_
  show wpAny _ A.in1 (updateSeq S (·.push .none) >>= fun _ => updateSeq S (·.pop)) _ _ _
  refine wpAny_bind (wpAny_updateSeq hS rfl ?_)
  have hS₂ := Heap.get?_update_self (Obj.mapSeq (·.push Value.none)) hS rfl
  refine wpAny_updateSeq (hz := by seq_fits) hS₂ rfl ?_
  have hS₃ := Heap.get?_update_self (Obj.mapSeq (·.pop)) hS₂ rfl
  have oth : ∀ b o, b ≠ S → s.heap.get? b = some o → ((s.heap.update S (Obj.mapSeq (·.push Value.none))).update S (Obj.mapSeq (·.pop))).get? b = some o :=
    fun b o hb e => (Heap.get?_update_other _ _ (Ne.symm hb)).trans ((Heap.get?_update_other _ _ (Ne.symm hb)).trans e)
  exact wpAny_pure ⟨plainId_quiet PySem.F.plain_extend_loop _, loop (s := s) (h₁ := s.heap) hh D L hl hn res hR xs.size 0 _ _ _ #[] [] (Nat.sub_zero _) (Nat.zero_le _) (p.keep L oth) (fun b o c1 _ _ _ _ e => oth b o c1 e) hS₃ rfl rfl ⟨List.Pairwise.nil, (fun _ ha => nomatch ha), (fun j a hj => by simp at hj)⟩⟩
end
section
variable {prog : Program} {w : World} {A : Around} {E : Value → Shared → Prop} {s : Shared}
theorem call_list {Q : Value → Shared → Prop} (hh : A.handled = none) (D : ZipApart z TI TO i1 i2 l1 l2) (L : Low s.heap.objs.size z TI TO i1 i2 l1 l2) (hl : xs.size = ys.size) (hn : xs.size ≤ sizeLine) (p : ZP s.heap s.heap.objs.size z TI TO i1 i2 l1 l2 xs ys 0) (p0 : IsZip s.heap z TI TO .none)
    (hQ : ∀ h' tk acc c as, (∀ b o, b ≠ z → b ≠ TO → b ≠ i1 → b ≠ i2 → s.heap.get? b = some o → h'.get? b = some o) → h'.get? s.heap.objs.size = some { cls := .type "list", dict := none, data := .seq acc c, slots := #[] } → as.length = xs.size → Prs xs ys s.heap.objs.size h' as →
      acc.toList = as.map Value.ref → Q (.ref s.heap.objs.size) { s with heap := h', toks := tk }) :
    wpAny (model prog w) A (call (.type "list") [.ref z]) Q E s := by
  refine callType_codes (Q₁ := fun obj s₁ => obj = .ref s.heap.objs.size ∧ s₁ = { s with heap := s.heap.push { cls := .type "list", data := .seq #[] } }) PySem.F.called_list (PySem.F.typeCall_list_1 _) PySem.F.entry_list_init
    (code_list_new _ ⟨rfl, rfl⟩) fun obj s₁ h₁ => ?_
  obtain ⟨rfl, rfl⟩ := h₁
  have hS : (s.heap.push { cls := .type "list", data := .seq #[] }).get? s.heap.objs.size = some { cls := .type "list", data := .seq #[] } := Heap.get?_push_size _ rfl
  have psh : ∀ b o, b ≠ s.heap.objs.size → s.heap.get? b = some o → (s.heap.push { cls := .type "list", data := .seq #[] }).get? b = some o := fun b o _ e => Heap.get?_push_of_some _ e
  refine ⟨⟨_, hS, rfl⟩, PySem.F.args_list_init_2 _ _, ?_⟩
  show wpAny _ _ (do let old ← Builtin.List.listItems (.ref s.heap.objs.size); Builtin.List.listUpdate (.ref s.heap.objs.size) (fun _ => #[]); letGo old.toList.reverse; Builtin.List.listExtendWith (.ref s.heap.objs.size) (.ref z) .none) _ _ _
  refine wpAny_bind ?_
  unfold Builtin.List.listItems
  refine wpAny_bind (wpAny_seqItems hS rfl (wpAny_pure ?_))
  show wpAny _ _ (updateSeq s.heap.objs.size (fun _ => #[]) >>= fun _ => letGo (#[] : Array Value).toList.reverse >>= fun _ => Builtin.List.listExtendWith (.ref s.heap.objs.size) (.ref z) .none) _ _ _
  refine wpAny_bind (wpAny_updateSeq hS rfl ?_)
  have hS₂ := Heap.get?_update_self (Obj.mapSeq (fun _ => (#[] : Array Value))) hS rfl
  have oth : ∀ b o, b ≠ s.heap.objs.size → s.heap.get? b = some o → ((s.heap.push { cls := .type "list", data := .seq #[] }).update s.heap.objs.size (Obj.mapSeq (fun _ => (#[] : Array Value)))).get? b = some o :=
    fun b o hb e => (Heap.get?_update_other _ _ (Ne.symm hb)).trans (psh b o hb e)
  refine wpAny_bind (wpAny_letGo ?_)
  refine extend (A := A.in1) hh D L hl hn .none _ (p.keep L oth) (oth _ _ (Nat.ne_of_lt L.z) p0) hS₂ fun h' tk acc c as hk hS' hl' hG hacc => ?_
  exact ⟨rfl, hQ h' tk acc c as (fun b o c2 c3 c4 c5 e => hk b o (Nat.ne_of_lt (Heap.lt_size e)) c2 c3 c4 c5 (oth b o (Nat.ne_of_lt (Heap.lt_size e)) e)) hS' hl' hG hacc⟩
end
end Zl
namespace Bs
open PySem PySem.Spec PyProof.Rows L2
/-- the new list at S of new pairs at as -/
def putP (H : Hp) (S : Addr) (as : List Addr) (xs ys : List V) : Hp := fun b => if b = S then some (.lst (as.map V.ref)) else if b ∈ as then some (.tup [xs.getD (as.idxOf b) .non, ys.getD (as.idxOf b) .non]) else H b
theorem idxOf_get {as : List Addr} (nd : as.Nodup) {j : Nat} {a : Addr} (h : as[j]? = some a) : as.idxOf a = j := by
  obtain ⟨hj, e⟩ := List.getElem?_eq_some_iff.mp h
  subst e
  exact List.Nodup.idxOf_getElem nd j hj
/-- what list(zip(a, b)) leaves -/
def rZip (K : PySem.W.Frag) : V → V → Hp → VK → Prop := fun a b H Q => match a, b with
  | .ref p, .ref q => ∃ xs ys, SqL K H p xs ∧ SqL K H q ys ∧ xs.length = ys.length ∧ ∀ (H' : Hp) (l : Addr) (ts : List Addr), (∀ b o, H b = some o → H' b = some o) → H l = none → (∀ t ∈ ts, H t = none) → ts.Nodup → l ∉ ts → H' l = some (.lst (ts.map V.ref)) → ts.length = xs.length →
      (∀ (j : Nat) (t : Addr), ts[j]? = some t → ∃ x y, xs[j]? = some x ∧ ys[j]? = some y ∧ H' t = some (.tup [x, y])) → Q (.ref l) H'
  | _, _ => False
def tZip (K : PySem.W.Frag) (ta : TA) : TE := fun σ H Q => ta σ H fun vs H1 => match vs with
  | [a, b] => rZip K a b H1 Q
  | _ => False
section
variable {X : Cx}
theorem pe_listzip {e e2 : Expr} {ta : TA} {p p2 pos pos2 : Pos} (hg : Gl X "list") (hm : X.mg "list" = none) (hgz : Gl X "zip") (hmz : X.mg "zip" = none) (ha : PA X [e, e2] ta) (hc : X.calm = true := by rfl)
    (hs : starEach [.Call (.Name "zip" p2) [e, e2] [] pos2] X.env = (false, eval (.Call (.Name "zip" p2) [e, e2] [] pos2) X.env) :: starEach [] X.env := by rfl)
    (hs2 : starEach [e, e2] X.env = (false, eval e X.env) :: starEach [e2] X.env := by rfl) (hpl : (backTo pos2 (starEach [e2] X.env)).any (·.1) = false := by rfl) :
    PE X (.Call (.Name "list" p) [.Call (.Name "zip" p2) [e, e2] [] pos2] [] pos) (tZip X.K ta) := by
  refine ⟨fun pins s σ H Q I hq => ?_⟩
  refine wpAny_Call_Name_kw (ld_blt I hg hm boot_list ?_)
  refine PyProof.Rows.callWith_type1 ?_ hs rfl
  rw [hs]
  show wpAny _ _ (spliced ((false, eval (.Call (.Name "zip" p2) [e, e2] [] pos2) X.env) :: backTo pos (starEach [] X.env))) _ _ s
  refine Calls.spliced_cons ?_
  refine Call_ (ld_blt I hgz hmz PyProof.Rows.boot_zip (PyProof.Rows.callWith_type1 (thn (ha.run pos2 pins s σ H _ I hq) fun us s1 ⟨vs, H1, I1, r1, q1⟩ => ?_) hs2 hpl))
  cases r1 with
  | nil => exact (show False from q1).elim
  | @cons va ua _ _ r rr =>
  cases rr with
  | nil => exact (show False from q1).elim
  | @cons vb ub _ _ r' rr =>
  cases rr with
  | cons _ _ => exact (show False from q1).elim
  | nil =>
  replace q1 : rZip X.K va vb H1 Q := q1
  unfold rZip at q1
  split at q1
  · rename_i a b
    obtain ⟨xs, ys, hx, hy, hl, q⟩ := q1
    cases r
    cases r'
    obtain ⟨its, rv, p1, z1⟩ := I1.list hx
    obtain ⟨its2, rv2, p2, _⟩ := I1.list hy
    have hl1 := rv.length
    have hl2 := rv2.length
    refine call_zip_2 p1.isList p2.isList fun h' hz hTI hTO h1 h2 hsz hk => ?_
    refine Calls.spliced_nil ?_
    have la : (a : Nat) < s1.heap.objs.size := p1.lt
    have lb : (b : Nat) < s1.heap.objs.size := p2.lt
    have lt1 : ∀ (b : Nat) o, s1.heap.get? b = some o → b < s1.heap.objs.size := fun b o e => Heap.lt_size e
    have s15 : s1.heap.objs.size ≤ h'.objs.size := by rw [hsz]; exact Nat.le_add_right _ _
    have S5 : h'.objs.size = s1.heap.objs.size + 5 := hsz
    refine Zl.call_list (s := { s1 with heap := h' }) (xs := its.toArray) (ys := its2.toArray) (I1.ok.hd hc) (PySem.W.ktu_apart s1.heap.objs.size a b la lb) ⟨by show _ < h'.objs.size; omega, by show _ < h'.objs.size; omega, by show _ < h'.objs.size; omega, by show _ < h'.objs.size; omega, by show _ < h'.objs.size; omega, Nat.lt_of_lt_of_le p1.lt s15, Nat.lt_of_lt_of_le p2.lt s15⟩
      (by rw [List.size_toArray, List.size_toArray]; omega) (by rw [List.size_toArray]; omega) ⟨hTI, h1, h2, p1.isList.at fun o e => hk _ o e, p2.isList.at fun o e => hk _ o e, .inl ⟨hz, _, _, hTO⟩⟩ hz fun h2 tk acc c as k1 k2 k3 k4 k5 => ?_
    have kk : ∀ b o, s1.heap.get? b = some o → h2.get? b = some o := fun b o e => k1 b o (Nat.ne_of_lt (Nat.lt_of_lt_of_le (lt1 b o e) (Nat.le_add_right _ _))) (Nat.ne_of_lt (Nat.lt_of_lt_of_le (lt1 b o e) (Nat.le_add_right _ _))) (Nat.ne_of_lt (lt1 b o e)) (Nat.ne_of_lt (Nat.lt_of_lt_of_le (lt1 b o e) (Nat.le_add_right _ _))) (hk b o e)
    have nd : as.Nodup := List.Pairwise.imp (fun {a b} (h : a < b) => Nat.ne_of_lt h) k4.up
    have hSn : h'.objs.size ∉ as := fun z => Nat.lt_irrefl _ (k4.hi _ z)
    have new : ∀ t ∈ as, H1 t = none := fun t ht => I1.hok.fresh (Nat.le_trans s15 (Nat.le_of_lt (k4.hi t ht)))
    have newS : H1 h'.objs.size = none := I1.hok.fresh (by omega)
    have off : ∀ b, b ∉ as → b ≠ h'.objs.size → putP H1 h'.objs.size as xs ys b = H1 b := fun b h1 h2 => by
      unfold putP
      rw [if_neg h2, if_neg h1]
    have low : ∀ b o, s1.heap.get? b = some o → b ∉ as ∧ b ≠ h'.objs.size := fun b o e => ⟨fun z => Nat.lt_irrefl _ (Nat.lt_trans (Nat.lt_of_lt_of_le (Heap.lt_size e) s15) (k4.hi b z)), Nat.ne_of_lt (Nat.lt_of_lt_of_le (Heap.lt_size e) s15)⟩
    have kp : ∀ b u, H1 b = some u → putP H1 h'.objs.size as xs ys b = some u := fun b u e => by
      rw [off b (fun z => by rw [new b z] at e; cases e) (fun z => by rw [z, newS] at e; cases e)]
      exact e
    have eS : putP H1 h'.objs.size as xs ys h'.objs.size = some (.lst (as.map V.ref)) := by
      unfold putP
      rw [if_pos rfl]
    have eP : ∀ (j : Nat) (t : Addr), as[j]? = some t → ∃ x y, xs[j]? = some x ∧ ys[j]? = some y ∧ putP H1 h'.objs.size as xs ys t = some (.tup [x, y]) := fun j t e => by
      obtain ⟨hj, _⟩ := List.getElem?_eq_some_iff.mp e
      have k3' : as.length = its.length := by simpa using k3
      have hjx : j < xs.length := by omega
      have hjy : j < ys.length := by omega
      refine ⟨xs[j], ys[j], List.getElem?_eq_getElem hjx, List.getElem?_eq_getElem hjy, ?_⟩
      have tm : t ∈ as := List.mem_of_getElem? e
      unfold putP
      rw [if_neg (fun z : t = h'.objs.size => hSn (z ▸ tm)), if_pos tm, idxOf_get nd e]
      simp [List.getD_eq_getElem?_getD, hjx, hjy]
    have J : Inv X pins σ (putP H1 h'.objs.size as xs ys) { s1 with heap := h2, toks := tk } := by
      refine I1.call' (ch := []) rfl ⟨fun b o q _ _ _ => kk b o q, fun b o q _ _ _ => ⟨o.slots, kk b o q⟩, fun b o q n _ => ?_, fun b o q _ => ⟨o, kk b o q⟩, fun b xs q => kp b _ q, fun b o u q => kp b _ q, fun b ps q => ⟨#[], by rw [kp b _ q]; simp⟩⟩ (fun b u q => ?_) I1.bare fun b z => by simp at z
      · obtain ⟨c1, c2⟩ := low b o q
        rw [off b c1 c2]
        exact n
      · by_cases hb : b ∈ as
        · obtain ⟨j, e1⟩ := List.mem_iff_getElem?.mp hb
          obtain ⟨x, y, f1, f2, f3⟩ := eP j b e1
          rw [f3] at q
          cases q
          obtain ⟨vx, vy, g1, g2, g3⟩ := k4.at_ j b e1
          obtain ⟨ux, m1, m2⟩ := rv.get f1
          obtain ⟨uy, m3, m4⟩ := rv2.get f2
          have n1 : its[j]? = some vx := by simpa using g1
          have n2 : its2[j]? = some vy := by simpa using g2
          rw [m1] at n1
          rw [m3] at n2
          cases n1
          cases n2
          exact ⟨by show 2 ≤ sizeLine; decide, [vx, vy], .cons m2 (.cons m4 .nil), ⟨_, g3, rfl, _, rfl⟩⟩
        · by_cases hb2 : b = h'.objs.size
          · rw [hb2] at q ⊢
            rw [eS] at q
            cases q
            have k3' : as.length = its.length := by simpa using k3
            refine ⟨by rw [List.length_map]; omega, acc.toList, c, by rw [k5]; exact LiI.vals_refs as, ?_⟩
            rw [Array.toArray_toList]
            exact k2
          · rw [off b hb hb2] at q
            exact (I1.hok b u q).stay (fun d v _ y => kk d v y) (fun d y => kp d _ y) fun d xs y => kp d _ y
    exact ⟨.ref _, _, J, rfl, q _ h'.objs.size as kp newS new nd hSn eS (k3.trans ((List.size_toArray).trans hl1.symm)) eP⟩
  · exact q1.elim
end
end Bs
/-! list(zip(..)), extend, what is never reached; _law_same over trees. -/
namespace Bs
open PySem PySem.Spec PyProof.Rows L2 K0
section
variable {X : Cx} {A : Am} {E : L2.St → XK} {e e2 a b : Expr} {es : List Expr} {τ τa τb : TV D} {τt : TV Bool} {τl : TV (List D)} {pos : Pos}
@[simp] def vNo : TV D := fun _ _ _ => False
theorem v_no : VE X A E e vNo := ⟨PE.imp pe_no fun σ H Q h => by
  obtain ⟨S, env, Qd, Rd, st, h, hq, hr⟩ := h
  exact h⟩
/-- x.extend(e), x the frame's own list, e a list -/
@[simp] def vExt (i : Nat) (τ : TV D) : VTS := fun Vn env => match ownL env[i]? with
  | some ds => τ env (fun y => lstOf y fun es => ds.length + es.length ≤ sizeLine ∧ Vn.nx (env.set i (.ow (.lst (ds ++ es))))) Vn.ex
  | none => False
theorem vs_ext {i : Nat} {x : Str} {pos' apos cpos : Pos} (hN : X.N[i]? = some x) (hv : Vis X.env.scope x) (he : VE X A E e τ) (hd : (x == ("__debug__" : Str)) = false := by decide) (hcd : (x == ("__classdict__" : Str)) = false := by decide)
    (hbase : attributeBase (.Name x pos') "extend" X.env (eval (.Name x pos') X.env) = eval (.Name x pos') X.env := by rfl)
    (hfew : ((backTo cpos (starEach [e] X.env)).all (fun x => !x.1) && (backToKw cpos (keywordEach [] X.env)).all (fun x => x.1.isSome) && decide ([e].length + ([] : List Keyword).length + (if ([] : List Keyword).isEmpty then 0 else 1) < 30)) = true := by rfl)
    (hline : (apos.endLine == cpos.line) = true := by rfl) (hst : starEach [e] X.env = (false, eval e X.env) :: starEach [] X.env := by rfl) (hplain : (backTo cpos (starEach [] X.env)).any (·.1) = false := by rfl)
    (hs : swapsWith (.Call (.Attribute (.Name x pos') "extend" apos) [e] [] cpos) none pos.line X.env = pure false := by rfl) :
    VS X A E (.Expr (.Call (.Attribute (.Name x pos') "extend" apos) [e] [] cpos) pos) (vExt i τ) :=
  ⟨PS.imp (ps_expr (pe_bm PySem.F.plainAttrs_list PySem.F.slot_list_extend PySem.F.type_list_extend mt_extend (pe_var (i := i) hN hv hd hcd) (pa_cons he.run pa_nil hst) hbase hfew hline hst hplain) hs) fun D' σ H h => by
    obtain ⟨S, env, Vn, st, h, k⟩ := h
    unfold vExt at h
    split at h
    · rename_i ds hd
      obtain ⟨he1, p, xs, h2, h3, r⟩ := st.ownL hd
      refine ⟨_, h2, .inl ⟨rfl, xs, SqL.of h3⟩, S, env, _, _, st, h, fun y v H1 f1 r1 q1 => ?_, fun ex C dd H' f xr q => k.ex ex C dd σ H' (st.fx f).bf xr q⟩
      have st1 := st.fx f1
      obtain ⟨_, p1, xs1, h4, h5, r5⟩ := st1.ownL hd
      rw [h2] at h4; cases h4
      unfold lstOf at q1
      split at q1
      · obtain ⟨b, zs, rfl, hs, h6, r6⟩ := r1.lstS
        refine ⟨p, b, xs1, zs, rfl, rfl, h5, h6, by rw [r5.length, r6.length]; exact q1.1, ?_⟩
        obtain ⟨st2, m2⟩ := st1.put (o' := .lst (xs1 ++ zs)) (d' := .lst (ds ++ _)) he1 h2 h5 (.lst (r5.app r6)) rfl
        exact k.nx _ _ _ _ st2 ((st.mn f1).trans m2) q1.2
      · exact q1.elim
    · exact h.elim⟩
/-- list(zip(a, b)), lists of one length -/
@[simp] def dZip (d e : D) (Q : D → Prop) : Prop := match d, e with
  | .lst xs, .lst ys => xs.length = ys.length ∧ Q (.lst (zipD xs ys))
  | _, _ => False
theorem RepL.of_get {W : Wd} {S : Addr → Prop} {H : Hp} : ∀ {vs : List L2.V} {ds : List D}, vs.length = ds.length → (∀ (i : Nat) (v : L2.V) (d : D), vs[i]? = some v → ds[i]? = some d → Rep W S H v d) → RepL W S H vs ds
  | [], [], _, _ => .nil
  | [], _ :: _, h, _ => by simp at h
  | _ :: _, [], h, _ => by simp at h
  | v :: vs, d :: ds, h, g => .cons (g 0 v d rfl rfl) (RepL.of_get (by simpa using h) fun i v d h1 h2 => g (i + 1) v d (by simpa using h1) (by simpa using h2))
@[simp] def vZip (τa τb : TV D) : TV D := fun env Q R => τa env (fun d => τb env (fun e => dZip d e Q) R) R
theorem v_listzip {p p2 pos pos2 : Pos} (hg : Gl X "list") (hm : X.mg "list" = none) (hgz : Gl X "zip") (hmz : X.mg "zip" = none) (ha : VE X A E e τa) (hb : VE X A E e2 τb) (hc : X.calm = true := by rfl)
    (hs : starEach [.Call (.Name "zip" p2) [e, e2] [] pos2] X.env = (false, eval (.Call (.Name "zip" p2) [e, e2] [] pos2) X.env) :: starEach [] X.env := by rfl)
    (hs2 : starEach [e, e2] X.env = (false, eval e X.env) :: starEach [e2] X.env := by rfl) (hs3 : starEach [e2] X.env = (false, eval e2 X.env) :: starEach [] X.env := by rfl) (hpl : (backTo pos2 (starEach [e2] X.env)).any (·.1) = false := by rfl) :
    VE X A E (.Call (.Name "list" p) [.Call (.Name "zip" p2) [e, e2] [] pos2] [] pos) (vZip τa τb) := ⟨PE.imp (pe_listzip hg hm hgz hmz (va_cons ha (va_cons hb va_nil hs3) hs2).run hc hs hs2 hpl) fun σ H Q h => by
  obtain ⟨S, env, Qd, Rd, st, h, hq, hr⟩ := h
  refine ⟨S, env, two2 fun d e => dZip d e Qd, Rd, st, h, fun ds vs H1 f1 r1 q1 => ?_, hr⟩
  obtain ⟨x, y, d, e, rfl, rx, ry, q⟩ := va_two q1 r1
  have st1 := st.fx f1
  unfold dZip at q
  split at q
  · obtain ⟨a, xs, rfl, hs, h1, rxs⟩ := rx.lstS
    obtain ⟨b, ys, rfl, hs', h2, rys⟩ := ry.lstS
    refine ⟨xs, ys, SqL.of h1, SqL.of h2, by rw [rxs.length, rys.length]; exact q.1, fun H' l ts ext hl hts nd hlt hL hlen hp => ?_⟩
    have f2 : Fx A H1 H' := st1.ext ext
    have mn := st1.mn f2
    refine hq _ _ H' (f1.trans f2) (.ob (st1.notS hl) hL (.lst (RepL.of_get ?_ fun i v d g1 g2 => ?_))) q.2
    · rw [List.length_map, hlen, zipD_len, ← q.1, Nat.min_self, rxs.length]
    · rw [List.getElem?_map] at g1
      cases ht : ts[i]? with
      | none => rw [ht] at g1; cases g1
      | some t =>
        rw [ht] at g1; cases g1
        obtain ⟨x, y, hx, hy, hT⟩ := hp i t ht
        obtain ⟨dx, e1, r1⟩ := rxs.get' hx
        obtain ⟨dy, e2, r2⟩ := rys.get' hy
        rw [zipD_get _ _ i dx dy e1 e2] at g2
        cases g2
        exact .ob (st1.notS (hts t (List.mem_of_getElem? ht))) hT (.tup (.cons (r1.mono mn) (.cons (r2.mono mn) .nil)))
  · exact q.elim⟩
end
/-! ### the size of a tree; what _law_same answers -/
theorem rngD_len (lo : Int) (n : Nat) : (rngD lo n).length = n := by unfold rngD; rw [List.length_map, List.length_range]
mutual
def szD : D → Nat
  | .lst ds => szL ds + 1
  | .tup ds => szL ds + 1
  | _ => 1
def szL : List D → Nat
  | [] => 0
  | d :: ds => szD d + szL ds
end
mutual
/-- none, bools, ints, texts, lists, tuples -/
def plainD : D → Bool
  | .non => true
  | .bl _ => true
  | .int _ => true
  | .str _ => true
  | .lst ds => plainL ds
  | .tup ds => plainL ds
  | _ => false
def plainL : List D → Bool
  | [] => true
  | d :: ds => plainD d && plainL ds
end
def gSame : Gd := fun ds Q => ∃ d, ds = [d, d] ∧ plainD d = true ∧ szD d < 400000 ∧ Q (.bl true)
theorem szD_pos (d : D) : 1 ≤ szD d := by cases d <;> simp [szD]
/-- the pairs that wait -/
def wP (ds : List D) : List D := ds.map fun d => .tup [d, d]
theorem wP_app (a b : List D) : wP (a ++ b) = wP a ++ wP b := by simp [wP]
theorem zipD_self : ∀ ds : List D, zipD ds ds = wP ds
  | [] => rfl
  | d :: ds => by simp [zipD, wP, zipD_self ds]
theorem szL_app : ∀ (a b : List D), szL (a ++ b) = szL a + szL b
  | [], b => by simp [szL]
  | d :: a, b => by simp [szL, szL_app a b]; omega
theorem plainL_app : ∀ (a b : List D), plainL (a ++ b) = (plainL a && plainL b)
  | [], b => by simp [plainL]
  | d :: a, b => by simp [plainL, plainL_app a b, Bool.and_assoc]
theorem szL_len : ∀ ds : List D, ds.length ≤ szL ds
  | [] => by simp [szL]
  | d :: ds => by
    have := szD_pos d
    have := szL_len ds
    simp only [List.length_cons, szL]
    omega
end Bs
namespace K0
open PySem PySem.Spec PyProof.Rows L2 Bs
abbrev s_same : Stmt := top 54
theorem sc_same : FnScope ["told", "due", "pairs", "k", "one", "two"] ["told", "due"] (defScope s_same) := ⟨rfl, rfl, rfl, by decide +kernel, rfl, by decide +kernel, by decide +kernel⟩
section
variable {P : Program} {w : World} {K : PySem.W.Frag} {mg : Str → Option Value} {base : Heap} {W : Wd}
theorem v_same {f : Addr} {fd : FuncData} (F : Fun K "_law_same" "_law_same" s_same f fd) (T : Txt K mg) (hW : W.K = K) : FnOk P w K mg base CX0 1 f fd ["told", "due"] (spV W 2 fun ds Q _ => gSame ds Q) := by
  have sc := sc_same
  let st := s_same
  let N : List Str := ["told", "due", "pairs", "k", "one", "two"]
  refine Fun.okN F sc (by decide) fun cdv Ar outer s H E A hA hr => ?_
  have hK : A.W.K = K := by rw [hA]; exact hW
  refine ⟨_, (vss_cons (vs_own (i := 2) sc.nd rfl (Or.inl rfl) (vf_lst (va_cons (v_tup (va_cons (v_nm 0) (va_cons (v_nm 1) va_nil))) va_nil)))
      (vss_cons (vs_for PassesOwn.never rfl (vi_rng1 (by rfl) T.range v_int.vr) (vg_name (i := 3) sc.nd rfl (Or.inl rfl)) (vss_cons (vs_if (vt_cmp (w_eq hK hr) (v_callB (w_len hK) (by rfl) T.len boot_len (vb_cons (v_nr 2) vb_nil)).vr v_int.vr (nomark _)) (vss_one (vs_ret v_bl)) vss_nil)
      (vss_cons (vs_pop (i := 2) rfl (Or.inl rfl) (vg_tup hK (n := 2) rfl (vgs_cons (vg_name (i := 4) sc.nd rfl (Or.inl rfl)) (vgs_cons (vg_name (i := 5) sc.nd rfl (Or.inl rfl)) vgs_nil))))
      (vss_one (vs_if (vt_cmp w_is (v_nr 5) v_non.vr (nomark _)) (vss_one (vs_if (vt_cmp w_isNot (v_nr 4) v_non.vr (nomark _)) (vss_one (vs_ret v_bl)) vss_nil)) (vss_one (vs_if (vt hK (v_callB (w_isi hK) (by rfl) T.isinstance boot_isinstance (vb_cons (v_nr 5) (vb_cons (v_tyn (n_bool (by rfl) T.bool)).vr vb_nil))).vr) (vss_one (vs_if (VW.vt (vw_or (vt_not (vt hK (v_callB (w_isi hK) (by rfl) T.isinstance boot_isinstance (vb_cons (v_nr 4) (vb_cons (v_tyn (n_bool (by rfl) T.bool)).vr vb_nil))).vr)) (vw_or1 (vt_cmp (w_ne hK hr) (v_nr 4) (v_nr 5) (nomark _))))) (vss_one (vs_ret v_bl)) vss_nil)) (vss_one (vs_if (vt hK (v_callB (w_isi hK) (by rfl) T.isinstance boot_isinstance (vb_cons (v_nr 5) (vb_cons (v_tyn (n_int (by rfl) T.int)).vr vb_nil))).vr) (vss_one (vs_if (VW.vt (vw_or (vt_not (vt hK (v_callB (w_isi hK) (by rfl) T.isinstance boot_isinstance (vb_cons (v_nr 4) (vb_cons (v_tyn (n_int (by rfl) T.int)).vr vb_nil))).vr)) (vw_or (vt hK (v_callB (w_isi hK) (by rfl) T.isinstance boot_isinstance (vb_cons (v_nr 4) (vb_cons (v_tyn (n_bool (by rfl) T.bool)).vr vb_nil))).vr) (vw_or1 (vt_cmp (w_ne hK hr) (v_nr 4) (v_nr 5) (nomark _)))))) (vss_one (vs_ret v_bl)) vss_nil)) (vss_one (vs_if (vt hK (v_callB (w_isi hK) (by rfl) T.isinstance boot_isinstance (vb_cons (v_nr 5) (vb_cons (v_tyn (n_str (by rfl) T.str)).vr vb_nil))).vr) (vss_one (vs_if (VW.vt (vw_or (vt_not (vt hK (v_callB (w_isi hK) (by rfl) T.isinstance boot_isinstance (vb_cons (v_nr 4) (vb_cons (v_tyn (n_str (by rfl) T.str)).vr vb_nil))).vr)) (vw_or1 (vt_cmp (w_ne hK hr) (v_nr 4) (v_nr 5) (nomark _))))) (vss_one (vs_ret v_bl)) vss_nil)) (vss_one (vs_if (vt hK (v_callB (w_isi hK) (by rfl) T.isinstance boot_isinstance (vb_cons (v_nr 5) (vb_cons (v_tyn (n_dict (by rfl) T.dict)).vr vb_nil))).vr) (vss_cons (vs_if (VW.vt (vw_or (vt_not (vt hK (v_callB (w_isi hK) (by rfl) T.isinstance boot_isinstance (vb_cons (v_nr 4) (vb_cons (v_tyn (n_dict (by rfl) T.dict)).vr vb_nil))).vr)) (vw_or1 (vt_cmp (w_ne hK hr) (v_callB (w_len hK) (by rfl) T.len boot_len (vb_cons (v_nr 4) vb_nil)).vr (v_callB (w_len hK) (by rfl) T.len boot_len (vb_cons (v_nr 5) vb_nil)).vr (nomark _))))) (vss_one (vs_ret v_bl)) vss_nil)
      (vss_one (vs_app (i := 2) rfl (Or.inl rfl) (v_tup (va_cons v_no (va_cons v_no va_nil)))))) (vss_cons (vs_if (VW.vt (vw_or (vt_cmp (w_ne hK hr) (v_callB (w_isi hK) (by rfl) T.isinstance boot_isinstance (vb_cons (v_nr 5) (vb_cons (v_tyn (n_list (by rfl) T.list)).vr vb_nil))).vr (v_callB (w_isi hK) (by rfl) T.isinstance boot_isinstance (vb_cons (v_nr 4) (vb_cons (v_tyn (n_list (by rfl) T.list)).vr vb_nil))).vr (nomark _)) (vw_or1 (vt_cmp (w_ne hK hr) (v_callB (w_isi hK) (by rfl) T.isinstance boot_isinstance (vb_cons (v_nr 5) (vb_cons (v_tyn (n_tuple (by rfl) T.tuple)).vr vb_nil))).vr (v_callB (w_isi hK) (by rfl) T.isinstance boot_isinstance (vb_cons (v_nr 4) (vb_cons (v_tyn (n_tuple (by rfl) T.tuple)).vr vb_nil))).vr (nomark _))))) (vss_one (vs_ret v_bl)) vss_nil)
      (vss_cons (vs_if (VW.vt (vw_or (VW.vt (vw_and (vt_not (vt hK (v_callB (w_isi hK) (by rfl) T.isinstance boot_isinstance (vb_cons (v_nr 5) (vb_cons (v_tyn (n_list (by rfl) T.list)).vr vb_nil))).vr)) (vw_and1 (vt_not (vt hK (v_callB (w_isi hK) (by rfl) T.isinstance boot_isinstance (vb_cons (v_nr 5) (vb_cons (v_tyn (n_tuple (by rfl) T.tuple)).vr vb_nil))).vr))))) (vw_or1 (vt_cmp (w_ne hK hr) (v_callB (w_len hK) (by rfl) T.len boot_len (vb_cons (v_nr 4) vb_nil)).vr (v_callB (w_len hK) (by rfl) T.len boot_len (vb_cons (v_nr 5) vb_nil)).vr (nomark _))))) (vss_one (vs_ret v_bl)) vss_nil)
      (vss_one (vs_ext (i := 2) rfl (Or.inl rfl) (v_listzip (by rfl) T.list (by rfl) T.zip (v_callTy (w_list hK) (by rfl) T.list (by decide +kernel) (vb_cons (v_nr 4) vb_nil)) (v_callTy (w_list hK) (by rfl) T.list (by decide +kernel) (vb_cons (v_nr 5) vb_nil))))))))))))))))))))
      (vss_one (vs_ret v_bl)))), fun ds Q hl h => ?_⟩
  obtain ⟨d0, rfl, hp, hs, hq⟩ := h
  have zl : sizeLine = 16777216 := rfl
  show (_ : VTS) _ [.sh d0, .sh d0, .no, .no, .no, .no]
  simp
  have hlen := rngD_len 0 400000
  generalize rngD 0 400000 = L at *
  refine ⟨by omega, by omega, forV_ind (fun rest env => ∃ ds a b c, env = [.sh d0, .sh d0, .ow (.lst (wP ds)), a, b, c] ∧ plainL ds = true ∧ szL ds < rest.length ∧ rest.length ≤ 400000) ?_ ?_ _ _ ⟨[d0], .no, .no, .no, rfl, by simp [plainL, hp], by simp [szL]; omega, by omega⟩⟩
  · rintro k rest env N ⟨ds, a, b, c, rfl, h1, h2, h3⟩ hN
    rw [List.length_cons] at h3
    simp
    rcases List.eq_nil_or_concat ds with rfl | ⟨ini, d, rfl⟩
    · simp [wP]
      exact hq
    · have he : (wP (ini ++ [d])) = wP ini ++ [.tup [d, d]] := by simp [wP]
      have hl : (wP ini).length = ini.length := by simp [wP]
      rw [List.concat_eq_append] at h1 h2
      rw [plainL_app] at h1
      rw [szL_app] at h2
      simp [plainL, szL] at h1 h2
      have hd : plainD d = true := h1.2
      have hsz := szL_len ini
      have hp2 := szD_pos d
      simp [he]
      have fin : ∀ x, N [.sh d0, .sh d0, .ow (.lst (wP ini)), .sh x, .sh d, .sh d] := fun x => hN _ ⟨ini, _, _, _, rfl, h1.1, by omega, by omega⟩
      cases d with
      | non => simpa using fin k
      | bl b => simpa [isSub] using fin k
      | int b => simpa [isSub] using fin k
      | str b => simpa [isSub] using fin k
      | lst xs =>
        simp [isSub, zipD_self]
        simp [szD] at h2
        have hx : (wP xs).length = xs.length := by simp [wP]
        have hxs := szL_len xs
        refine ⟨by omega, ?_⟩
        rw [← wP_app]
        refine hN _ ⟨ini ++ xs, _, _, _, rfl, ?_, by rw [szL_app]; omega, by omega⟩
        rw [plainL_app, h1.1]
        simpa [plainD] using hd
      | tup xs =>
        simp [isSub, zipD_self]
        simp [szD] at h2
        have hx : (wP xs).length = xs.length := by simp [wP]
        have hxs := szL_len xs
        refine ⟨by omega, ?_⟩
        rw [← wP_app]
        refine hN _ ⟨ini ++ xs, _, _, _, rfl, ?_, by rw [szL_app]; omega, by omega⟩
        rw [plainL_app, h1.1]
        simpa [plainD] using hd
      | _ => simp [plainD] at hd
  · rintro env ⟨ds, a, b, c, rfl, h1, h2, h3⟩
    simp at h2
end
end K0
namespace K0
open PySem PySem.Spec PyProof.Rows L2 Bs LamX

theorem grow2 {n : Nat} {zs : List V} {b b' : Bool} {s s' : Str} (h : zs.length ≤ n) : (zs ++ ((if b then [V.str s] else []) ++ (if b' then [V.str s'] else []))).length ≤ n + 2 := by
  rw [List.length_append, List.length_append]
  cases b <;> cases b' <;> simp <;> omega
/-- where the classes of errors stand -/
structure ErrA where
  Refused : Addr
  BadWord : Addr
  BadLot : Addr
  BadTerm : Addr
  BadStep : Addr
  BadShape : Addr
  BadPlace : Addr
  BadNumber : Addr
  BadFilling : Addr
  BadPlan : Addr
  BadTarget : Addr
  BadPaper : Addr
  BadCall : Addr
  NotAllowed : Addr
  BadText : Addr
  BadStack : Addr
  TooMany : Addr
structure ErrG (mg : Str → Option Value) (e : ErrA) : Prop where
  Refused : mg "Refused" = some (.ref e.Refused)
  BadWord : mg "BadWord" = some (.ref e.BadWord)
  BadLot : mg "BadLot" = some (.ref e.BadLot)
  BadTerm : mg "BadTerm" = some (.ref e.BadTerm)
  BadStep : mg "BadStep" = some (.ref e.BadStep)
  BadShape : mg "BadShape" = some (.ref e.BadShape)
  BadPlace : mg "BadPlace" = some (.ref e.BadPlace)
  BadNumber : mg "BadNumber" = some (.ref e.BadNumber)
  BadFilling : mg "BadFilling" = some (.ref e.BadFilling)
  BadPlan : mg "BadPlan" = some (.ref e.BadPlan)
  BadTarget : mg "BadTarget" = some (.ref e.BadTarget)
  BadPaper : mg "BadPaper" = some (.ref e.BadPaper)
  BadCall : mg "BadCall" = some (.ref e.BadCall)
  NotAllowed : mg "NotAllowed" = some (.ref e.NotAllowed)
  BadText : mg "BadText" = some (.ref e.BadText)
  BadStack : mg "BadStack" = some (.ref e.BadStack)
  TooMany : mg "TooMany" = some (.ref e.TooMany)
  VE : mg "ValueError" = none
/-- D is the class of refusals of the name nam -/
structure ErrK (K : PySem.W.Frag) (e : ErrA) (D : Addr) (nam : Str) : Prop where
  c : ExcC K D
  r : PySem.W.exmOne K (.ref D) (.ref e.Refused) = some true
  BadWord : PySem.W.kitOne K (.ref D) (.ref e.BadWord) = some (decide (nam = "BadWord"))
  BadLot : PySem.W.kitOne K (.ref D) (.ref e.BadLot) = some (decide (nam = "BadLot"))
  BadTerm : PySem.W.kitOne K (.ref D) (.ref e.BadTerm) = some (decide (nam = "BadTerm"))
  BadStep : PySem.W.kitOne K (.ref D) (.ref e.BadStep) = some (decide (nam = "BadStep"))
  BadShape : PySem.W.kitOne K (.ref D) (.ref e.BadShape) = some (decide (nam = "BadShape"))
  BadPlace : PySem.W.kitOne K (.ref D) (.ref e.BadPlace) = some (decide (nam = "BadPlace"))
  BadNumber : PySem.W.kitOne K (.ref D) (.ref e.BadNumber) = some (decide (nam = "BadNumber"))
  BadFilling : PySem.W.kitOne K (.ref D) (.ref e.BadFilling) = some (decide (nam = "BadFilling"))
  BadPlan : PySem.W.kitOne K (.ref D) (.ref e.BadPlan) = some (decide (nam = "BadPlan"))
  BadTarget : PySem.W.kitOne K (.ref D) (.ref e.BadTarget) = some (decide (nam = "BadTarget"))
  BadPaper : PySem.W.kitOne K (.ref D) (.ref e.BadPaper) = some (decide (nam = "BadPaper"))
  BadCall : PySem.W.kitOne K (.ref D) (.ref e.BadCall) = some (decide (nam = "BadCall"))
  NotAllowed : PySem.W.kitOne K (.ref D) (.ref e.NotAllowed) = some (decide (nam = "NotAllowed"))
  BadText : PySem.W.kitOne K (.ref D) (.ref e.BadText) = some (decide (nam = "BadText"))
  BadStack : PySem.W.kitOne K (.ref D) (.ref e.BadStack) = some (decide (nam = "BadStack"))
  TooMany : PySem.W.kitOne K (.ref D) (.ref e.TooMany) = some (decide (nam = "TooMany"))
  VE : PySem.W.kitOne K (.ref D) (.type "ValueError") = some true
  plain : nam ∈ (["BadWord", "BadLot", "BadTerm", "BadStep", "BadShape", "BadPlace", "BadNumber", "BadFilling", "BadPlan", "BadTarget", "BadPaper", "BadCall", "NotAllowed"] : List Str)
theorem boot_VE : bootBuiltins "ValueError" = some (.type "ValueError") := by decide +kernel
/-- a refusal, told at new places -/
def NoAt (H H' : Hp) (nam : Str) (p : Addr) : Prop := ∃ q r, H' p = some (.tup [.str "refused", .ref q, .ref r]) ∧ H' q = some (.lst [.str nam]) ∧ H' r = some (.tup []) ∧ H p = none ∧ H q = none ∧ H r = none
def tNew (P : L2.St → Prop) (xs : List V) : TE := fun σ H Q => P σ ∧ ∀ H' l, Same H H' → H l = none → H' l = some (.lst xs) → Q (.ref l) H'
def opt (b : Bool) (s : Str) : List V := if b then [.str s] else []
theorem opt_len (b : Bool) (s : Str) : (opt b s).length ≤ 1 := by cases b <;> simp [opt]
section
variable {X : Cx} {e : Expr} {P P' : L2.St → Prop}
theorem nw_of {s : Str} {b : Bool} {tb : TE} (h : PE X e (tOp uMul (tLst (tCons (tC (.str s)) tNil)) tb)) (hb : ∀ (σ : L2.St) (H : Hp) (Q : VK), P σ → Q (.int (if b then 1 else 0)) H → tb σ H Q) : PE X e (tNew P (opt b s)) := by
  refine PE.imp h fun σ H Q ⟨hp, k⟩ => ?_
  refine ⟨by show 1 ≤ sizeLine; decide, fun l hl => hb σ _ _ hp ?_⟩
  cases b with
  | true => exact ⟨_, upd_same, by decide, by decide, by show 1 * 1 ≤ sizeLine; decide, fun l2 h2 => k _ l2 (Same.tr (Same.up hl) (Same.up h2)) ((Same.up hl).free h2) upd_same⟩
  | false => exact ⟨_, upd_same, by decide, by decide, by show 1 * 0 ≤ sizeLine; decide, fun l2 h2 => k _ l2 (Same.tr (Same.up hl) (Same.up h2)) ((Same.up hl).free h2) upd_same⟩
theorem nw_two {e2 : Expr} {xs ys : List V} {pos : Pos} (h : PE X e (tNew P xs)) (h2 : PE X e2 (tNew P' ys)) (hx : xs.length ≤ 1 := by first | exact opt_len _ _ | decide) (hy : ys.length ≤ 1 := by first | exact opt_len _ _ | decide) : PE X (.BinOp e .Add e2 pos) (tNew (fun σ => P σ ∧ P' σ) (xs ++ ys)) := by
  refine PE.imp (pe_op o_add h h2) fun σ H Q ⟨⟨hp, hp'⟩, k⟩ => ?_
  refine ⟨hp, fun H1 l1 s1 _ e1 => ⟨hp', fun H2 l2 s2 _ e2 => ⟨xs, ys, s2 _ _ e1, e2, ?_, fun l3 h3 => k _ l3 (Same.tr s1 (Same.tr s2 (Same.up h3))) ((Same.tr s1 s2).free h3) upd_same⟩⟩⟩
  have : sizeLine = 16777216 := rfl
  omega
def tLine (P : L2.St → Prop) (xs : List V) : TE := fun σ H Q => ∃ l zs, σ[2]? = some (some (.ref l)) ∧ H l = some (.lst zs) ∧ zs.length ≤ 40 ∧ P σ ∧ ∀ H' l', Same H H' → H l' = none → H' l' = some (.lst (zs ++ xs)) → Q (.ref l') H'
theorem nw_line {xs ys : List V} (h : PE X e (tOp uAdd (tOp uAdd (vr 2) (tNew P xs)) (tNew P' ys))) (hx : xs.length ≤ 1 := by first | exact opt_len _ _ | decide) (hy : ys.length ≤ 1 := by first | exact opt_len _ _ | decide) : PE X e (tLine (fun σ => P σ ∧ P' σ) (xs ++ ys)) := by
  refine PE.imp h fun σ H Q ⟨l, zs, hl, hz, hn, ⟨hp, hp'⟩, k⟩ => ?_
  have zl : sizeLine = 16777216 := rfl
  show (match σ[2]? with | some (some v) => _ | _ => False)
  rw [hl]
  refine ⟨hp, fun H1 l1 s1 _ e1 => ⟨zs, xs, s1 _ _ hz, e1, by omega, fun l2 h2 => ⟨hp', fun H3 l3 s3 _ e3 => ⟨zs ++ xs, ys, s3 _ _ upd_same, e3, by rw [List.length_append]; omega, fun l4 h4 => k _ l4 (Same.tr s1 (Same.tr (Same.up h2) (Same.tr s3 (Same.up h4)))) ((Same.tr s1 (Same.tr (Same.up h2) s3)).free h4) (by rw [upd_same, List.append_assoc])⟩⟩⟩⟩
theorem nw_last {xs : List V} (h : PE X e (tOp uAdd (vr 2) (tNew P xs))) (hx : xs.length ≤ 1 := by first | exact opt_len _ _ | decide) : PE X e (tLine P xs) := by
  refine PE.imp h fun σ H Q ⟨l, zs, hl, hz, hn, hp, k⟩ => ?_
  have zl : sizeLine = 16777216 := rfl
  show (match σ[2]? with | some (some v) => _ | _ => False)
  rw [hl]
  exact ⟨hp, fun H1 l1 s1 _ e1 => ⟨zs, xs, s1 _ _ hz, e1, by omega, fun l2 h2 => k _ l2 (Same.tr s1 (Same.up h2)) (s1.free h2) upd_same⟩⟩
end
abbrev s_told : Stmt := top 55
theorem sc_told : FnScope ["call", "e", "names", "tells"] ["call"] (defScope s_told) := ⟨rfl, rfl, rfl, by decide +kernel, rfl, by decide +kernel, by decide +kernel⟩
/-- the suite, when e is caught -/
def tSuite (K : PySem.W.Frag) (ea : ErrA) (a : Addr) (cls : Value) (d : Option Addr) : TS := fun Dn σ H => ∃ (D : Addr) (nam : Str) (σ0 : L2.St), cls = .ref D ∧ d = none ∧ ErrK K ea D nam ∧ σ = σ0.set 1 (some (.ref a)) ∧ ∀ H' p, Same H H' → NoAt H H' nam p → Dn.rt (.ref p) H'
theorem opts : ∀ nam ∈ (["BadWord", "BadLot", "BadTerm", "BadStep", "BadShape", "BadPlace", "BadNumber", "BadFilling", "BadPlan", "BadTarget", "BadPaper", "BadCall", "NotAllowed"] : List Str), (((((((((opt (decide (nam = "BadWord")) "BadWord" ++ opt (decide (nam = "BadLot")) "BadLot") ++ (opt (decide (nam = "BadTerm")) "BadTerm" ++ opt (decide (nam = "BadStep")) "BadStep")) ++ (opt (decide (nam = "BadShape")) "BadShape" ++ opt (decide (nam = "BadPlace")) "BadPlace")) ++ (opt (decide (nam = "BadNumber")) "BadNumber" ++ opt (decide (nam = "BadFilling")) "BadFilling")) ++ (opt (decide (nam = "BadPlan")) "BadPlan" ++ opt (decide (nam = "BadTarget")) "BadTarget")) ++ (opt (decide (nam = "BadPaper")) "BadPaper" ++ opt (decide (nam = "BadCall")) "BadCall")) ++ (opt (decide (nam = "NotAllowed")) "NotAllowed" ++ opt (decide (nam = "BadText")) "BadText")) ++ (opt (decide (nam = "BadStack")) "BadStack" ++ opt (decide (nam = "TooMany")) "TooMany")) ++ opt false "no ValueError") = [V.str nam] ∧ decide (nam = "TooMany") = false ∧ decide (nam = "BadText") = false ∧ decide (nam = "BadStack") = false := by decide +kernel
section
variable {P : Program} {w : World} {K : PySem.W.Frag} {mg : Str → Option Value} {base : Heap}
theorem told_suite {ea : ErrA} (T : Txt K mg) (GE : ErrG mg ea) {f : Addr} {cdv : Value} {A : Around} {outer : List Env} {s : Shared} {H : Hp} {E : XK} {a : Addr} {oe : Obj} {cls : Value} {d : Option Addr} {pn : List (Addr × Obj)} {t : TS}
    (hz : Zc cls d oe) (hf : ∃ vs, oe.data = .fields vs) : PSs ((cxOf CX0 P w K mg base ["call", "e", "names", "tells"] "_law_told" (defScope s_told) f cdv A outer s H E).nox.suite a ((a, oe) :: pn))
      (match (defBody s_told) with | [.Try _ [.ExceptHandler _ _ su _] _ _ _] => su | _ => []) (tSuite K ea a cls d) := by
  have sc := sc_told
  refine ⟨fun pins s0 σ H0 Dn I hh => ?_⟩
  obtain ⟨D, nam, σ0, rfl, rfl, EK, eσ, k⟩ := hh
  obtain ⟨c, u2, u3, rfl⟩ : ∃ c u2 u3, σ = [c, some (V.ref a), u2, u3] := by
    have hl : σ.length = 4 := I.len
    rw [eσ, List.length_set] at hl
    match σ0, hl with
    | [x0, x1, x2, x3], _ => exact ⟨x0, x2, x3, eσ⟩
  have key : ∃ t, PSs ((cxOf CX0 P w K mg base ["call", "e", "names", "tells"] "_law_told" (defScope s_told) f cdv A outer s H E).nox.suite a ((a, oe) :: pn)) (match (defBody s_told) with | [.Try _ [.ExceptHandler _ _ su _] _ _ _] => su | _ => []) t ∧ t Dn [c, some (.ref a), u2, u3] H0 := by
    refine ⟨_, (pss_cons (ps_set (i := 2) sc.nd rfl (Or.inl rfl) (nw_two (nw_of (b := decide (nam = "BadWord")) (P := fun σ => σ[1]? = some (some (.ref a))) (pe_op o_mul (pe_lst (pa_cons pe_str pa_nil)) (pe_callTy b_int (by rfl) T.int (by decide +kernel) (pa_cons (pe_callB (call_isE EK.c hz hf) (by rfl) T.isinstance boot_isinstance (pa_cons (nm 1) (pa_cons (pe_gR rfl GE.BadWord) pa_nil))) pa_nil))) (fun σ H Q hσ q => by show (match σ[1]? with | some (some v) => _ | _ => False); rw [hσ]; exact ⟨_, _, _, rfl, fun u r => r, EK.BadWord, q⟩)) (nw_of (b := decide (nam = "BadLot")) (P := fun σ => σ[1]? = some (some (.ref a))) (pe_op o_mul (pe_lst (pa_cons pe_str pa_nil)) (pe_callTy b_int (by rfl) T.int (by decide +kernel) (pa_cons (pe_callB (call_isE EK.c hz hf) (by rfl) T.isinstance boot_isinstance (pa_cons (nm 1) (pa_cons (pe_gR rfl GE.BadLot) pa_nil))) pa_nil))) (fun σ H Q hσ q => by show (match σ[1]? with | some (some v) => _ | _ => False); rw [hσ]; exact ⟨_, _, _, rfl, fun u r => r, EK.BadLot, q⟩))))
        (pss_cons (ps_set (i := 2) sc.nd rfl (Or.inl rfl) (nw_line (pe_op o_add (pe_op o_add (nm 2) (nw_of (b := decide (nam = "BadTerm")) (P := fun σ => σ[1]? = some (some (.ref a))) (pe_op o_mul (pe_lst (pa_cons pe_str pa_nil)) (pe_callTy b_int (by rfl) T.int (by decide +kernel) (pa_cons (pe_callB (call_isE EK.c hz hf) (by rfl) T.isinstance boot_isinstance (pa_cons (nm 1) (pa_cons (pe_gR rfl GE.BadTerm) pa_nil))) pa_nil))) (fun σ H Q hσ q => by show (match σ[1]? with | some (some v) => _ | _ => False); rw [hσ]; exact ⟨_, _, _, rfl, fun u r => r, EK.BadTerm, q⟩))) (nw_of (b := decide (nam = "BadStep")) (P := fun σ => σ[1]? = some (some (.ref a))) (pe_op o_mul (pe_lst (pa_cons pe_str pa_nil)) (pe_callTy b_int (by rfl) T.int (by decide +kernel) (pa_cons (pe_callB (call_isE EK.c hz hf) (by rfl) T.isinstance boot_isinstance (pa_cons (nm 1) (pa_cons (pe_gR rfl GE.BadStep) pa_nil))) pa_nil))) (fun σ H Q hσ q => by show (match σ[1]? with | some (some v) => _ | _ => False); rw [hσ]; exact ⟨_, _, _, rfl, fun u r => r, EK.BadStep, q⟩)))))
        (pss_cons (ps_set (i := 2) sc.nd rfl (Or.inl rfl) (nw_line (pe_op o_add (pe_op o_add (nm 2) (nw_of (b := decide (nam = "BadShape")) (P := fun σ => σ[1]? = some (some (.ref a))) (pe_op o_mul (pe_lst (pa_cons pe_str pa_nil)) (pe_callTy b_int (by rfl) T.int (by decide +kernel) (pa_cons (pe_callB (call_isE EK.c hz hf) (by rfl) T.isinstance boot_isinstance (pa_cons (nm 1) (pa_cons (pe_gR rfl GE.BadShape) pa_nil))) pa_nil))) (fun σ H Q hσ q => by show (match σ[1]? with | some (some v) => _ | _ => False); rw [hσ]; exact ⟨_, _, _, rfl, fun u r => r, EK.BadShape, q⟩))) (nw_of (b := decide (nam = "BadPlace")) (P := fun σ => σ[1]? = some (some (.ref a))) (pe_op o_mul (pe_lst (pa_cons pe_str pa_nil)) (pe_callTy b_int (by rfl) T.int (by decide +kernel) (pa_cons (pe_callB (call_isE EK.c hz hf) (by rfl) T.isinstance boot_isinstance (pa_cons (nm 1) (pa_cons (pe_gR rfl GE.BadPlace) pa_nil))) pa_nil))) (fun σ H Q hσ q => by show (match σ[1]? with | some (some v) => _ | _ => False); rw [hσ]; exact ⟨_, _, _, rfl, fun u r => r, EK.BadPlace, q⟩)))))
        (pss_cons (ps_set (i := 2) sc.nd rfl (Or.inl rfl) (nw_line (pe_op o_add (pe_op o_add (nm 2) (nw_of (b := decide (nam = "BadNumber")) (P := fun σ => σ[1]? = some (some (.ref a))) (pe_op o_mul (pe_lst (pa_cons pe_str pa_nil)) (pe_callTy b_int (by rfl) T.int (by decide +kernel) (pa_cons (pe_callB (call_isE EK.c hz hf) (by rfl) T.isinstance boot_isinstance (pa_cons (nm 1) (pa_cons (pe_gR rfl GE.BadNumber) pa_nil))) pa_nil))) (fun σ H Q hσ q => by show (match σ[1]? with | some (some v) => _ | _ => False); rw [hσ]; exact ⟨_, _, _, rfl, fun u r => r, EK.BadNumber, q⟩))) (nw_of (b := decide (nam = "BadFilling")) (P := fun σ => σ[1]? = some (some (.ref a))) (pe_op o_mul (pe_lst (pa_cons pe_str pa_nil)) (pe_callTy b_int (by rfl) T.int (by decide +kernel) (pa_cons (pe_callB (call_isE EK.c hz hf) (by rfl) T.isinstance boot_isinstance (pa_cons (nm 1) (pa_cons (pe_gR rfl GE.BadFilling) pa_nil))) pa_nil))) (fun σ H Q hσ q => by show (match σ[1]? with | some (some v) => _ | _ => False); rw [hσ]; exact ⟨_, _, _, rfl, fun u r => r, EK.BadFilling, q⟩)))))
        (pss_cons (ps_set (i := 2) sc.nd rfl (Or.inl rfl) (nw_line (pe_op o_add (pe_op o_add (nm 2) (nw_of (b := decide (nam = "BadPlan")) (P := fun σ => σ[1]? = some (some (.ref a))) (pe_op o_mul (pe_lst (pa_cons pe_str pa_nil)) (pe_callTy b_int (by rfl) T.int (by decide +kernel) (pa_cons (pe_callB (call_isE EK.c hz hf) (by rfl) T.isinstance boot_isinstance (pa_cons (nm 1) (pa_cons (pe_gR rfl GE.BadPlan) pa_nil))) pa_nil))) (fun σ H Q hσ q => by show (match σ[1]? with | some (some v) => _ | _ => False); rw [hσ]; exact ⟨_, _, _, rfl, fun u r => r, EK.BadPlan, q⟩))) (nw_of (b := decide (nam = "BadTarget")) (P := fun σ => σ[1]? = some (some (.ref a))) (pe_op o_mul (pe_lst (pa_cons pe_str pa_nil)) (pe_callTy b_int (by rfl) T.int (by decide +kernel) (pa_cons (pe_callB (call_isE EK.c hz hf) (by rfl) T.isinstance boot_isinstance (pa_cons (nm 1) (pa_cons (pe_gR rfl GE.BadTarget) pa_nil))) pa_nil))) (fun σ H Q hσ q => by show (match σ[1]? with | some (some v) => _ | _ => False); rw [hσ]; exact ⟨_, _, _, rfl, fun u r => r, EK.BadTarget, q⟩)))))
        (pss_cons (ps_set (i := 2) sc.nd rfl (Or.inl rfl) (nw_line (pe_op o_add (pe_op o_add (nm 2) (nw_of (b := decide (nam = "BadPaper")) (P := fun σ => σ[1]? = some (some (.ref a))) (pe_op o_mul (pe_lst (pa_cons pe_str pa_nil)) (pe_callTy b_int (by rfl) T.int (by decide +kernel) (pa_cons (pe_callB (call_isE EK.c hz hf) (by rfl) T.isinstance boot_isinstance (pa_cons (nm 1) (pa_cons (pe_gR rfl GE.BadPaper) pa_nil))) pa_nil))) (fun σ H Q hσ q => by show (match σ[1]? with | some (some v) => _ | _ => False); rw [hσ]; exact ⟨_, _, _, rfl, fun u r => r, EK.BadPaper, q⟩))) (nw_of (b := decide (nam = "BadCall")) (P := fun σ => σ[1]? = some (some (.ref a))) (pe_op o_mul (pe_lst (pa_cons pe_str pa_nil)) (pe_callTy b_int (by rfl) T.int (by decide +kernel) (pa_cons (pe_callB (call_isE EK.c hz hf) (by rfl) T.isinstance boot_isinstance (pa_cons (nm 1) (pa_cons (pe_gR rfl GE.BadCall) pa_nil))) pa_nil))) (fun σ H Q hσ q => by show (match σ[1]? with | some (some v) => _ | _ => False); rw [hσ]; exact ⟨_, _, _, rfl, fun u r => r, EK.BadCall, q⟩)))))
        (pss_cons (ps_set (i := 2) sc.nd rfl (Or.inl rfl) (nw_line (pe_op o_add (pe_op o_add (nm 2) (nw_of (b := decide (nam = "NotAllowed")) (P := fun σ => σ[1]? = some (some (.ref a))) (pe_op o_mul (pe_lst (pa_cons pe_str pa_nil)) (pe_callTy b_int (by rfl) T.int (by decide +kernel) (pa_cons (pe_callB (call_isE EK.c hz hf) (by rfl) T.isinstance boot_isinstance (pa_cons (nm 1) (pa_cons (pe_gR rfl GE.NotAllowed) pa_nil))) pa_nil))) (fun σ H Q hσ q => by show (match σ[1]? with | some (some v) => _ | _ => False); rw [hσ]; exact ⟨_, _, _, rfl, fun u r => r, EK.NotAllowed, q⟩))) (nw_of (b := decide (nam = "BadText")) (P := fun σ => σ[1]? = some (some (.ref a))) (pe_op o_mul (pe_lst (pa_cons pe_str pa_nil)) (pe_callTy b_int (by rfl) T.int (by decide +kernel) (pa_cons (pe_callB (call_isE EK.c hz hf) (by rfl) T.isinstance boot_isinstance (pa_cons (nm 1) (pa_cons (pe_gR rfl GE.BadText) pa_nil))) pa_nil))) (fun σ H Q hσ q => by show (match σ[1]? with | some (some v) => _ | _ => False); rw [hσ]; exact ⟨_, _, _, rfl, fun u r => r, EK.BadText, q⟩)))))
        (pss_cons (ps_set (i := 2) sc.nd rfl (Or.inl rfl) (nw_line (pe_op o_add (pe_op o_add (nm 2) (nw_of (b := decide (nam = "BadStack")) (P := fun σ => σ[1]? = some (some (.ref a))) (pe_op o_mul (pe_lst (pa_cons pe_str pa_nil)) (pe_callTy b_int (by rfl) T.int (by decide +kernel) (pa_cons (pe_callB (call_isE EK.c hz hf) (by rfl) T.isinstance boot_isinstance (pa_cons (nm 1) (pa_cons (pe_gR rfl GE.BadStack) pa_nil))) pa_nil))) (fun σ H Q hσ q => by show (match σ[1]? with | some (some v) => _ | _ => False); rw [hσ]; exact ⟨_, _, _, rfl, fun u r => r, EK.BadStack, q⟩))) (nw_of (b := decide (nam = "TooMany")) (P := fun σ => σ[1]? = some (some (.ref a))) (pe_op o_mul (pe_lst (pa_cons pe_str pa_nil)) (pe_callTy b_int (by rfl) T.int (by decide +kernel) (pa_cons (pe_callB (call_isE EK.c hz hf) (by rfl) T.isinstance boot_isinstance (pa_cons (nm 1) (pa_cons (pe_gR rfl GE.TooMany) pa_nil))) pa_nil))) (fun σ H Q hσ q => by show (match σ[1]? with | some (some v) => _ | _ => False); rw [hσ]; exact ⟨_, _, _, rfl, fun u r => r, EK.TooMany, q⟩)))))
        (pss_cons (ps_set (i := 2) sc.nd rfl (Or.inl rfl) (nw_last (pe_op o_add (nm 2) (nw_of (b := false) (P := fun σ => σ[1]? = some (some (.ref a))) (pe_op o_mul (pe_lst (pa_cons pe_str pa_nil)) (pe_callTy b_int (by rfl) T.int (by decide +kernel) (pa_cons (pe_not (pe_callB (call_isE EK.c hz hf) (by rfl) T.isinstance boot_isinstance (pa_cons (nm 1) (pa_cons (pe_bltn (by rfl) GE.VE boot_VE (v := .ty "ValueError") rfl) pa_nil)))) pa_nil))) (fun σ H Q hσ q => by show (match σ[1]? with | some (some v) => _ | _ => False); rw [hσ]; exact ⟨_, _, _, rfl, fun u r => r, EK.VE, _, rfl, q⟩)))))
        (pss_cons (ps_set (i := 3) sc.nd rfl (Or.inl rfl) (pe_tup pa_nil))
        (pss_cons (ps_if (tst (pe_callB (call_isE EK.c hz hf) (by rfl) T.isinstance boot_isinstance (pa_cons (nm 1) (pa_cons (pe_gR rfl GE.TooMany) pa_nil)))) (pss_one (ps_set (i := 3) sc.nd rfl (Or.inl rfl) (pe_tup (pa_cons pe_no (pa_cons pe_no pa_nil))))) (pss_one (ps_if (tst (pe_callB (call_isE EK.c hz hf) (by rfl) T.isinstance boot_isinstance (pa_cons (nm 1) (pa_cons (pe_gR rfl GE.BadText) pa_nil)))) (pss_one (ps_set (i := 3) sc.nd rfl (Or.inl rfl) (pe_tup (pa_cons pe_no pa_nil)))) (pss_one (ps_if (tst (pe_callB (call_isE EK.c hz hf) (by rfl) T.isinstance boot_isinstance (pa_cons (nm 1) (pa_cons (pe_gR rfl GE.BadStack) pa_nil)))) (pss_one (ps_set (i := 3) sc.nd rfl (Or.inl rfl) (pe_tup (pa_cons pe_no (pa_cons pe_no pa_nil))))) pss_nil)))))
        (pss_one (ps_ret (pe_tup (pa_cons pe_str (pa_cons (nm 2) (pa_cons (nm 3) pa_nil))))))))))))))))), ?_⟩
    refine ⟨⟨rfl, rfl⟩, fun H1 l1 s1 n1 e1 => ?_⟩
    have b1 := grow2 (n := 0) (zs := []) (b := decide (nam = "BadWord")) (b' := decide (nam = "BadLot")) (s := "BadWord") (s' := "BadLot") (Nat.le_refl 0)
    refine ⟨l1, _, rfl, e1, Nat.le_trans b1 (by decide), ⟨rfl, rfl⟩, fun H2 l2 s2 n2 e2 => ?_⟩
    have b2 := grow2 (b := decide (nam = "BadTerm")) (b' := decide (nam = "BadStep")) (s := "BadTerm") (s' := "BadStep") b1
    refine ⟨l2, _, rfl, e2, Nat.le_trans b2 (by decide), ⟨rfl, rfl⟩, fun H3 l3 s3 n3 e3 => ?_⟩
    have b3 := grow2 (b := decide (nam = "BadShape")) (b' := decide (nam = "BadPlace")) (s := "BadShape") (s' := "BadPlace") b2
    refine ⟨l3, _, rfl, e3, Nat.le_trans b3 (by decide), ⟨rfl, rfl⟩, fun H4 l4 s4 n4 e4 => ?_⟩
    have b4 := grow2 (b := decide (nam = "BadNumber")) (b' := decide (nam = "BadFilling")) (s := "BadNumber") (s' := "BadFilling") b3
    refine ⟨l4, _, rfl, e4, Nat.le_trans b4 (by decide), ⟨rfl, rfl⟩, fun H5 l5 s5 n5 e5 => ?_⟩
    have b5 := grow2 (b := decide (nam = "BadPlan")) (b' := decide (nam = "BadTarget")) (s := "BadPlan") (s' := "BadTarget") b4
    refine ⟨l5, _, rfl, e5, Nat.le_trans b5 (by decide), ⟨rfl, rfl⟩, fun H6 l6 s6 n6 e6 => ?_⟩
    have b6 := grow2 (b := decide (nam = "BadPaper")) (b' := decide (nam = "BadCall")) (s := "BadPaper") (s' := "BadCall") b5
    refine ⟨l6, _, rfl, e6, Nat.le_trans b6 (by decide), ⟨rfl, rfl⟩, fun H7 l7 s7 n7 e7 => ?_⟩
    have b7 := grow2 (b := decide (nam = "NotAllowed")) (b' := decide (nam = "BadText")) (s := "NotAllowed") (s' := "BadText") b6
    refine ⟨l7, _, rfl, e7, Nat.le_trans b7 (by decide), ⟨rfl, rfl⟩, fun H8 l8 s8 n8 e8 => ?_⟩
    have b8 := grow2 (b := decide (nam = "BadStack")) (b' := decide (nam = "TooMany")) (s := "BadStack") (s' := "TooMany") b7
    refine ⟨l8, _, rfl, e8, Nat.le_trans b8 (by decide), rfl, fun H9 l9 s9 n9 e9 => ?_⟩
    obtain ⟨q1, q2, q3, q4⟩ := opts nam EK.plain
    rw [q1] at e9
    refine ⟨by show 0 ≤ sizeLine; decide, fun p hp => ?_⟩
    refine ⟨_, _, _, rfl, fun u r => r, EK.TooMany, ite2 (fun h => absurd h (by rw [q2]; decide)) (fun _ => ?_)⟩
    refine ⟨_, _, _, rfl, fun u r => r, EK.BadText, ite2 (fun h => absurd h (by rw [q3]; decide)) (fun _ => ?_)⟩
    refine ⟨_, _, _, rfl, fun u r => r, EK.BadStack, ite2 (fun h => absurd h (by rw [q4]; decide)) (fun _ => ?_)⟩
    refine ⟨by show 3 ≤ sizeLine; decide, fun r hr => ?_⟩
    have sx := Same.tr s1 (Same.tr s2 (Same.tr s3 (Same.tr s4 (Same.tr s5 (Same.tr s6 (Same.tr s7 (Same.tr s8 s9)))))))
    have s18 := Same.tr s1 (Same.tr s2 (Same.tr s3 (Same.tr s4 (Same.tr s5 (Same.tr s6 (Same.tr s7 s8))))))
    refine k _ r (Same.tr sx (Same.tr (Same.up hp) (Same.up hr))) ⟨l9, p, upd_same, ?_, Same.up hr _ _ upd_same, sx.free ((Same.up hp).free hr), s18.free n9, sx.free hp⟩
    exact Same.up hr _ _ (Same.up hp _ _ e9)
  obtain ⟨t, ht, hq⟩ := key
  exact ht.run pins s0 _ H0 Dn I hq
end

end K0
namespace K0
open PySem PySem.Spec PyProof.Rows L2 Bs LamX
/-- what _law_told makes of a call's end -/
def toldV (Q : VK) : VK := fun v H => ∀ p, H p = none → Q (.ref p) (upd H p (.tup [.str "told", v]))
def toldE (K : PySem.W.Frag) (ea : ErrA) (Q : VK) : XK := fun cls d H => ∃ (D : Addr) (nam : Str), cls = .ref D ∧ d = none ∧ ErrK K ea D nam ∧ ∀ H' p, Same H H' → NoAt H H' nam p → Q (.ref p) H'
abbrev s_is : Stmt := top 56
theorem sc_is : FnScope ["call", "due"] ["call", "due"] (defScope s_is) := ⟨rfl, rfl, rfl, by decide +kernel, rfl, by decide +kernel, by decide +kernel⟩
section
variable {P : Program} {w : World} {K : PySem.W.Frag} {mg : Str → Option Value} {base : Heap}
theorem told_body {ea : ErrA} (T : Txt K mg) (GE : ErrG mg ea) {g : Addr} {cdv : Value} {A : Around} {outer : List Env} {s : Shared} {H : Hp} {k : Nat} {fs : List Addr} {s0 : Shared} {H0 : Hp} {f : Addr} {sp : XK → Hp → VK → Prop} {Q : VK}
    (Th : ThkOk P w K mg base k fs s0 H0 f sp) (hr : Room k (A.deeper (envOfC "_law_told" (defScope s_told) s.heap.objs.size g cdv))) (hU : ∀ (H2 : Hp) (h : Heap), Un (frs outer) [] H H2 s.heap h → Un fs [] H0 H2 s0.heap h) (hsp : sp (toldE K ea Q) H (toldV Q)) :
    ∃ t, PSs (cxOf CX0 P w K mg base ["call", "e", "names", "tells"] "_law_told" (defScope s_told) g cdv A outer s H E0).nox (defBody s_told) t ∧ t { nx := fun _ H' => Q .non H', rt := Q } (L2.start ["call", "e", "names", "tells"] [.ref f]) H := by
  have sc := sc_told
  refine ⟨_, pss_one (ps_try_as (X := (cxOf CX0 P w K mg base ["call", "e", "names", "tells"] "_law_told" (defScope s_told) g cdv A outer s H E0).nox) (i := 1) (c := .ref ea.Refused) (Wout := fun _ _ _ _ => False)
      (tb := fun W D σ H => ∃ Ech : XK, (∀ cls d σ' H', Ech cls d H' → W cls d σ' H') ∧ σ[0]? = some (some (.ref f)) ∧ sp Ech H fun v H1 => 2 ≤ sizeLine ∧ ∀ p, H1 p = none → D.rt (.ref p) (upd H1 p (.tup [.str "told", v]))) (ts := tSuite K ea)
      rfl rfl sc.nd rfl rfl ⟨rfl, by decide, .inl GE.Refused⟩ L2.takes0 (fun W pn xe tk _ => ?_) (fun a oe cls d pn hz hf => told_suite (t := tSuite K ea a cls d) T GE hz hf)), ?_⟩
  · refine ⟨fun pins s1 σ H1 D I h => ?_⟩
    obtain ⟨Ech, hW, h1, h2⟩ := h
    have hp : ∀ p1 p2, PE ((cxOf CX0 P w K mg base ["call", "e", "names", "tells"] "_law_told" (defScope s_told) g cdv A outer s H E0).nox.tr pn xe) (.Call (.Name "call" p1) [] [] p2) (fun σ H Q => σ[0]? = some (some (.ref f)) ∧ sp Ech H Q) := fun p1 p2 => pe_thk (i := 0) (E := Ech) Th hr hU (passes_call tk hW) rfl (Or.inl rfl)
    exact (pss_one (ps_ret (pe_tup (pa_cons pe_str (pa_cons (hp _ _) pa_nil))))).run pins s1 σ H1 D I ⟨h1, h2⟩
  · refine ⟨toldE K ea Q, fun cls d σ' H' h => ?_, rfl, ?_⟩
    · obtain ⟨D, nam, rfl, rfl, EK, k⟩ := h
      exact ⟨true, EK.r, fun _ a _ => ⟨D, nam, _, rfl, rfl, EK, rfl, k⟩, fun z => by cases z⟩
    · have e2 : (fun (v : V) (H1 : Hp) => 2 ≤ sizeLine ∧ ∀ p, H1 p = none → Q (.ref p) (upd H1 p (.tup [.str "told", v]))) = toldV Q := by
        funext v H1
        exact propext ⟨fun h => h.2, fun h => ⟨by decide, h⟩⟩
      show sp (toldE K ea Q) H (fun v H1 => 2 ≤ sizeLine ∧ ∀ p, H1 p = none → Q (.ref p) (upd H1 p (.tup [.str "told", v])))
      rw [e2]
      exact hsp
/-- _law_told(call), in _law_is -/
theorem told_call {ea : ErrA} {g : Addr} {fd : FuncData} {gi : Addr} {cdi : Value} {A : Around} {outer : List Env} {s : Shared} {H : Hp} {k : Nat} {f : Addr} {sp : XK → Hp → VK → Prop} {p1 p2 p3 : Pos}
    (G : Fun K "_law_told" "_law_told" s_told g fd) (hm : mg "_law_told" = some (.ref g)) (bd : Binds K fd ["call"] []) (T : Txt K mg) (GE : ErrG mg ea) (Th : ThkOk P w K mg base k (frs outer) s H f sp) (hr : Room (k + 1) (A.deeper (envOfC "_law_is" (defScope s_is) s.heap.objs.size gi cdi))) :
    PE (cxOf CX0 P w K mg base ["call", "due"] "_law_is" (defScope s_is) gi cdi A outer s H E0).nox (.Call (.Name "_law_told" p1) [.Name "call" p2] [] p3) (fun σ H1 Q => σ[0]? = some (some (.ref f)) ∧ sp (toldE K ea Q) H1 (toldV Q)) := by
  refine ⟨fun pins s1 σ H1 Q I ⟨hs, h⟩ => ?_⟩
  have kp := G.kp
  obtain ⟨oc, od, kV, doc, pm, an, cdv, ct, osl, rfl, lk, hcd⟩ := G.ex
  refine wpAny_Call_Name_kw (ld_glob I rfl hm ?_ (by decide))
  refine PySem.W.callWith_K (h₀ := base) I.ok.mod.kin kp ?_ (by rfl) (by rfl)
  show wpAny _ _ (spliced ((false, eval (.Name "call" p2) _) :: backTo p3 (starEach [] _))) _ _ s1
  refine Calls.spliced_cons (thn ((pe_var (pos := p2) (i := 0) rfl (Or.inl rfl) (by decide) (by decide)).run pins s1 σ H1 (fun v H2 => v = .ref f ∧ H2 = H1) I ⟨.ref f, hs, rfl, rfl⟩) fun u s2 ⟨v, H2, I2, r2, ev, eH⟩ => ?_)
  subst ev
  subst eH
  obtain rfl : u = Value.ref f := r2
  refine Calls.spliced_nil ⟨I2.kIn, ?_⟩
  have rc := run_ofS (CX := CX0) (N := ["call", "e", "names", "tells"]) (ps := ["call"]) (us := [.ref f]) (vs := [.ref f]) (Q := Q) (E := E0) lk hcd sc_told hr I2.env0 (bd s2 [.ref f] I2.kIn rfl) (.cons rfl .nil) rfl fun hr2 => by
    obtain ⟨t, ht, hq⟩ := told_body (cdv := cdv) (g := g) (outer := envOfC "_law_is" (defScope s_is) s.heap.objs.size gi cdi :: outer) T GE Th hr2 (by intro H3 h3 u; exact un_deep (n := s.heap.objs.size) I2.base u fun o e => Nat.lt_irrefl _ (Heap.lt_size e)) h
    exact ⟨t, ht.nox, hq⟩
  refine wpAny_call (codeAny_mono rc fun r s3 hq => ?_)
  cases r with
  | error e => exact (show False from hq).elim
  | ok fl =>
    cases fl with
    | ret u => exact I2.after hq
    | next => exact False.elim hq
    | brk => exact False.elim hq
    | cont => exact False.elim hq
/-- what _law_is makes of what was told -/
def isQ (W : Wd) (dv : V) (Q : VK) : VK := fun v H => spV W 2 (fun ds Q _ => gSame ds Q) [v, dv] H Q E0
theorem is_body {W : Wd} {ea : ErrA} {g : Addr} {fd : FuncData} {gi : Addr} {cdi : Value} {A : Around} {outer : List Env} {s : Shared} {H : Hp} {k : Nat} {f : Addr} {sp : XK → Hp → VK → Prop} {dv : V} {Q : VK}
    (G : Fun K "_law_told" "_law_told" s_told g fd) (hm : mg "_law_told" = some (.ref g)) (bd : Binds K fd ["call"] []) (T : Txt K mg) (GE : ErrG mg ea) (G_same : FnE P w K mg base CX0 1 "_law_same" ["told", "due"] (spV W 2 fun ds Q _ => gSame ds Q))
    (Th : ThkOk P w K mg base k (frs outer) s H f sp) (hr : Room (k + 1) (A.deeper (envOfC "_law_is" (defScope s_is) s.heap.objs.size gi cdi))) (h : sp (toldE K ea (isQ W dv Q)) H (toldV (isQ W dv Q))) :
    ∃ t, PSs (cxOf CX0 P w K mg base ["call", "due"] "_law_is" (defScope s_is) gi cdi A outer s H E0).nox (defBody s_is) t ∧ t { nx := fun _ H' => Q .non H', rt := Q } (L2.start ["call", "due"] [.ref f, dv]) H := by
  have sc := sc_is
  obtain ⟨_, _, G_same⟩ := G_same
  refine ⟨_, pss_one (ps_ret (fn G_same (hr.mono (by omega)) (by rfl) pass0 (pa_cons (told_call (ea := ea) (p1 := _) (p2 := _) (p3 := _) G hm bd T GE Th hr) (pa_cons (nm 1) pa_nil)))), ?_⟩
  exact ⟨rfl, h⟩
end

/-- the defs that compare answers -/
structure Asks (P : Program) (w : World) (K : PySem.W.Frag) (mg : Str → Option Value) (base : Heap) (W : Wd) (ea : ErrA) (gt gi : Addr) (fdt fdi : FuncData) : Prop where
  T : Txt K mg
  GE : ErrG mg ea
  told : Fun K "_law_told" "_law_told" s_told gt fdt
  told_m : mg "_law_told" = some (.ref gt)
  told_b : Binds K fdt ["call"] []
  is : Fun K "_law_is" "_law_is" s_is gi fdi
  is_m : mg "_law_is" = some (.ref gi)
  is_b : Binds K fdi ["call", "due"] []
  same : FnE P w K mg base CX0 1 "_law_same" ["told", "due"] (spV W 2 fun ds Q _ => gSame ds Q)
/-- _law_is(lambda: .., due) -/
def tIs (K : PySem.W.Frag) (W : Wd) (ea : ErrA) (T : List (Addr × Str)) (t : XK → TE) (t2 : TE) : TE := fun σ H Q => Tabs T H ∧ ∀ H1, ExtN H H1 → Tabs T H1 → t2 σ H1 fun dv H2 => (∀ c q, H1 c = some (CodeO c q) → H2 c = some (CodeO c q)) ∧ t (toldE K ea (isQ W dv Q)) σ H2 (toldV (isQ W dv Q))
section
variable {X : Cx}
theorem pe_islam {Wv : Wd} {ea : ErrA} {gt gi : Addr} {fdt fdi : FuncData} (W : Asks X.prog X.w X.K X.mg X.base Wv ea gt gi fdt fdi) {T : List (Addr × Str)} {c Pt : Addr} {k : Nat} {params : Arguments} {body e2 : Expr} {scope : Scope} {t : XK → TE} {t2 : TE} {p lpos pos : Pos}
    (hg : Gl X "_law_is") (TB : TabB X.base X.mg c Pt) (hcode : X.env.code = .ref c) (hmT : (Pt, X.env.qual ++ "<lambda>") ∈ T) (hu : ∀ p ∈ T, p.1 = Pt → p.2 = X.env.qual ++ "<lambda>") (hr : Room (k + 3) X.A) (L : LamS X.env.scope scope)
    (hbody : ∀ (A : Around) (outer : List Env) (s : Shared) (H : Hp) (E : XK) (f c' : Addr), Room k (A.deeper (lamEnv X scope s.heap.objs.size f c')) → PE (lamCx X A outer s H E scope f c') body (t E)) (h2 : PE X e2 t2)
    (hdef : defaultsOf params X.env = ([], []) := by rfl) (hbind : ∀ (q : Str) (cl : List (Str × Addr)) (pm cv ctv : Value), bindArgs (PySem.W.kla_fn "<lambda>" q params body scope cl pm cv ctv) ⟨[], []⟩ = pure [] := by intros; rfl)
    (hfs : frs X.stack = X.env.locals :: X.fs := by rfl) (hs2 : starEach [e2] X.env = (false, eval e2 X.env) :: starEach [] X.env := by rfl)
    (hs : starEach [.Lambda params body scope lpos, e2] X.env = (false, eval (.Lambda params body scope lpos) X.env) :: starEach [e2] X.env := by rfl) (hpl : (backTo pos (starEach [e2] X.env)).any (·.1) = false := by rfl) :
    PE X (.Call (.Name "_law_is" p) [.Lambda params body scope lpos, e2] [] pos) (tIs X.K Wv ea T t t2) := by
  refine ⟨fun pins s σ H Q I h => ?_⟩
  obtain ⟨hT, h⟩ := h
  have kp := W.is.kp
  obtain ⟨oc, od, kV, doc, pm, an, cdv, ct, osl, efd, lk, hcd⟩ := W.is.ex
  refine wpAny_Call_Name_kw (ld_glob I hg W.is_m ?_ (by decide))
  refine PySem.W.callWith_K (h₀ := X.base) I.ok.mod.kin kp ?_ hs hpl
  rw [hs]
  show wpAny _ _ (spliced ((false, eval (.Lambda params body scope lpos) X.env) :: backTo pos (starEach [e2] X.env))) _ _ s
  refine Calls.spliced_cons (lam_make2 I TB hcode hmT hu hT hdef (L.has I.ok) fun f c' pm' ctv H1 s1 I1 eN T1 hf hfn hfr hco => ?_)
  have nfr : f ≠ X.env.locals ∧ f ∉ X.fs := by
    rw [hfs] at hfr
    exact ⟨fun z => hfr (z ▸ List.mem_cons_self), fun z => hfr (List.mem_cons_of_mem _ z)⟩
  have I1p : Inv X ((f, PySem.W.kla_obj "<lambda>" (X.env.qual ++ "<lambda>") params body scope (cloFrom X.env.cells scope.names []) pm' c' ctv) :: pins) σ H1 s1 := I1.pins_of fun q hq => by
    rcases List.mem_cons.mp hq with rfl | hq
    · exact ⟨hf, hfn, nfr.1, nfr.2, fun v z => by cases z⟩
    · exact I1.pin q (List.mem_append_right _ hq)
  rw [hs2]
  show wpAny _ _ (spliced ((false, eval e2 X.env) :: backTo pos (starEach [] X.env))) _ _ s1
  refine Calls.spliced_cons (thn (h2.run _ s1 σ H1 _ I1p (h H1 eN T1)) fun u s2 ⟨dv, H2, I2p, r2, sm, q⟩ => ?_)
  obtain ⟨hf2, hfn2, _, _, _⟩ := I2p.pin (f, _) (List.mem_append_right _ List.mem_cons_self)
  have I2 : Inv X pins σ H2 s2 := I2p.pins_of fun q hq => I2p.pin q (List.mem_append_right _ (List.mem_cons_of_mem _ hq))
  refine Calls.spliced_nil ⟨I2.kIn, ?_⟩
  have Th := thk_of (k := k) (t := t) I2 L hf2 hfn2 hfr (hbind _ _ _ _ _) (fun A outer s H E hr2 => hbody A outer s H E f c' hr2)
  have bd := W.is_b
  rw [efd] at bd lk
  have rc : codeAny (model X.prog X.w) X.A (.call (.ref gi) ⟨[.ref f, u], []⟩) (CR CX0 X.stack X.prog X.w H2 s2 Q E0) s2 := by
    refine run_ofS (N := ["call", "due"]) (ps := ["call", "due"]) (us := [.ref f, u]) (vs := [.ref f, dv]) lk hcd sc_is hr I2.env0 (bd s2 [.ref f, u] I2.kIn rfl) (.cons rfl (.cons r2 .nil)) rfl fun hr2 => ?_
    obtain ⟨t', ht, hq⟩ := is_body (cdi := cdv) (gi := gi) (dv := dv) (Q := Q) W.told W.told_m W.told_b W.T W.GE W.same Th (hr2.mono (by omega)) ⟨sm _ _ hco, q⟩
    exact ⟨t', ht.nox, hq⟩
  refine wpAny_call (codeAny_mono rc fun r s3 hq => ?_)
  cases r with
  | error e => exact (show False from hq).elim
  | ok fl =>
    cases fl with
    | ret u => exact I2.after hq
    | next => exact False.elim hq
    | brk => exact False.elim hq
    | cont => exact False.elim hq
end

/-- _law_told(lambda: ..) -/
def tTold (K : PySem.W.Frag) (ea : ErrA) (T : List (Addr × Str)) (t : XK → TE) : TE := fun σ H Q => Tabs T H ∧ ∀ H1, ExtN H H1 → Tabs T H1 → t (toldE K ea Q) σ H1 (toldV Q)
section
variable {X : Cx}
theorem pe_toldlam {Wv : Wd} {ea : ErrA} {gt gi : Addr} {fdt fdi : FuncData} (W : Asks X.prog X.w X.K X.mg X.base Wv ea gt gi fdt fdi) {T : List (Addr × Str)} {c Pt : Addr} {k : Nat} {params : Arguments} {body : Expr} {scope : Scope} {t : XK → TE} {p lpos pos : Pos}
    (hg : Gl X "_law_told") (TB : TabB X.base X.mg c Pt) (hcode : X.env.code = .ref c) (hmT : (Pt, X.env.qual ++ "<lambda>") ∈ T) (hu : ∀ p ∈ T, p.1 = Pt → p.2 = X.env.qual ++ "<lambda>") (hr : Room (k + 3) X.A) (L : LamS X.env.scope scope)
    (hbody : ∀ (A : Around) (outer : List Env) (s : Shared) (H : Hp) (E : XK) (f c' : Addr), Room k (A.deeper (lamEnv X scope s.heap.objs.size f c')) → PE (lamCx X A outer s H E scope f c') body (t E))
    (hdef : defaultsOf params X.env = ([], []) := by rfl) (hbind : ∀ (q : Str) (cl : List (Str × Addr)) (pm cv ctv : Value), bindArgs (PySem.W.kla_fn "<lambda>" q params body scope cl pm cv ctv) ⟨[], []⟩ = pure [] := by intros; rfl)
    (hfs : frs X.stack = X.env.locals :: X.fs := by rfl)
    (hs : starEach [.Lambda params body scope lpos] X.env = (false, eval (.Lambda params body scope lpos) X.env) :: starEach [] X.env := by rfl) (hpl : (backTo pos (starEach [] X.env)).any (·.1) = false := by rfl) :
    PE X (.Call (.Name "_law_told" p) [.Lambda params body scope lpos] [] pos) (tTold X.K ea T t) := by
  refine ⟨fun pins s σ H Q I h => ?_⟩
  obtain ⟨hT, h⟩ := h
  have kp := W.told.kp
  obtain ⟨oc, od, kV, doc, pm, an, cdv, ct, osl, efd, lk, hcd⟩ := W.told.ex
  refine wpAny_Call_Name_kw (ld_glob I hg W.told_m ?_ (by decide))
  refine PySem.W.callWith_K (h₀ := X.base) I.ok.mod.kin kp ?_ hs hpl
  rw [hs]
  show wpAny _ _ (spliced ((false, eval (.Lambda params body scope lpos) X.env) :: backTo pos (starEach [] X.env))) _ _ s
  refine Calls.spliced_cons (lam_make2 I TB hcode hmT hu hT hdef (L.has I.ok) fun f c' pm' ctv H1 s1 I1 eN T1 hf hfn hfr hco => ?_)
  have nfr : f ≠ X.env.locals ∧ f ∉ X.fs := by
    rw [hfs] at hfr
    exact ⟨fun z => hfr (z ▸ List.mem_cons_self), fun z => hfr (List.mem_cons_of_mem _ z)⟩
  refine Calls.spliced_nil ⟨I1.kIn, ?_⟩
  have Th := thk_of (k := k) (t := t) I1 L hf hfn hfr (hbind _ _ _ _ _) (fun A outer s H E hr2 => hbody A outer s H E f c' hr2)
  have bd := W.told_b
  rw [efd] at bd lk
  have rc : codeAny (model X.prog X.w) X.A (.call (.ref gt) ⟨[.ref f], []⟩) (CR CX0 X.stack X.prog X.w H1 s1 Q E0) s1 := by
    refine run_ofS (N := ["call", "e", "names", "tells"]) (ps := ["call"]) (us := [.ref f]) (vs := [.ref f]) lk hcd sc_told (hr.mono (show k + 2 ≤ k + 3 by omega)) I1.env0 (bd s1 [.ref f] I1.kIn rfl) (.cons rfl .nil) rfl fun hr2 => ?_
    obtain ⟨t', ht, hq⟩ := told_body (cdv := cdv) (g := gt) (outer := X.stack) (Q := Q) W.T W.GE Th hr2 (fun _ _ u => u) ⟨hco, h H1 eN T1⟩
    exact ⟨t', ht.nox, hq⟩
  refine wpAny_call (codeAny_mono rc fun r s3 hq => ?_)
  cases r with
  | error e => exact (show False from hq).elim
  | ok fl =>
    cases fl with
    | ret u => exact I1.after hq
    | next => exact False.elim hq
    | brk => exact False.elim hq
    | cont => exact False.elim hq
end
/-! ### over trees -/
def plainN : List Str := ["BadWord", "BadLot", "BadTerm", "BadStep", "BadShape", "BadPlace", "BadNumber", "BadFilling", "BadPlan", "BadTarget", "BadPaper", "BadCall", "NotAllowed"]
def noD (nam : Str) : D := .tup [.str "refused", .lst [.str nam], .tup []]
/-- where lambdas are made: the tables may grow -/
structure MkAm (A : Am) (TL : List (Addr × Str)) : Prop where
  k : ∀ o, A.k o → ∀ ps, o ≠ .tbl ps
  tb : ∀ H, A.am H → Tabs TL H
  am' : ∀ H H', A.am H → ExtN H H' → Tabs TL H' → A.am H'
  zc : ∀ H b, A.am H → A.z b → ∀ c q, H b ≠ some (CodeO c q)
/-- the classes' addresses are those that the law asks for -/
def ErrT (K : PySem.W.Frag) (W : Wd) (ea : ErrA) : Prop := ∀ c ∈ plainN, ∀ a, W.cl c = some a → ErrK K ea a c
section
variable {X : Cx} {A : Am} {E : L2.St → XK} {TL : List (Addr × Str)}
theorem MkAm.fx (M : MkAm A TL) {H H' : Hp} (h : A.am H) (e : ExtN H H') (t : Tabs TL H') : Fx A H H' := ⟨fun b o eb _ k => e b o eb (M.k o k), M.am' H H' h e t⟩
/-- what is told, over trees -/
def vTold (τ : TV D) : TV D := fun env Q _ => τ env (fun d => Q (.tup [.str "told", d])) (fun ex => ex.fs = [] ∧ ex.c ∈ plainN ∧ Q (noD ex.c))
end
end K0
namespace K0
open PySem PySem.Spec PyProof.Rows L2 Bs LamX
section
variable {X : Cx} {A : Am} {E : L2.St → XK} {TL : List (Addr × Str)}
theorem no_repS {S : Addr → Prop} {env : List Sl} {σ : L2.St} {H H' : Hp} {nam : Str} {p : Addr} (st : StR A S env σ H) (h : NoAt H H' nam p) : Rep A.W S H' (.ref p) (noD nam) := by
  obtain ⟨q, r, h1, h2, h3, f1, f2, f3⟩ := h
  exact .ob (st.notS f1) h1 (.tup (.cons .str (.cons (.ob (st.notS f2) h2 (.lst (.cons .str .nil))) (.cons (.ob (st.notS f3) h3 (.tup .nil)) .nil))))
theorem told_exc {ea : ErrA} {S : Addr → Prop} {env : List Sl} {σ : L2.St} {H : Hp} {Q : VK} {ex : Exn} {C : Value} {dd : Option Addr} (hK : A.W.K = X.K) (hE : ErrT X.K A.W ea) (st : StR A S env σ H) (xr : ExR A.W H ex C dd) (e1 : ex.fs = []) (e2 : ex.c ∈ plainN)
    (k : ∀ H2 p, Fx A H H2 → Rep A.W S H2 (.ref p) (noD ex.c) → Q (.ref p) H2) : toldE X.K ea Q C dd H := by
  obtain ⟨a, h1, h2, h3, _⟩ := xr
  exact ⟨a, ex.c, h2, h3 e1, hE ex.c e2 a h1, fun H2 p s n => k H2 p (st.ext s) (no_repS st n)⟩
theorem v_toldlam {ea : ErrA} {gt gi : Addr} {fdt fdi : FuncData} (W : Asks X.prog X.w X.K X.mg X.base A.W ea gt gi fdt fdi) (M : MkAm A TL) (hK : A.W.K = X.K) (hE : ErrT X.K A.W ea) {c Pt : Addr} {k : Nat} {params : Arguments} {body : Expr} {scope : Scope} {τ : TV D} {p lpos pos : Pos}
    (TB : TabB X.base X.mg c Pt) (hcode : X.env.code = .ref c) (hmT : (Pt, X.env.qual ++ "<lambda>") ∈ TL) (hu : ∀ p ∈ TL, p.1 = Pt → p.2 = X.env.qual ++ "<lambda>") (hr : Room (k + 3) X.A) (hg : Gl X "_law_told") (L : LamS X.env.scope scope)
    (hbody : ∀ (Ar : Around) (outer : List Env) (s : Shared) (H : Hp) (E' : XK) (f c' : Addr), Room k (Ar.deeper (lamEnv X scope s.heap.objs.size f c')) → VE (lamCx X Ar outer s H E' scope f c') A (fun _ => E') body τ)
    (hdef : defaultsOf params X.env = ([], []) := by rfl) (hbind : ∀ (q : Str) (cl : List (Str × Addr)) (pm cv ctv : Value), bindArgs (PySem.W.kla_fn "<lambda>" q params body scope cl pm cv ctv) ⟨[], []⟩ = pure [] := by intros; rfl)
    (hfs : frs X.stack = X.env.locals :: X.fs := by rfl)
    (hs : starEach [.Lambda params body scope lpos] X.env = (false, eval (.Lambda params body scope lpos) X.env) :: starEach [] X.env := by rfl) (hpl : (backTo pos (starEach [] X.env)).any (·.1) = false := by rfl) :
    VE X A E (.Call (.Name "_law_told" p) [.Lambda params body scope lpos] [] pos) (vTold τ) := ⟨PE.imp (pe_toldlam W hg TB hcode hmT hu hr L (fun Ar outer s H E' f c' hr2 => (hbody Ar outer s H E' f c' hr2).run) hdef hbind hfs hs hpl) fun σ H Q h => by
  obtain ⟨S, env, Qd, Rd, st, h, hq, hrr⟩ := h
  refine ⟨M.tb H st.am, fun H1 ext tabs => ?_⟩
  have f1 := M.fx st.am ext tabs
  have st1 := st.fx f1
  refine ⟨S, env, _, _, st1, h, fun d x H2 f2 r q pp hp => ?_, fun ex C dd H2 f2 xr ⟨e1, e2, q⟩ => ?_⟩
  · have st2 := st1.fx f2
    exact hq _ _ _ ((f1.trans f2).trans (st2.new hp)) (st2.mkO hp (.tup (.cons .str (.cons r .nil)))) q
  · exact told_exc hK hE (st1.fx f2) xr e1 e2 fun H3 pp f3 r => hq _ _ _ ((f1.trans f2).trans f3) r q⟩
/-- _law_is(lambda: .., due) -/
@[simp] def vIs (τ τ2 : TV D) : TV D := fun env Q R => τ2 env (fun due => τ env (fun d => .tup [.str "told", d] = due ∧ plainD due = true ∧ szD due < 400000 ∧ Q (.bl true)) (fun ex => ex.fs = [] ∧ ex.c ∈ plainN ∧ noD ex.c = due ∧ Q (.bl true))) R
theorem isQ_of {S : Addr → Prop} {env : List Sl} {σ : L2.St} {H : Hp} {v dv : V} {due : D} {Q : VK} (st : StR A S env σ H) (r1 : Rep A.W S H v due) (r2 : Rep A.W S H dv due) (h1 : plainD due = true) (h2 : szD due < 400000) (k : ∀ H2, Fx A H H2 → Q (.bl true) H2) : isQ A.W dv Q v H :=
  ⟨rfl, S, [due, due], fun r => r = .bl true, fun _ => False, st.dom, .cons r1 (.cons r2 .nil), ⟨due, rfl, h1, h2, rfl⟩, fun d x H' e r q => by
    subst q
    rw [(RepR.rep (z := fun _ => True) r).bl]
    exact k H' (st.ext e), fun _ _ _ _ _ _ z => z.elim⟩
theorem no_plain (nam : Str) : plainD (noD nam) = true := by simp [noD, plainD, plainL]
theorem no_sz (nam : Str) : szD (noD nam) < 400000 := by simp [noD, szD, szL]
theorem v_islam {ea : ErrA} {gt gi : Addr} {fdt fdi : FuncData} (W : Asks X.prog X.w X.K X.mg X.base A.W ea gt gi fdt fdi) (M : MkAm A TL) (hK : A.W.K = X.K) (hE : ErrT X.K A.W ea) {c Pt : Addr} {k : Nat} {params : Arguments} {body e2 : Expr} {scope : Scope} {τ τ2 : TV D} {p lpos pos : Pos}
    (TB : TabB X.base X.mg c Pt) (hcode : X.env.code = .ref c) (hmT : (Pt, X.env.qual ++ "<lambda>") ∈ TL) (hu : ∀ p ∈ TL, p.1 = Pt → p.2 = X.env.qual ++ "<lambda>") (hr : Room (k + 3) X.A) (hg : Gl X "_law_is") (L : LamS X.env.scope scope)
    (hbody : ∀ (Ar : Around) (outer : List Env) (s : Shared) (H : Hp) (E' : XK) (f c' : Addr), Room k (Ar.deeper (lamEnv X scope s.heap.objs.size f c')) → VE (lamCx X Ar outer s H E' scope f c') A (fun _ => E') body τ) (h2 : VE X A E e2 τ2)
    (hdef : defaultsOf params X.env = ([], []) := by rfl) (hbind : ∀ (q : Str) (cl : List (Str × Addr)) (pm cv ctv : Value), bindArgs (PySem.W.kla_fn "<lambda>" q params body scope cl pm cv ctv) ⟨[], []⟩ = pure [] := by intros; rfl)
    (hfs : frs X.stack = X.env.locals :: X.fs := by rfl) (hs2 : starEach [e2] X.env = (false, eval e2 X.env) :: starEach [] X.env := by rfl)
    (hs : starEach [.Lambda params body scope lpos, e2] X.env = (false, eval (.Lambda params body scope lpos) X.env) :: starEach [e2] X.env := by rfl) (hpl : (backTo pos (starEach [e2] X.env)).any (·.1) = false := by rfl) :
    VE X A E (.Call (.Name "_law_is" p) [.Lambda params body scope lpos, e2] [] pos) (vIs τ τ2) := ⟨PE.imp (pe_islam W hg TB hcode hmT hu hr L (fun Ar outer s H E' f c' hr2 => (hbody Ar outer s H E' f c' hr2).run) h2.run hdef hbind hfs hs2 hs hpl) fun σ H Q h => by
  obtain ⟨S, env, Qd, Rd, st, h, hq, hrr⟩ := h
  refine ⟨M.tb H st.am, fun H1 ext tabs => ?_⟩
  have f1 := M.fx st.am ext tabs
  have st1 := st.fx f1
  refine ⟨S, env, _, Rd, st1, h, fun due dv H2 f2 rdue q => ⟨fun c q hc => f2.ex _ _ hc (fun z => M.zc H1 c st1.am z c q hc) (A.kd _ trivial), ?_⟩, fun ex C dd H' f => hrr ex C dd H' (f1.trans f)⟩
  have st2 := st1.fx f2
  refine ⟨S, env, _, _, st2, q, fun d x H3 f3 r ⟨e, hp, hz, q9⟩ pp hpp => ?_, fun ex C dd H3 f3 xr ⟨e1, e2, e, q9⟩ => ?_⟩
  · have st3 := st2.fx f3
    have f4 := st3.new (o := .tup [.str "told", x]) hpp
    have st4 := st3.fx f4
    subst e
    exact isQ_of st4 (st3.mkO hpp (.tup (.cons .str (.cons r .nil)))) (rdue.mono ((st2.mn f3).trans (st3.mn f4))) hp hz fun H5 f5 => hq _ _ H5 ((((f1.trans f2).trans f3).trans f4).trans f5) .bl q9
  · have st3 := st2.fx f3
    subst e
    exact told_exc hK hE st3 xr e1 e2 fun H4 pp f4 r => isQ_of (st3.fx f4) r (rdue.mono ((st2.mn f3).trans (st3.mn f4))) (no_plain _) (no_sz _) fun H5 f5 => hq _ _ H5 ((((f1.trans f2).trans f3).trans f4).trans f5) .bl q9⟩
/-! ### name = _law_told(lambda: a new object) -/
theorem StR.toT {S : Addr → Prop} {env : List Sl} {σ : L2.St} {H : Hp} {p t : Addr} {d : D} {i : Nat} (st : StR A S env σ H) (h1 : env[i]? = some (.ow d)) (h2 : σ[i]? = some (some (.ref p))) (ht : H t = some (.tup [.str "told", .ref p])) (hS : ¬ S t) : StR A S (env.set i (.ot d)) (σ.set i (some (.ref t))) H := by
  obtain ⟨q, hs, hap⟩ := st.sl
  have key := hs i _ _ h1 h2
  have hq : q i = p := by cases key; rfl
  have w : Own A S H p d := by rw [← hq]; cases key with | ow w => exact w
  refine ⟨by rw [List.length_set, List.length_set]; exact st.len, ⟨q, fun j f u g1 g2 => ?_, fun j l e e' hn g1 g2 o1 o2 => ?_⟩, st.s0, st.dom, st.base, st.am⟩
  · rcases set_get g1 with ⟨rfl, rfl⟩ | ⟨n1, g1⟩
    · rcases set_get g2 with ⟨_, rfl⟩ | ⟨n2, _⟩
      · rw [hq]; exact .ot ht hS w
      · exact absurd rfl n2
    · rcases set_get g2 with ⟨e2, _⟩ | ⟨_, g2⟩
      · exact absurd e2 n1
      · exact hs j f u g1 g2
  · have back : ∀ {j : Nat} {x : Sl}, (env.set i (.ot d))[j]? = some x → hasOwn x = true → ∃ y, env[j]? = some y ∧ hasOwn y = true := fun {j x} g o => by
      rcases set_get g with ⟨rfl, _⟩ | ⟨_, g⟩
      · exact ⟨_, h1, rfl⟩
      · exact ⟨_, g, o⟩
    obtain ⟨y1, g1, p1⟩ := back g1 o1
    obtain ⟨y2, g2, p2⟩ := back g2 o2
    exact hap j l y1 y2 hn g1 g2 p1 p2
@[simp] def vSetT (i : Nat) (τ : TV D) : VTS := fun Vn env => i < env.length ∧ τ env (fun d => Vn.nx (env.set i (.ot d))) (fun ex => ex.fs = [] ∧ ex.c ∈ plainN ∧ Vn.nx (env.set i (.sh (noD ex.c))))
theorem vs_told {ea : ErrA} {gt gi : Addr} {fdt fdi : FuncData} (W : Asks X.prog X.w X.K X.mg X.base A.W ea gt gi fdt fdi) (M : MkAm A TL) (hK : A.W.K = X.K) (hE : ErrT X.K A.W ea) {i : Nat} {x : Str} {pos' spos : Pos} {c Pt : Addr} {k : Nat} {params : Arguments} {body : Expr} {scope : Scope} {τ : TV D} {p lpos pos : Pos}
    (hN : X.N.Nodup) (hi : X.N[i]? = some x) (hx : Loc X.env.scope x)
    (TB : TabB X.base X.mg c Pt) (hcode : X.env.code = .ref c) (hmT : (Pt, X.env.qual ++ "<lambda>") ∈ TL) (hu : ∀ p ∈ TL, p.1 = Pt → p.2 = X.env.qual ++ "<lambda>") (hr : Room (k + 3) X.A) (hg : Gl X "_law_told") (L : LamS X.env.scope scope)
    (hbody : ∀ (Ar : Around) (outer : List Env) (s : Shared) (H : Hp) (E' : XK) (f c' : Addr), Room k (Ar.deeper (lamEnv X scope s.heap.objs.size f c')) → VF (lamCx X Ar outer s H E' scope f c') A (fun _ => E') body τ)
    (hdef : defaultsOf params X.env = ([], []) := by rfl) (hbind : ∀ (q : Str) (cl : List (Str × Addr)) (pm cv ctv : Value), bindArgs (PySem.W.kla_fn "<lambda>" q params body scope cl pm cv ctv) ⟨[], []⟩ = pure [] := by intros; rfl)
    (hfs : frs X.stack = X.env.locals :: X.fs := by rfl)
    (hs : starEach [.Lambda params body scope lpos] X.env = (false, eval (.Lambda params body scope lpos) X.env) :: starEach [] X.env := by rfl) (hpl : (backTo pos (starEach [] X.env)).any (·.1) = false := by rfl)
    (hsw : swapsWith (.Call (.Name "_law_told" p) [.Lambda params body scope lpos] [] pos) (some (.Name x pos')) spos.line X.env = pure false := by rfl) (hf : X.fn x = true ∨ X.env.scope.names.lookup x = some .local := by first | exact .inl rfl | exact .inr rfl | assumption) :
    VS X A E (.Assign [.Name x pos'] (.Call (.Name "_law_told" p) [.Lambda params body scope lpos] [] pos) spos) (vSetT i τ) := ⟨PS.imp (ps_set hN hi hx (pe_toldlam W hg TB hcode hmT hu hr L (fun Ar outer s H E' f c' hr2 => (hbody Ar outer s H E' f c' hr2).run) hdef hbind hfs hs hpl) hsw hf) fun D' σ H h => by
  obtain ⟨S, env, Vn, st, ⟨hlt, h⟩, kk⟩ := h
  refine ⟨M.tb H st.am, fun H1 ext tabs => ?_⟩
  have f1 := M.fx st.am ext tabs
  have st1 := st.fx f1
  have k1 := kk.from_ (st.mn f1)
  refine ⟨S, env, _, _, st1, h, fun d o pp H2 f2 hp r mu q T hT => ?_, fun ex C dd H2 f2 xr ⟨e1, e2, q⟩ => ?_⟩
  · have st2 := st1.fx f2
    obtain ⟨st3, m3⟩ := st2.own i hp r mu
    have f4 := st3.new (o := .tup [.str "told", .ref pp]) hT
    have st4 := st3.fx f4
    have hl : i < (env.set i (Sl.ow d)).length := by rw [List.length_set]; exact hlt
    have hl2 : i < σ.length := by rw [← st.len]; exact hlt
    have st5 := StR.toT st4 (i := i) (p := pp) (t := T) (d := d) (by rw [List.getElem?_set_self hlt]) (by rw [List.getElem?_set_self hl2]) upd_same (st3.notS hT)
    rw [List.set_set, List.set_set] at st5
    exact k1.nx _ _ _ _ st5 (((st1.mn f2).trans m3).trans (st3.mn f4)) q
  · exact told_exc hK hE (st1.fx f2) xr e1 e2 fun H3 pp f3 r => k1.nx _ _ _ _ (((st1.fx f2).fx f3).set i r) ((st1.mn f2).trans ((st1.fx f2).mn f3)) q⟩
end
end K0
/-! Sets of texts over trees; sorted; minus; list(range ..); pairs compared; calls with defaults and keywords. -/
namespace Bs
open PySem PySem.Spec PyProof.Rows L2 K0
section
variable {X : Cx} {A : Am} {E : L2.St → XK} {e a b : Expr} {es : List Expr} {τ τa τb : TV D} {τt : TV Bool} {τl : TV (List D)} {p pos : Pos}
/-! ### minus -/
@[simp] def dNeg (d : D) (Q : D → Prop) : Prop := match d with
  | .int i => Q (.int (-i))
  | _ => False
@[simp] def vNeg (τ : TV D) : TV D := fun env Q R => τ env (fun d => dNeg d Q) R
theorem v_neg (ha : VR X A E a τa) : VE X A E (.UnaryOp .USub a pos) (vNeg τa) := ⟨PE.imp (pe_un u_neg ha.run) fun σ H Q h =>
  LfG.one (R2 := rV A) (f := dNeg) (r := fun x H1 (Q : V → Hp → Prop) => uNeg x H1 Q) (fun S env σ H x d Qd Q st r hg hq => by
    cases d with
    | int i => rw [r.int]; exact hq _ _ H (Fx.refl st.am) .int hg
    | _ => exact hg.elim) h⟩
/-! ### list(range(n)) -/
@[simp] def dLrg1 (d : D) (Q : D → Prop) : Prop := match d with
  | .int n => 0 ≤ n ∧ n ≤ 16777216 ∧ Q (.lst ((List.range n.toNat).map fun i => D.int (i : Nat)))
  | _ => False
@[simp] def vLrg1 (τ : TV D) : TV D := fun env Q R => τ env (fun d => dLrg1 d Q) R
theorem rep_ints {W : Wd} {S : Addr → Prop} {H : Hp} : ∀ l : List Nat, RepL W S H (l.map fun i => V.int (0 + (i : Nat))) (l.map fun i => D.int (i : Nat))
  | [] => .nil
  | n :: l => .cons (by
    show Rep W S H (V.int (0 + (n : Int))) (D.int n)
    rw [Int.zero_add]; exact .int) (rep_ints l)
theorem v_lrg1 {p2 p3 : Pos} (hc : X.calm = true) (hg : Gl X "list") (hm : X.mg "list" = none) (hg2 : Gl X "range") (hm2 : X.mg "range" = none) (ha : VE X A E a τa)
    (na : starEach [a] X.env = (false, eval a X.env) :: starEach [] X.env := by rfl) (nb : starEach [.Call (.Name "range" p2) [a] [] p3] X.env = (false, eval (.Call (.Name "range" p2) [a] [] p3) X.env) :: starEach [] X.env := by rfl) :
    VE X A E (.Call (.Name "list" p) [.Call (.Name "range" p2) [a] [] p3] [] pos) (vLrg1 τa) := ⟨PE.imp (pe_listRg hc hg hm (prg_1 hg2 hm2 ha.run na) nb) fun σ H Q h =>
  LfG.one (R2 := rV A) (f := dLrg1) (r := fun x H1 (Q : V → Hp → Prop) => ∃ n, x = V.int n ∧ RgOk 0 n ∧ ∀ q, H1 q = none → Q (.ref q) (upd H1 q (.lst (rgV 0 n)))) (fun S env σ H x d Qd Q st r hg hq => by
    cases d with
    | int i =>
      obtain ⟨h0, h1, hg⟩ := hg
      refine ⟨i, (RepR.rep (z := A.z) r).int, RgOk.of_le (Int.le_refl _) h1 (by omega) h0, fun q hq0 => hq _ _ _ (st.new hq0) (st.mkO hq0 (.lst ?_)) hg⟩
      unfold rgV
      rw [Int.sub_zero]
      exact rep_ints _
    | _ => exact hg.elim) h⟩
/-! ### (i, x) >= (j, y) -/
theorem ltPair (a b : Int) (x y : Str) : PySem.W.dataLt (.tuple [.int a, .str x]) (.tuple [.int b, .str y]) = (decide (a < b) || (decide (a = b) && decide (x.cps.toList < y.cps.toList))) := by
  rw [PySem.W.dataLt_tuple]
  by_cases h : a = b
  · subst h
    rw [PySem.W.dataLt_all_yes (by rfl) (by simp [PyData.eqv])]
    by_cases hx : x = y
    · subst hx
      rw [PySem.W.dataLt_all_yes (by rfl) (by simp [PyData.eqv])]
      have h2 : ¬ x.cps.toList < x.cps.toList := List.lt_irrefl _
      simp [h2, PySem.W.keyToksAll, PyProof.Rows.lexLt, itemOrd, itemLt]
    · rw [PySem.W.dataLt_all_no (by rfl) (by simp [PyData.eqv, hx]), PySem.W.dataLt_str]
      simp
  · rw [PySem.W.dataLt_all_no (by rfl) (by simp [PyData.eqv, h]), PySem.W.dataLt_int]
    simp [h]
@[simp] def dGeP (d e : D) (Q : D → Prop) : Prop := match d, e with
  | .tup [.int i, .str x], .tup [.int j, .str y] => Q (.bl (!(decide (i < j) || (decide (i = j) && decide (x.cps.toList < y.cps.toList)))))
  | _, _ => False
theorem op_geD (hu : X.A.units + 64 < cLine) : OpR X (compareOp .GtE) (fun x y H Q => ∃ d e, Dp X.K H x d ∧ Dp X.K H y e ∧ PySem.W.alike d e = true ∧ d ≠ .none ∧ d.depth ≤ 64 ∧ Q (.bl (!PySem.W.dataLt d e)) H) := by
  intro pins s σ H x y v u Q I rx ry h
  obtain ⟨d, e, hd, he, ha, hn, hz, q⟩ := h
  obtain ⟨as, r1⟩ := Dp.reads I d x v hd rx
  obtain ⟨bs, r2⟩ := Dp.reads I e y u he ry
  exact PySem.W.ge_data r1 r2 ha hn (by omega) ⟨.bl _, H, I, rfl, q⟩
theorem w_geP (hK : A.W.K = X.K) {k : Nat} (hr : Room k X.A) : OpV X A (compareOp .GtE) dGeP := by
  refine ⟨_, op_geD hr.units, fun S env σ H x y d e Qd Q st r1 r2 hf hq => ?_⟩
  unfold dGeP at hf
  split at hf
  · rename_i i x j y
    refine ⟨.tuple [.int i, .str x], .tuple [.int j, .str y], hK ▸ r1.dp (by simp [py, pyL]), hK ▸ r2.dp (by simp [py, pyL]), by rfl, by simp, by simp [PyData.depth, PyData.depthAll], ?_⟩
    rw [ltPair]
    exact hq _ _ H (Fx.refl st.am) .bl hf
  · exact hf.elim
/-! ### sets of texts -/
@[simp] def gSetS (ds : List D) (Q : D → Prop) : Prop := match ds with
  | [.lst l] => ∃ xs, stL l = some xs ∧ xs.length + 1 < scanBound ∧ ∀ s, (∀ k, k ∈ s ↔ k ∈ xs) → s.Nodup → s.length ≤ xs.length → Q (.stx s)
  | [.tup l] => ∃ xs, stL l = some xs ∧ xs.length + 1 < scanBound ∧ ∀ s, (∀ k, k ∈ s ↔ k ∈ xs) → s.Nodup → s.length ≤ xs.length → Q (.stx s)
  | _ => False
theorem StR.mkS {S : Addr → Prop} {env : List Sl} {σ : L2.St} {H : Hp} (t : StR A S env σ H) (hP : A.W.P = X.prog) (hw : A.W.w = X.w) {p : Addr} {l : List Str} (hp : H p = none) : Rep A.W S (upd H p (SetS X.prog X.w p l)) (.ref p) (.stx l) :=
  .sx (t.notS hp) (by rw [hP, hw]; exact upd_same)
theorem w_set (hK : A.W.K = X.K) (hP : A.W.P = X.prog) (hw : A.W.w = X.w) (hc : X.calm = true) : CallV X A (.type "set") gSetS := by
  refine ⟨_, cr_setOfS hc, fun S env σ H xs ds Qd Q st rr hf hq => ?_⟩
  unfold gSetS at hf
  split at hf
  · obtain ⟨x, rfl, r⟩ := rr.one
    obtain ⟨p, xs, rfl, h1, q1⟩ := r.lst
    obtain ⟨zs, e, hb, k⟩ := hf
    rw [stL_rep q1 e] at h1
    exact ⟨p, zs, rfl, .inl (SqL.of h1), hb, fun b l hn h2 h3 h4 => hq _ _ _ (st.new hn) (st.mkS hP hw hn) (k l h2 h3 h4)⟩
  · obtain ⟨x, rfl, r⟩ := rr.one
    obtain ⟨p, xs, rfl, h1, q1⟩ := r.tup
    obtain ⟨zs, e, hb, k⟩ := hf
    rw [stL_rep q1 e] at h1
    exact ⟨p, zs, rfl, .inr (hK ▸ h1), hb, fun b l hn h2 h3 h4 => hq _ _ _ (st.new hn) (st.mkS hP hw hn) (k l h2 h3 h4)⟩
  · exact hf.elim
theorem RepR.stx {W : Wd} {z S : Addr → Prop} {H : Hp} {x : V} {l : List Str} (r : RepR W z S H x (.stx l)) : ∃ a, x = .ref a ∧ H a = some (SetS W.P W.w a l) := by
  cases r with
  | rep r => cases r with
    | sx _ e => exact ⟨_, rfl, e⟩
    | ob _ _ r => cases r
    | fz _ _ r => cases r
  | own _ r _ _ => cases r
@[simp] def dInS (neg : Bool) (d e : D) (Q : D → Prop) : Prop := match d, e with
  | .str k, .stx l => l.length < scanBound ∧ Q (.bl (if neg then !decide (k ∈ l) else decide (k ∈ l)))
  | _, _ => False
theorem w_notinS (hP : A.W.P = X.prog) (hw : A.W.w = X.w) : OpV X A (compareOp .NotIn) (dInS true) := by
  refine ⟨_, or_notinS, fun S env σ H x y d e Qd Q st r1 r2 hf hq => ?_⟩
  unfold dInS at hf
  split at hf
  · obtain ⟨b, rfl, h1⟩ := r2.stx
    rw [hP, hw] at h1
    exact ⟨_, b, _, r1.str, rfl, h1, hf.1, hq _ _ H (Fx.refl st.am) .bl hf.2⟩
  · exact hf.elim
/-! ### sorted(sorted(set(lots)), key=len) -/
@[simp] def dOrd (d : D) (Q : D → Prop) : Prop := ∃ xs : List Str, d = .lst (xs.map D.str) ∧ xs.length + 1 < scanBound ∧ (∀ x ∈ xs, x.length ≤ sizeLine) ∧ ∀ zs s ss, (∀ k, k ∈ s ↔ k ∈ xs) → s.Nodup → ss.Perm s → Ord ss → ByLen zs ss → Q (.lst (zs.map D.str))
theorem rep_strs {W : Wd} {S : Addr → Prop} {H : Hp} : ∀ l : List Str, RepL W S H (l.map V.str) (l.map D.str)
  | [] => .nil
  | n :: l => .cons .str (rep_strs l)
theorem vf_ord {p1 p2 p3 p4 p5 kp q1 : Pos} (hK : A.W.K = X.K) (hP : A.W.P = X.prog) (hw : A.W.w = X.w) (hc : X.calm = true) (hgs : Gl X "sorted") (hms : X.mg "sorted" = none) (hgl : Gl X "len") (hml : X.mg "len" = none) (hgt : Gl X "set") (hmt : X.mg "set" = none) (ha : VR X A E a τa)
    (na : starEach [a] X.env = (false, eval a X.env) :: starEach [] X.env := by rfl)
    (nb : starEach [.Call (.Name "set" p1) [a] [] p2] X.env = (false, eval (.Call (.Name "set" p1) [a] [] p2) X.env) :: starEach [] X.env := by rfl)
    (nc : backTo pos (starEach [.Call (.Name "sorted" p3) [.Call (.Name "set" p1) [a] [] p2] [] p4] X.env) = (false, eval (.Call (.Name "sorted" p3) [.Call (.Name "set" p1) [a] [] p2] [] p4) X.env) :: backTo pos (starEach [] X.env) := by rfl)
    (n1 : (backTo p2 (starEach [] X.env)).any (·.1) = false := by rfl) (n2 : (backTo p4 (starEach [] X.env)).any (·.1) = false := by rfl)
    (n3 : (backTo pos (starEach [.Call (.Name "sorted" p3) [.Call (.Name "set" p1) [a] [] p2] [] p4] X.env)).any (·.1) = false := by rfl) :
    VF X A E (.Call (.Name "sorted" p5) [.Call (.Name "sorted" p3) [.Call (.Name "set" p1) [a] [] p2] [] p4] [⟨some "key", .Name "len" q1, kp⟩] pos) (fun env Q R => τa env (fun d => dOrd d Q) R) :=
  ⟨PE.imp (pe_sortLen hgs hms hgl hml (pe_callB (cr_sortedS hc) hgs hms (by decide +kernel) (pa_cons (pe_callTy (cr_setOfS hc) hgt hmt (by decide +kernel) (pa_cons ha.run pa_nil na) (by decide) (by decide) na n1) pa_nil nb) (by decide) (by decide) nb n2) nc n3) fun σ H Q h => by
    obtain ⟨S, env, Qd, Rd, st, h, hq, hr⟩ := h
    refine ⟨S, env, _, Rd, st, h, fun d x H1 f1 r1 hf => ?_, hr⟩
    obtain ⟨xs, rfl, hb, hs, k⟩ := hf
    obtain ⟨p, vs, rfl, h1, q1⟩ := r1.lst
    rw [stL_rep q1 (stL_map xs)] at h1
    refine ⟨p, xs, rfl, .inl (SqL.of h1), hb, fun c l hc0 hm nd hl => ⟨c, l, rfl, upd_same, by omega, fun ss p1 hp ho hp1 => ⟨p1, ss, rfl, SqL.of upd_same, ?_, fun x hx => hs x ((hm x).mp (hp.mem_iff.mp hx)), fun zs q hz hq1 => ?_⟩⟩⟩
    · rw [hp.length_eq, show sizeLine = 16777216 from sizeLine_eq]; unfold scanBound at hb; omega
    · have st1 := st.fx f1
      have f2 := st1.new (o := SetS X.prog X.w c l) hc0
      have f3 := (st1.fx f2).new (o := HO.lst (ss.map V.str)) hp1
      exact hq _ _ _ _ ((f1.trans f2).trans f3) hq1 (.lst (rep_strs zs)) rfl (k zs l ss hm nd hp ho hz)⟩
end
end Bs
/-! Draws that hand back a new object. -/
namespace Bs
open PySem PySem.Spec PyProof.Rows L2 K0
theorem v_dnew {X : Cx} {A : Am} {E : L2.St → XK} {pos : Pos} : VE X A E (.Dict [] [] pos) (vC (.dic [] [])) := ⟨PE.imp pe_dnewK fun σ H Q h => by
  obtain ⟨S, env, Qd, Rd, st, h, hq, hr⟩ := h
  exact fun l hl => hq _ _ _ (st.new hl) (st.mkO hl (.dic (kvs := []) .nil)) h⟩
def spDF (W : Wd) (n : Nat) (g : Gd) : Sp := fun vs H Q _ => vs.length = n ∧ ∃ a c vs' S ds Qd, vs = .ref a :: vs' ∧ StAt H a c ∧ S a ∧ S c ∧ (∀ b, S b → ∃ o, H b = some o ∧ nt o) ∧ RepL W S H vs' ds ∧ g ds Qd ∧
  ∀ d o p H', Grow a H H' → StAt H' a c → H' p = none → RepO W S H' o d → dataO o = true → Qd d → Q (.ref p) (upd H' p o)
structure FnDF (P : Program) (w : World) (K : PySem.W.Frag) (mg : Str → Option Value) (base : Heap) (k : Nat) (x : Str) (ps : List Str) (W : Wd) (f : Gd) : Prop where
  ex : ∃ g fd, Fn P w K mg base CX0 k x ps (spDF W ps.length f) g fd
  len : ∀ ds Q, f ds Q → ds.length + 1 = ps.length
section
variable {X : Cx} {A : Am} {E : L2.St → XK} {e : Expr} {es : List Expr} {τl : TV (List D)} {pos : Pos} {k : Nat} {ps : List Str} {f : Gd} {x : Str} {p : Pos} {W : Wd}
theorem vf_draw {a c : Addr} (sA : StAm A a c) (i : Nat) {y : Str} {py : Pos} (F : FnDF X.prog X.w X.K X.mg X.base k x ps W f) (hW : A.W = W) (hr : Room k X.A) (hg : Gl X x) (ha : VA X A E es τl)
    (hN : X.N[i]? = some y := by rfl) (hv : Vis X.env.scope y := by first | exact Or.inl rfl | exact Or.inr (Or.inl rfl) | exact Or.inr (Or.inr rfl)) (hd : (y == ("__debug__" : Str)) = false := by decide) (hcd : (y == ("__classdict__" : Str)) = false := by decide)
    (hdb : (x == ("__debug__" : Str)) = false := by decide) (hs : starEach (.Name y py :: es) X.env = (false, eval (.Name y py) X.env) :: starEach es X.env := by rfl) (hpl : (backTo pos (starEach es X.env)).any (·.1) = false := by rfl) :
    VF X A E (.Call (.Name x p) (.Name y py :: es) [] pos) (vDraw i f τl) := by
  obtain ⟨⟨g, fd, F⟩, len⟩ := F
  refine ⟨PE.imp (fn F hr hg pass0 (pa_cons (pe_var (i := i) hN hv hd hcd) ha.run hs) hdb hs hpl) fun σ H Q h => ?_⟩
  obtain ⟨S, env, Qd, Rd, st, ⟨h0, h⟩, hq, hr⟩ := h
  obtain ⟨u, h2, q0, sl⟩ := st.at h0
  cases sl with
  | st hz =>
    rw [sA.st] at hz; cases hz
    refine ⟨_, h2, S, env, _, Rd, st, h, fun ds xs H1 f1 r1 q1 => ?_, hr⟩
    subst hW
    have st1 := st.fx f1
    refine ⟨?_, a, c, xs, S, ds, Qd, rfl, sA.am H1 st1.am, st1.s0 a sA.s, st1.s0 c sA.sc, st1.dom, r1, q1, fun d o p H' g s hp r mu q => ?_⟩
    · rw [List.length_cons, r1.length]
      exact len _ _ q1
    · exact hq d o p H' (f1.trans ⟨fun b o e z _ => g b o (by rintro rfl; exact z sA.z) e, sA.am' H1 H' st1.am g s⟩) hp r mu q
end
section
variable {P : Program} {w : World} {K : PySem.W.Frag} {mg : Str → Option Value} {base : Heap}
theorem Fun.okDF {x qual : Str} {st : Stmt} {f : Addr} {fd : FuncData} {N ps : List Str} {k : Nat} {W : Wd} {fv : Gd} (F : Fun K x qual st f fd) (S : FnScope N ps (defScope st)) (hp : ps.length ≤ N.length)
    (hbody : ∀ (cdv : Value) (Ar : Around) (outer : List Env) (s : Shared) (H : Hp) (E : XK) (A : Am) (a c : Addr), A.W = W → StAm A a c → Room k (Ar.deeper (envOfC qual (defScope st) s.heap.objs.size f cdv)) →
      ∃ τ, VSs (cxOf CX0 P w K mg base N qual (defScope st) f cdv Ar outer s H E).nox A EN (defBody st) τ ∧ ∀ ds Q, ds.length + 1 = ps.length → fv ds Q → τ { nx := fun _ => False, rt := fun _ => False, rf := Q, ex := fun _ => False } (stD N.length ds)) :
    FnOk P w K mg base CX0 (k + 1) f fd ps (spDF W ps.length fv) :=
  F.ok S (fun vs H Q E h => h.1) fun cdv Ar outer s H vs Q E hr h => by
    obtain ⟨hl, a, c, vs', S', ds, Qd, rfl, hst, ha, hc, hS, r, hf, hq⟩ := h
    obtain ⟨τ, hv, hi⟩ := hbody cdv Ar outer s H E (amDr W S' H a c ha hc) a c rfl stAm_dr hr
    rw [List.length_cons] at hl
    have rl := r.length
    refine ⟨_, hv.run, S', _, _, ?_, hi ds Qd (by omega) hf, ?_⟩
    · have base := @st_start W S' H (N.drop 1) vs' ds hS r (by rw [List.length_drop]; omega)
      rw [List.length_drop] at base
      have e : L2.start N (.ref a :: vs') = some (.ref a) :: L2.start (N.drop 1) vs' := by
        unfold L2.start
        rw [List.map_cons, List.cons_append, List.length_cons, List.length_drop, show N.length - (vs'.length + 1) = N.length - 1 - vs'.length by omega]
      rw [e]
      obtain ⟨q, hs, hap⟩ := base.sl
      refine ⟨by unfold stD; rw [List.length_cons, List.length_cons, base.len], ⟨fun i => q (i - 1), fun i e o h1 h2 => ?_, fun i j e e' hn h1 h2 o1 o2 => ?_⟩, fun _ h => h, hS, fun b o e _ _ => e, hst⟩
      · cases i with
        | zero => cases h1; cases h2; exact .st rfl
        | succ i =>
          show SlR _ _ _ (q i) o e
          cases hs i e o h1 h2 with
          | no => exact .no
          | sh r => exact .sh r
          | ow w => exact absurd w.s w.n0
          | ot _ _ w => exact absurd w.s w.n0
          | st z => cases z
      · cases i with
        | zero => cases h1; cases o1
        | succ i =>
          cases j with
          | zero => cases h2; cases o2
          | succ j => exact hap i j e e' (fun z => hn (by rw [z])) h1 h2 o1 o2
    · have ext : ∀ {H'}, Bf (amDr W S' H a c ha hc) H' → Grow a H H' := fun b c o z e => b.base c o e z trivial
      exact ⟨fun _ _ _ _ _ _ q => q.elim, fun _ _ _ _ _ _ q => q.elim, fun _ _ _ _ _ _ q => q.elim, fun d x H' b r q => q.elim, fun ex C dd σ' H' b xr q => q.elim, fun d o p H' b h0 hs hp r mu q => hq d o p H' (ext b) b.am hp r mu q⟩
end
end Bs
/-! isinstance(x, (T1, T2)); calls with keywords over trees -/
namespace Bs
open PySem PySem.Spec PyProof.Rows L2 K0
section
variable {X : Cx} {A : Am} {E : L2.St → XK} {e a b : Expr} {es : List Expr} {τ τa τb : TV D} {τt : TV Bool} {τl : TV (List D)} {p pos p2 : Pos}
@[simp] def dIsT (n1 n2 : String) (d : D) (Q : D → Prop) : Prop := ∃ t, tyD d = some t ∧ Q (.bl (isSub t n1 || isSub t n2))
theorem v_isiT {n1 n2 : String} {x1 : Nat} (hK : A.W.K = X.K) (hg : Gl X "isinstance") (hm : X.mg "isinstance" = none) (he : VE X A E e τ) (ha : PE X a (tC (.ty n1))) (hb : PE X b (tC (.ty n2))) (t1 : tys.contains n1 = true := by decide) (t2 : tys.contains n2 = true := by decide)
    (s1 : starEach [e, .Tuple [a, b] x1 p2] X.env = (false, eval e X.env) :: starEach [.Tuple [a, b] x1 p2] X.env := by rfl) (s2 : starEach [.Tuple [a, b] x1 p2] X.env = (false, eval (.Tuple [a, b] x1 p2) X.env) :: starEach [] X.env := by rfl)
    (s3 : starEach [a, b] X.env = (false, eval a X.env) :: starEach [b] X.env := by rfl) (s4 : starEach [b] X.env = (false, eval b X.env) :: starEach [] X.env := by rfl) (hpl : (backTo pos (starEach [.Tuple [a, b] x1 p2] X.env)).any (·.1) = false := by rfl) :
    VE X A E (.Call (.Name "isinstance" p) [e, .Tuple [a, b] x1 p2] [] pos) (fun env Q R => τ env (fun d => dIsT n1 n2 d Q) R) :=
  ⟨PE.imp (pe_callB call_isiT hg hm boot_isinstance (pa_cons he.run (pa_cons (pe_tup (pa_cons ha (pa_cons hb pa_nil s4) s3)) pa_nil s2) s1) (by decide) (by decide) s1 hpl) fun σ H Q h => by
    obtain ⟨S, env, Qd, Rd, st, h, hq, hr⟩ := h
    refine ⟨S, env, _, Rd, st, h, fun d x H1 f1 r1 hf => ?_, hr⟩
    obtain ⟨t, ht, hf⟩ := hf
    have zl : sizeLine = 16777216 := rfl
    refine ⟨by simp; omega, fun q hq0 => ?_⟩
    have st1 := st.fx f1
    have f2 := st1.new (o := .tup [.ty n1, .ty n2]) hq0
    have r2 := r1.mono (st1.mn f2)
    show rIsiT X.K [x, .ref q] (upd H1 q (.tup [.ty n1, .ty n2])) Q
    refine ⟨x, q, [.ty n1, .ty n2], .type t, [.type n1, .type n2], isSub t n1 || isSub t n2, rfl, upd_same, .cons (.ty n1) (.cons (.ty n2) .nil), hK ▸ tyD_X (z := A.z) (.rep r2) ht, ?_, hq _ _ _ (f1.trans f2) .bl hf⟩
    have k1 := kit_ty (K := X.K) (kitB_all t (tyD_mem ht) n1 (by simpa using t1))
    have k2 := kit_ty (K := X.K) (kitB_all t (tyD_mem ht) n2 (by simpa using t2))
    unfold PySem.W.kitAny
    rw [k1]
    cases h1 : isSub t n1 with
    | true => rfl
    | false =>
      show PySem.W.kitAny X.K (.type t) [.type n2] = _
      unfold PySem.W.kitAny
      rw [k2]
      cases isSub t n2 <;> rfl⟩
end
end Bs
/-! Calls with keywords, with defaults, of defs that hand back a new object. -/
namespace Bs
open PySem PySem.Spec PyProof.Rows L2 K0
section
variable {X : Cx} {A : Am} {E : L2.St → XK} {e : Expr} {kws : List Keyword} {nm : Option Str} {kpos : Pos} {τ : TV D} {τl : TV (List D)}
/-- the values of the keywords -/
structure VK (X : Cx) (A : Am) (E : L2.St → XK) (kws : List Keyword) (τ : TV (List D)) : Prop where
  run : PK X kws (LfG A E (rL A) τ)
theorem PK.imp {X : Cx} {kws : List Keyword} {t t' : TA} (h : PK X kws t) (i : ∀ σ H Q, t' σ H Q → t σ H Q) : PK X kws t' := ⟨fun pos p s σ H Q I q => h.run pos p s σ H Q I (i σ H Q q)⟩
theorem vk_nil : VK X A E [] vNil := ⟨PK.imp pk_nil fun σ H Q h => by
  obtain ⟨S, env, Qd, Rd, st, h, hq, hr⟩ := h
  exact hq _ _ H (Fx.refl st.am) .nil h⟩
theorem vk_cons (ha : VE X A E e τ) (hr : VK X A E kws τl) : VK X A E (⟨nm, e, kpos⟩ :: kws) (vCons τ τl) :=
  ⟨PK.imp (pk_cons ha.run hr.run) fun σ H Q h => LfG.two (R3 := rL A) (f := fun d ds Q => Q (d :: ds)) (r := fun x xs H Q => Q (x :: xs) H) kept_V (fun S env σ H x y d e Qd Q st r1 r2 hf hq => hq _ _ H (Fx.refl st.am) (.cons r1 r2) hf) h⟩
end
/-- n positional values and keywords ks: gD puts them, and what lacks, in the parameters' order -/
structure FnFK (P : Program) (w : World) (K : PySem.W.Frag) (mg : Str → Option Value) (base : Heap) (k : Nat) (x : Str) (ps : List Str) (W : Wd) (f : Fd) (n : Nat) (ks : List Str) (gD : List D → List D → List D) : Prop where
  ex : ∃ g fd gg gV, FnOk P w K mg base (L2.CX P w) k g fd ps (spF W ps.length f) ∧ mg x = some (.ref g) ∧ PySem.W.keepIn K (.ref g) = true ∧ KBn K fd ps n ks gg gV ∧
    ∀ (S : Addr → Prop) (H : Hp) (vs zs : List V) (ds es : List D), vs.length = n → zs.length = ks.length → RepL W S H vs ds → RepL W S H zs es → RepL W S H (gV vs zs) (gD ds es)
/-- the same, no keyword written: the defaults dvs (scalars) lack -/
structure FnFD (P : Program) (w : World) (K : PySem.W.Frag) (mg : Str → Option Value) (base : Heap) (k : Nat) (x : Str) (ps : List Str) (W : Wd) (f : Fd) (n : Nat) (dvs : List V) (dd : List D) : Prop where
  ex : ∃ g fd ds, FnOk P w K mg base (L2.CX P w) k g fd ps (spF W ps.length f) ∧ mg x = some (.ref g) ∧ PySem.W.keepIn K (.ref g) = true ∧ Vals dvs ds ∧ Binds K fd ps ds ∧ ∀ (S : Addr → Prop) (H : Hp), RepL W S H dvs dd
section
variable {X : Cx} {A : Am} {E : L2.St → XK} {e : Expr} {es : List Expr} {kws : List Keyword} {τl τk : TV (List D)} {pos : Pos} {k n : Nat} {ps ks : List Str} {f : Fd} {E' : XK} {x : Str} {p : Pos} {W : Wd} {gD : List D → List D → List D} {dvs : List V} {dd : List D}
@[simp] def vCallK (n m len : Nat) (f : Fd) (gD : List D → List D → List D) (τl τk : TV (List D)) : TV D := fun env Q R => τl env (fun ds => τk env (fun zs => ds.length = n ∧ zs.length = m ∧ (gD ds zs).length = len ∧ f (gD ds zs) Q R) R) R
theorem vf_fnK (F : FnFK X.prog X.w X.K X.mg X.base k x ps W f n ks gD) (hW : A.W = W) (hr : Room k X.A) (hg : Gl X x) (hx : Passes (L2.CX X.prog X.w) X E') (hE : ∀ σ C dd H, E σ C dd H → E' C dd H)
    (ha : VA X A E (e :: es) τl) (hkw : VK X A E kws τk) (hall : (backToKw pos (keywordEach kws X.env)).all (·.1.isSome) = true := by rfl) (hks : (backToKw pos (keywordEach kws X.env)).filterMap (·.1) = ks := by rfl)
    (hdb : (x == ("__debug__" : Str)) = false := by decide) (he : starEach (e :: es) X.env = (false, eval e X.env) :: starEach es X.env := by rfl)
    (hpl : ((backTo pos (starEach (e :: es) X.env)).any (·.1) || (backToKw pos (keywordEach kws X.env)).any (·.1.isNone)) = false := by rfl) :
    VF X A E (.Call (.Name x p) (e :: es) kws pos) (vCallK n ks.length ps.length f gD τl τk) := by
  obtain ⟨g, fd, gg, gV, ok, hm, kp, kb, hg2⟩ := F.ex
  refine ⟨PE.imp (pe_callN ok hr hg hm kp kb hx ha.run hkw.run hall hks hdb he hpl) fun σ H Q h => ?_⟩
  obtain ⟨S, env, Qd, Rd, st, h, hq, hr⟩ := h
  subst hW
  refine ⟨S, env, _, Rd, st, h, fun ds vs H1 f1 r1 q1 => ⟨S, env, _, Rd, st.fx f1, q1, fun zs ws H2 f2 r2 q2 => ?_, fun ex C dd H' f => hr ex C dd H' (f1.trans f)⟩, hr⟩
  have st2 := (st.fx f1).fx f2
  obtain ⟨l1, l2, l3, q2⟩ := q2
  have r3 := hg2 S H2 vs ws ds zs (by rw [r1.length]; exact l1) (by rw [r2.length]; exact l2) (r1.mono ((st.fx f1).mn f2)) r2
  exact ⟨by rw [r1.length]; exact l1, by rw [r2.length]; exact l2, spF_of rfl st2 (by rw [r3.length]; exact l3) r3 q2 (fun d o p H3 f3 hp ro mu q => hq d o p H3 ((f1.trans f2).trans f3) hp ro mu q) fun ex C dd H' f3 xr q => hE σ C dd H' (hr ex C dd H' ((f1.trans f2).trans f3) xr q)⟩
/-- keywords alone -/
theorem vf_fnK0 (F : FnFK X.prog X.w X.K X.mg X.base k x ps W f 0 ks gD) (hW : A.W = W) (hr : Room k X.A) (hg : Gl X x) (hx : Passes (L2.CX X.prog X.w) X E') (hE : ∀ σ C dd H, E σ C dd H → E' C dd H)
    (hkw : VK X A E kws τk) (hall : (backToKw pos (keywordEach kws X.env)).all (·.1.isSome) = true := by rfl) (hks : (backToKw pos (keywordEach kws X.env)).filterMap (·.1) = ks := by rfl)
    (hdb : (x == ("__debug__" : Str)) = false := by decide) (hpl : ((backTo pos (starEach [] X.env)).any (·.1) || (backToKw pos (keywordEach kws X.env)).any (·.1.isNone)) = false := by rfl) :
    VF X A E (.Call (.Name x p) [] kws pos) (vCallK 0 ks.length ps.length f gD vNil τk) := by
  obtain ⟨g, fd, gg, gV, ok, hm, kp, kb, hg2⟩ := F.ex
  have F2 : FnKE X.prog X.w X.K X.mg X.base (L2.CX X.prog X.w) k x ps (spF W ps.length f) ks gV := ⟨g, fd, ok, hm, kp, gg, kb⟩
  refine ⟨PE.imp (fnK F2 hr hg hx hkw.run hall hks hdb hpl) fun σ H Q h => ?_⟩
  obtain ⟨S, env, Qd, Rd, st, h, hq, hr⟩ := h
  subst hW
  refine ⟨S, env, _, Rd, st, h, fun zs ws H2 f2 r2 q2 => ?_, hr⟩
  have st2 := st.fx f2
  obtain ⟨l1, l2, l3, q2⟩ := q2
  have r3 := hg2 S H2 [] ws [] zs rfl (by rw [r2.length]; exact l2) .nil r2
  exact ⟨by rw [r2.length]; exact l2, spF_of rfl st2 (by rw [r3.length]; exact l3) r3 q2 (fun d o p H3 f3 hp ro mu q => hq d o p H3 (f2.trans f3) hp ro mu q) fun ex C dd H' f3 xr q => hE σ C dd H' (hr ex C dd H' (f2.trans f3) xr q)⟩
@[simp] def vCallD (len : Nat) (f : Fd) (dd : List D) (τl : TV (List D)) : TV D := fun env Q R => τl env (fun ds => (ds ++ dd).length = len ∧ f (ds ++ dd) Q R) R
/-- defaults fill up -/
theorem vf_fnD (F : FnFD X.prog X.w X.K X.mg X.base k x ps W f n dvs dd) (hW : A.W = W) (hr : Room k X.A) (hg : Gl X x) (hx : Passes (L2.CX X.prog X.w) X E') (hE : ∀ σ C dd H, E σ C dd H → E' C dd H)
    (ha : VA X A E (e :: es) τl) (hdb : (x == ("__debug__" : Str)) = false := by decide) (he : starEach (e :: es) X.env = (false, eval e X.env) :: starEach es X.env := by rfl) (hpl : (backTo pos (starEach es X.env)).any (·.1) = false := by rfl) :
    VF X A E (.Call (.Name x p) (e :: es) [] pos) (vCallD ps.length f dd τl) := by
  obtain ⟨g, fd, ds0, ok, hm, kp, vd, bd, hg2⟩ := F.ex
  have F2 : FnDE X.prog X.w X.K X.mg X.base (L2.CX X.prog X.w) k x ps (spF W ps.length f) dvs := ⟨g, fd, ok, hm, kp, ds0, vd, bd⟩
  refine ⟨PE.imp (fnD F2 hr hg hx ha.run hdb he hpl) fun σ H Q h => ?_⟩
  obtain ⟨S, env, Qd, Rd, st, h, hq, hr⟩ := h
  subst hW
  refine ⟨S, env, _, Rd, st, h, fun ds vs H1 f1 r1 q1 => ?_, hr⟩
  obtain ⟨l1, q1⟩ := q1
  have r3 := r1.app (hg2 S H1)
  exact spF_of rfl (st.fx f1) (by rw [r3.length]; exact l1) r3 q1 (fun d o p H2 f2 hp ro mu q => hq d o p H2 (f1.trans f2) hp ro mu q) fun ex C dd H' f2 xr q => hE σ C dd H' (hr ex C dd H' (f1.trans f2) xr q)
end
end Bs
namespace K0
open PySem PySem.Spec PyProof.Rows L2 Bs LamX
/-! ### defs that make lambdas, over trees -/
def lq (q : Str) : Str := (q ++ ".<locals>.") ++ "<lambda>"
/-- a def that makes lambdas: its code object c, its table Pt -/
structure Mkr (base : Heap) (mg : Str → Option Value) (TL : List (Addr × Str)) (q : Str) (c Pt : Addr) : Prop where
  tb : TabB base mg c Pt
  mem : (Pt, lq q) ∈ TL
  un : ∀ p ∈ TL, p.1 = Pt → p.2 = lq q
theorem tabs_al {TL : List (Addr × Str)} {H H' : Hp} (t : Tabs TL H) (e : ∀ b o, H b = some o → dataO o = false → H' b = some o) : Tabs TL H' := fun p hp => by
  obtain ⟨ps, h1, h2, h3⟩ := t p hp
  refine ⟨ps, e _ _ h1 rfl, h2, fun pos cv hc => ?_⟩
  obtain ⟨c, e1, e2⟩ := h3 pos cv hc
  exact ⟨c, e1, e _ _ e2 rfl⟩
def amMk (W : Wd) (S : Addr → Prop) (H : Hp) (TL : List (Addr × Str)) : Am where
  W := W
  S0 := S
  H0 := H
  z := fun _ => False
  am := fun H => Tabs TL H
  zs := fun _ h => h.elim
  zd := fun _ _ _ h => h.elim
  al := fun H H' t h => tabs_al t fun b o e n => h b o e (.inl n)
  k := nt
  kd := fun _ n => n
  st := none
theorem mkAm_mk {W : Wd} {S : Addr → Prop} {H : Hp} {TL : List (Addr × Str)} : MkAm (amMk W S H TL) TL where
  k := fun o n ps e => by subst e; exact n
  tb := fun _ h => h
  am' := fun _ _ _ _ t => t
  zc := fun _ _ _ h => h.elim
/-- what such a def is worth -/
def spM (W : Wd) (TL : List (Addr × Str)) (n : Nat) (g : Gd) : Sp := fun vs H Q _ => vs.length = n ∧ Tabs TL H ∧ ∃ S ds Qd, (∀ a, S a → ∃ o, H a = some o ∧ nt o) ∧ RepL W S H vs ds ∧ g ds Qd ∧
  ∀ d x H', ExtN H H' → Tabs TL H' → Rep W S H' x d → Qd d → Q x H'
structure FnM (P : Program) (w : World) (K : PySem.W.Frag) (mg : Str → Option Value) (base : Heap) (k : Nat) (x : Str) (ps : List Str) (W : Wd) (TL : List (Addr × Str)) (f : Gd) : Prop where
  ex : ∃ g fd, Fn P w K mg base CX0 k x ps (spM W TL ps.length f) g fd
  len : ∀ ds Q, f ds Q → ds.length = ps.length
section
variable {P : Program} {w : World} {K : PySem.W.Frag} {mg : Str → Option Value} {base : Heap}
theorem ext_mk {W : Wd} {S : Addr → Prop} {H : Hp} {TL : List (Addr × Str)} {H' : Hp} (b : Bf (amMk W S H TL) H') : ExtN H H' := fun c o e n => b.base c o e (fun z => z) (by
  cases o with
  | tbl ps => exact absurd rfl (n ps)
  | _ => trivial)
theorem FunC.okM {x qual : Str} {st : Stmt} {f c : Addr} {fd : FuncData} {N ps : List Str} {k : Nat} {W : Wd} {TL : List (Addr × Str)} {fv : Gd} (F : FunC K x qual st f fd c) (S : FnScope N ps (defScope st)) (hp : ps.length ≤ N.length)
    (hbody : ∀ (Ar : Around) (outer : List Env) (s : Shared) (H : Hp) (E : XK) (A : Am), A.W = W → MkAm A TL → Room k (Ar.deeper (envOfC qual (defScope st) s.heap.objs.size f (.ref c))) →
      ∃ τ, VSs (cxOf CX0 P w K mg base N qual (defScope st) f (.ref c) Ar outer s H E).nox A EN (defBody st) τ ∧ ∀ ds Q, ds.length = ps.length → fv ds Q → τ { nx := fun _ => Q .non, rt := Q, ex := fun _ => False } (stV N.length ds)) :
    FnOk P w K mg base CX0 (k + 1) f fd ps (spM W TL ps.length fv) :=
  F.ok S (fun vs H Q E h => h.1) fun Ar outer s H vs Q E hr h => by
    obtain ⟨hl, hT, S', ds, Qd, hS, r, hf, hq⟩ := h
    obtain ⟨τ, hv, hi⟩ := hbody Ar outer s H E (amMk W S' H TL) rfl mkAm_mk hr
    have base0 := @st_start W S' H N vs ds hS r (by omega)
    refine ⟨_, hv.run, S', _, _, ?_, hi ds Qd (by rw [← r.length]; exact hl) hf, ?_⟩
    · obtain ⟨q, hs, hap⟩ := base0.sl
      refine ⟨base0.len, ⟨q, fun i e o h1 h2 => ?_, hap⟩, fun _ h => h, hS, fun b o e _ _ => e, hT⟩
      cases hs i e o h1 h2 with
      | no => exact .no
      | sh r => exact .sh r
      | ow w => exact absurd w.s w.n0
      | ot _ _ w => exact absurd w.s w.n0
      | st z => cases z
    · exact ⟨fun S2 env' σ' H' st m q => hq .non .non H' (ext_mk st.bf) st.am .non q, fun _ _ _ _ _ _ q => q.elim, fun _ _ _ _ _ _ q => q.elim, fun d x H' b r q => hq d x H' (ext_mk b) b.am r q, fun ex C dd σ' H' b xr q => q.elim, fun d o p H' b h0 hs hp r mu q => by
        have e : ∀ c u, H' c = some u → upd H' p o c = some u := fun c u e => (upd_ne (ne_of_none e hp)).trans e
        exact hq d _ _ (fun c u eu n => e c u (ext_mk b c u eu n)) (tabs_al b.am fun c u eu _ => e c u eu) (.ob hs upd_same (r.mono fun c u hs eu _ => ⟨hs, u, e c u eu, rfl⟩)) q⟩
end
section
variable {X : Cx} {A : Am} {E : L2.St → XK} {e : Expr} {es : List Expr} {τl : TV (List D)} {pos : Pos} {k : Nat} {ps : List Str} {f : Gd} {x : Str} {p : Pos} {W : Wd} {TL : List (Addr × Str)}
theorem v_fnM (M : MkAm A TL) (F : FnM X.prog X.w X.K X.mg X.base k x ps W TL f) (hW : A.W = W) (hr : Room k X.A) (hg : Gl X x)
    (ha : VA X A E (e :: es) τl) (hdb : (x == ("__debug__" : Str)) = false := by decide) (he : starEach (e :: es) X.env = (false, eval e X.env) :: starEach es X.env := by rfl) (hpl : (backTo pos (starEach es X.env)).any (·.1) = false := by rfl) :
    VE X A E (.Call (.Name x p) (e :: es) [] pos) (vCallN f τl) := by
  obtain ⟨⟨g, fd, F⟩, len⟩ := F
  refine ⟨PE.imp (fn F hr hg pass0 ha.run hdb he hpl) fun σ H Q h => ?_⟩
  obtain ⟨S, env, Qd, Rd, st, h, hq, hrr⟩ := h
  subst hW
  refine ⟨S, env, _, Rd, st, h, fun ds vs H1 f1 r1 q1 => ?_, hrr⟩
  have st1 := st.fx f1
  exact ⟨by rw [r1.length]; exact len _ _ q1, M.tb H1 st1.am, S, ds, Qd, st1.dom, r1, q1, fun d x H' e t r q => hq d x H' (f1.trans (M.fx st1.am e t)) r q⟩
end
theorem lamV {X : Cx} {A : Around} {outer : List Env} {s : Shared} {H : Hp} {E : XK} {scope : Scope} {f c' : Addr} : Passes (L2.CX (lamCx X A outer s H E scope f c').prog (lamCx X A outer s H E scope f c').w) (lamCx X A outer s H E scope f c') E := @lamX X A outer s H E scope f c'
end K0
namespace Bs
open PySem PySem.Spec PyProof.Rows L2 LamX
/-! ### the end: a law's call from the top, its state told whole -/
section
variable {P : Program} {w : World} {K : PySem.W.Frag} {mg mb : Str → Option Value} {fa a : Addr} {cs : List (Addr × Addr)} {s₁ : Shared} {vs : List Value} {ns : List Int}
/-- what is tracked at the top: the tables, and the script's list where K does not hold it -/
def topH (K : PySem.W.Frag) (cs : List (Addr × Addr)) (a : Addr) (vs : List Value) (ns : List Int) : Hp := fun b =>
  if b ∈ cs.map (·.2) then some (.tbl #[]) else if b = a ∧ (K.lookup a).isNone = true then some (.frz { cls := .type "list", data := .seq vs.toArray } (.lst (ns.map V.int))) else none
theorem law_end (KX : K.In s₁.heap) (hns : s₁.heap.Ns mainGlobals mg) (hb : s₁.heap.Ns builtinsNs mb) (hbb : ∀ x : Str, x ≠ "__name__" → mb x = bootBuiltins x) (hlim : s₁.heap.NoLimit) (hg : s₁.gens = #[]) (hms : ∃ mm, s₁.heap.Ns sysModules mm)
    (hT : ∀ p ∈ cs, s₁.heap.get? p.2 = some { cls := .none, data := .fields #[] }) (nT : ∀ p ∈ cs, K.lookup p.2 = none) (C : ∀ p ∈ cs, PySem.W.CodeHd s₁.heap p.1 p.2)
    (hbm : ∃ (bm : Addr) (ob : Obj), mg "__builtins__" = some (.ref bm) ∧ bm ≠ builtinsNs ∧ s₁.heap.get? bm = some ob ∧ ob.cls = .type "module" ∧ ob.dict = some builtinsNs ∧ ob.data = .plain)
    (ha : s₁.heap.get? a = some { cls := .type "list", data := .seq vs.toArray }) (hi : IntsAre vs ns) (hl : ns.length ≤ sizeLine)
    (run : ∀ (base : Heap) (H : Hp), K.In base → base.Ns mainGlobals mg → (∀ p ∈ cs, TabB base mg p.1 p.2) → Env0 P w K mg base callerA [] s₁ H → (∀ p ∈ cs, H p.2 = some (.tbl #[])) → SqL K H a (ns.map V.int) → (∃ o, base.get? sysModules = some o) →
      codeAny (model P w) callerA (.call (.ref fa) ⟨[.ref a], []⟩) (CR CX0 [] P w H s₁ (fun v _ => v = .bl true) E0) s₁) :
    codeAny (model P w) callerA (.call (.ref fa) ⟨[.ref a], []⟩) (fun r s' => r = .ok (.ret (.bool true)) ∧ OldK s₁.heap s'.heap ∧ s'.os = s₁.os ∧ AllBare s'.gens) s₁ := by
  have rv := vals_ints hi
  have nv := hi.length
  have tabAt : ∀ b ∈ cs.map (·.2), s₁.heap.get? b = some { cls := .none, data := .fields #[] } := fun b m => by
    obtain ⟨p, pm, rfl⟩ := List.mem_map.mp m
    exact hT p pm
  have inT : ∀ p ∈ cs, p.2 ∈ cs.map (·.2) := fun p pm => List.mem_map_of_mem pm
  have naT : a ∉ cs.map (·.2) := fun m => by
    have q := ha.symm.trans (tabAt a m)
    injection q with q
    injection q with _ _ q _
    cases q
  -- the places of the tracked
  have onT : ∀ b ∈ cs.map (·.2), topH K cs a vs ns b = some (.tbl #[]) := fun b m => if_pos m
  have onA : (K.lookup a).isNone = true → topH K cs a vs ns a = some (.frz { cls := .type "list", data := .seq vs.toArray } (.lst (ns.map V.int))) := fun k => (if_neg naT).trans (if_pos ⟨rfl, k⟩)
  have offs : ∀ b u, topH K cs a vs ns b = some u → (b ∈ cs.map (·.2) ∧ u = .tbl #[]) ∨ (b = a ∧ (K.lookup a).isNone = true ∧ u = .frz { cls := .type "list", data := .seq vs.toArray } (.lst (ns.map V.int))) := fun b u e => by
    unfold topH at e
    split at e
    · rename_i m; exact .inl ⟨m, (Option.some.inj e).symm⟩
    · split at e
      · rename_i m; exact .inr ⟨m.1, m.2, (Option.some.inj e).symm⟩
      · cases e
  generalize topH K cs a vs ns = H at onT onA offs
  have hTb : ∀ p ∈ cs, H p.2 = some (.tbl #[]) := fun p pm => onT _ (inT p pm)
  have hsq : SqL K H a (ns.map V.int) := by
    cases k : K.lookup a with
    | none => exact .inl (.inr ⟨_, onA (by rw [k]; rfl)⟩)
    | some o =>
      have q := KX a o k
      rw [ha] at q
      injection q with q
      subst q
      exact .inr ⟨_, vs.toArray, _, k, rfl, rfl, rfl, by rw [List.size_toArray, nv]; exact hl, by simpa using rv⟩
  have hok : HOk P w H s₁.heap := fun b u e => by
    rcases offs b u e with ⟨m, rfl⟩ | ⟨rfl, _, rfl⟩
    · exact tabAt b m
    · exact ⟨ha, by rw [List.length_map]; exact hl, vs, _, rv, ha⟩
  have free : ∀ b o, s₁.heap.get? b = some o → (∀ xs n, o.data ≠ .seq xs n) → o.data ≠ .fields #[] → H b = none := fun b o e n1 n2 => by
    cases q : H b with
    | none => rfl
    | some u =>
      rcases offs b u q with ⟨m, _⟩ | ⟨rfl, _, _⟩
      · have x := e.symm.trans (tabAt b m)
        injection x with x
        exact absurd (by rw [x]) n2
      · have x := e.symm.trans ha
        injection x with x
        exact absurd (by rw [x]) (n1 vs.toArray 0)
  have into : ∀ b o, s₁.heap.get? b = some o → H b = none → (hidT s₁.heap H).get? b = some o := fun b o e n => hidT_get e n
  have nsB : ∀ b (m : Str → Option Value), s₁.heap.Ns b m → (hidT s₁.heap H).Ns b m := fun b m ⟨o, es, ep, e, d, r⟩ => ⟨o, es, ep, into b o e (free b o e (fun xs n z => by rw [d] at z; cases z) fun z => by rw [d] at z; cases z), d, r⟩
  have kB : K.In (hidT s₁.heap H) := fun b o e => into b o (KX b o e) (by
    cases q : H b with
    | none => rfl
    | some u =>
      rcases offs b u q with ⟨m, _⟩ | ⟨rfl, k, _⟩
      · obtain ⟨p, pm, rfl⟩ := List.mem_map.mp m
        rw [nT p pm] at e
        cases e
      · rw [e] at k
        cases k)
  have modB : L2.Mod K mg (hidT s₁.heap H) := ⟨kB, nsB _ _ hns, ⟨mb, nsB _ _ hb, hbb⟩, (let ⟨mc, h1, h2⟩ := hlim; ⟨mc, nsB _ _ h1, h2⟩)⟩
  have tabB : ∀ p ∈ cs, TabB (hidT s₁.heap H) mg p.1 p.2 := fun p pm => by
    have here := hT p pm
    refine ⟨?_, ?_, fun z => ?_⟩
    · obtain ⟨o, us, file, tf, flags, tg, inF, text, tt, e1, r1, r2, r3, r4, r5, r6, r7, r8, hne⟩ := C p pm
      refine ⟨o, us, file, tf, flags, tg, inF, text, tt, into _ o e1 (free _ o e1 (fun xs n z => by rw [r2] at z; cases z) fun z => ?_), r1, r2, r3, r4, r5, r6, r7, r8, hne⟩
      rw [r2] at z
      cases z
      simp at r3
    · obtain ⟨bm, ob, b1, b2, b3, b4, b5, b6⟩ := hbm
      refine ⟨bm, ob, b1, b2, fun q => ?_, fun q => ?_, into bm ob b3 (free bm ob b3 (fun xs n z => by rw [b6] at z; cases z) fun z => by rw [b6] at z; cases z), b4, b5, b6⟩
      · obtain ⟨o, es, ep, e, d, _⟩ := hns
        rw [q, e] at b3
        cases b3
        rw [d] at b6
        cases b6
      · rw [q, here] at b3
        cases b3
        cases b6
    · obtain ⟨o, es, ep, e, d, _⟩ := hns
      rw [z, here] at e
      cases e
      cases d
  have env : Env0 P w K mg (hidT s₁.heap H) callerA [] s₁ H := ⟨rfl, modB, fun b o e => of_hidT e, Nat.le_of_eq (hidT_size _ _), trivial, (fun b m => absurd (show b ∈ ([] : List Addr) from m) (by simp)), hok, .of_eq hg⟩
  have sysB : ∃ o, (hidT s₁.heap H).get? sysModules = some o := by
    obtain ⟨mm, hm⟩ := hms
    obtain ⟨o, es, ep, e, _⟩ := nsB _ _ hm
    exact ⟨o, e⟩
  refine codeAny_mono (run _ H kB (nsB _ _ hns) tabB env hTb hsq sysB) fun r s' h => ?_
  cases r with
  | error e => exact (show False from h).elim
  | ok fl =>
    cases fl with
    | next => exact False.elim h
    | brk => exact False.elim h
    | cont => exact False.elim h
    | ret u =>
      obtain ⟨v, H', os, bare, un, hok', rel, rfl⟩ := h
      obtain rfl : u = Value.bool true := rel
      have old : ∀ b o, b ∉ cs.map (·.2) → s₁.heap.get? b = some o → s'.heap.get? b = some o := fun b o nb e => by
        cases q : H b with
        | none => exact un.keep b o e q (fun z => absurd (show b ∈ ([] : List Addr) from z) (by simp)) (by simp)
        | some u =>
          rcases offs b u q with ⟨m, _⟩ | ⟨rfl, _, rfl⟩
          · exact absurd m nb
          · obtain ⟨e2, _⟩ := hok' b _ (un.frzs b _ _ q)
            rw [ha] at e
            cases e
            exact e2
      have grown : ∀ p ∈ cs, ∃ more : Array Value, s'.heap.get? p.2 = some { cls := .none, data := .fields more } := fun p pm => by
        obtain ⟨more, z⟩ := un.tbls p.2 #[] (hTb p pm)
        exact ⟨_, hok' p.2 _ z⟩
      refine ⟨rfl, ⟨fun b o e => ?_, fun b o e => ?_⟩, os, bare⟩
      · by_cases m : b ∈ cs.map (·.2)
        · obtain ⟨p, pm, rfl⟩ := List.mem_map.mp m
          obtain ⟨more, hm⟩ := grown p pm
          rw [hT p pm] at e
          cases e
          exact .inr (.inl ⟨((C p pm).tab (hT p pm)).isCodeTable, rfl, #[], more, rfl, by rw [Array.empty_append]; exact hm⟩)
        · exact .inl (old b o m e)
      · by_cases m : b ∈ cs.map (·.2)
        · obtain ⟨p, pm, rfl⟩ := List.mem_map.mp m
          obtain ⟨more, hm⟩ := grown p pm
          exact ⟨_, hm⟩
        · exact ⟨o, old b o m e⟩
end
end Bs
namespace Bs
open PySem PySem.Spec PyProof.Rows L2 LamX
/-- from the law's run at callerA to the row's walk -/
theorem walk {l : PySem.W.OpenLaw} {q : Program} {loose : List Str} {XP : (Str → Option Value) → Heap → Prop} {YP : World → Heap → Prop} {d : DefRec} {K : Params → PySem.W.Frag} (hn : l.most = some 63) (hdf : d.params.defaults = []) (hnm : d.name = "law") (him : importsNone q = true) (hY : ∀ (w : World) (h : Heap), YP w h → (K w.params).In h)
    (F : ∀ (w : World) (mg : Str → Option Value) (h : Heap), YP w h → h.Ns mainGlobals mg → ∃ cs : List (Addr × Addr), (K w.params).In h ∧ (∀ p ∈ cs, h.get? p.2 = some { cls := .none, data := .fields #[] }) ∧ (∀ p ∈ cs, (K w.params).lookup p.2 = none) ∧ (∀ p ∈ cs, PySem.W.CodeHd h p.1 p.2) ∧
      ∀ (fa : Addr), mg "law" = some (.ref fa) → ∀ (base : Heap) (s₁ : Shared) (H : Hp) (a : Addr) (ns : List Int), (∀ p ∈ cs, TabB base mg p.1 p.2) → Env0 l.prog w (K w.params) mg base callerA [] s₁ H → (∀ p ∈ cs, H p.2 = some (.tbl #[])) → SqL (K w.params) H a (ns.map V.int) → ns.length ≤ 63 → (∃ o, base.get? sysModules = some o) → codeAny (model l.prog w) callerA (.call (.ref fa) ⟨[.ref a], []⟩) (CR CX0 [] l.prog w H s₁ (fun v _ => v = .bl true) E0) s₁) : PySem.W.WalkO q loose XP YP l.row.toRowW d [] (fun f vs => PySem.call f vs) := by
  refine Att.attach_callB hn hdf fun w s₀ s₁ mg mb fa o pm cd doc a vs ns G Y ho hd hcd hmg hobj hints hlen hbits hg => ?_
  obtain ⟨cs, KX, hT, nT, C, run⟩ := F w mg _ Y G.T.g
  rw [hnm] at hmg
  obtain ⟨mm, hm, _⟩ := (G.T.seer him).mods
  exact law_end KX G.T.g G.T.b G.T.builtins G.T.nolimit hg ⟨mm, hm⟩ hT nT C G.T.bmain hobj hints (Nat.le_trans hlen (by decide)) fun base H _ _ tb e0 ht hs sy => run fa hmg base s₁ H a ns tb e0 ht hs hlen sy
theorem fin {P : Program} {w : World} {K : PySem.W.Frag} {mg : Str → Option Value} {h : Heap} {cs : List (Addr × Addr)} (KX : K.In h)
    (main : ∀ (fa : Addr), mg "law" = some (.ref fa) → ∀ (base : Heap) (s₁ : Shared) (H : Hp) (a : Addr) (ns : List Int), (∀ p ∈ cs, TabB base mg p.1 p.2) → (cs.map (·.2)).Nodup → Env0 P w K mg base callerA [] s₁ H → (∀ p ∈ cs, H p.2 = some (.tbl #[])) → SqL K H a (ns.map V.int) → ns.length ≤ 63 → (∃ o, base.get? sysModules = some o) → codeAny (model P w) callerA (.call (.ref fa) ⟨[.ref a], []⟩) (CR CX0 [] P w H s₁ (fun v _ => v = .bl true) E0) s₁)
    (hT : ∀ p ∈ cs, h.get? p.2 = some { cls := .none, data := .fields #[] }) (nT : ∀ p ∈ cs, K.lookup p.2 = none) (C : ∀ p ∈ cs, PySem.W.CodeHd h p.1 p.2) (nd : (cs.map (·.2)).Nodup) :
    ∃ cs : List (Addr × Addr), K.In h ∧ (∀ p ∈ cs, h.get? p.2 = some { cls := .none, data := .fields #[] }) ∧ (∀ p ∈ cs, K.lookup p.2 = none) ∧ (∀ p ∈ cs, PySem.W.CodeHd h p.1 p.2) ∧
      ∀ (fa : Addr), mg "law" = some (.ref fa) → ∀ (base : Heap) (s₁ : Shared) (H : Hp) (a : Addr) (ns : List Int), (∀ p ∈ cs, TabB base mg p.1 p.2) → Env0 P w K mg base callerA [] s₁ H → (∀ p ∈ cs, H p.2 = some (.tbl #[])) → SqL K H a (ns.map V.int) → ns.length ≤ 63 → (∃ o, base.get? sysModules = some o) → codeAny (model P w) callerA (.call (.ref fa) ⟨[.ref a], []⟩) (CR CX0 [] P w H s₁ (fun v _ => v = .bl true) E0) s₁ :=
  ⟨cs, KX, hT, nT, C, fun fa hfa base s₁ H a ns tb e0 ht hs hl => main fa hfa base s₁ H a ns tb nd e0 ht hs hl⟩
end Bs
namespace K0
open PySem PySem.Spec PyProof.Rows L2 Bs LamX
/-! ### the law's own body: its first statement makes the store -/
theorem tabs_grow {TL : List (Addr × Str)} {H H' : Hp} {a c : Addr} (S : StAt H a c) (t : Tabs TL H) (g : Grow a H H') : Tabs TL H' := fun p hp => by
  obtain ⟨xs, ea⟩ := S.lst
  obtain ⟨ps, h1, h2, h3⟩ := t p hp
  refine ⟨ps, g _ _ (fun z => by rw [z, ea] at h1; cases h1) h1, h2, fun pos cv hc => ?_⟩
  obtain ⟨c2, e1, e2⟩ := h3 pos cv hc
  refine ⟨c2, e1, g _ _ (fun z => ?_) e2⟩
  rw [z, ea] at e2
  injection e2 with e2
  unfold CodeO at e2
  cases e2
def amLw (W : Wd) (H : Hp) (a c : Addr) (TL : List (Addr × Str)) : Am where
  W := W
  S0 := fun b => b = a ∨ b = c
  H0 := H
  z := fun b => b = a
  am := fun H => StAt H a c ∧ Tabs TL H
  zs := fun b h => .inl h
  zd := fun H b s h => by
    obtain ⟨⟨cells, p, w, x, n, t, sd, s⟩, _⟩ := s
    subst h
    exact ⟨_, s.at_, trivial⟩
  al := fun H H' s h => by
    obtain ⟨⟨cells, p, w, x, n, t, sd, s⟩, tt⟩ := s
    exact ⟨⟨cells, p, w, x, n, t, sd, h _ _ s.at_ (.inr (.inl rfl)), h _ _ s.cl (.inr (.inr rfl)), s.ne, s.pp⟩, tabs_al tt fun b o e n => h b o e (.inl n)⟩
  k := nt
  kd := fun _ n => n
  st := some a
theorem stAm_lw {W : Wd} {H : Hp} {a c : Addr} {TL : List (Addr × Str)} : StAm (amLw W H a c TL) a c := ⟨rfl, rfl, .inl rfl, .inr rfl, fun _ h => h.1, fun _ _ h g s => ⟨s, tabs_grow h.1 h.2 g⟩⟩
theorem mkAm_lw {W : Wd} {H : Hp} {a c : Addr} {TL : List (Addr × Str)} : MkAm (amLw W H a c TL) TL where
  k := fun o n ps e => by subst e; exact n
  tb := fun _ h => h.2
  am' := fun H H' h e t => by
    obtain ⟨⟨cells, p, w, x, n, t0, sd, s⟩, _⟩ := h
    exact ⟨⟨cells, p, w, x, n, t0, sd, e _ _ s.at_ (fun _ z => by cases z), e _ _ s.cl (fun _ z => by cases z), s.ne, s.pp⟩, t⟩
  zc := fun H b h z q q2 e => by
    obtain ⟨⟨cells, p, w, x, n, t0, sd, s⟩, _⟩ := h
    subst z
    rw [s.at_] at e
    injection e with e
    unfold CodeO at e
    cases e
/-- draws and lambdas -/
structure DmAm (A : Am) (a c : Addr) (TL : List (Addr × Str)) : Prop where
  s : StAm A a c
  m : MkAm A TL
  am' : ∀ H H', A.am H → (∀ b o, b ≠ a → nt o → H b = some o → H' b = some o) → StAt H' a c → Tabs TL H' → A.am H'
section
variable {P : Program} {w : World} {K : PySem.W.Frag} {mg : Str → Option Value} {base : Heap}
/-- a law whose first statement is store = _law_store(script), the rest walked over trees -/
theorem run_lawV {st : Stmt} {N : List Str} {n k : Nat} {W : Wd} {fa a : Addr} {fd : FuncData} {s₁ : Shared} {H : Hp} {TL : List (Addr × Str)} {ns : List Int} {rest : List Stmt} {p1 p2 p3 p4 p5 : Pos} (hN : N = ("script" : Str) :: ("store" : Str) :: N.drop 2) (hn : N.length = n + 2)
    (hbody : defBody st = .Assign [.Name "store" p1] (.Call (.Name "_law_store" p2) [.Name "script" p3] [] p4) p5 :: rest) (sc : FnScope N ["script"] (defScope st)) (room : Room (k + 1) callerA) (hk : 2 ≤ k)
    (h1 : (defScope st).names.lookup ("store" : Str) = some .local ∨ (defScope st).names.lookup ("store" : Str) = some .cell) (h2 : Vis (defScope st) "script") (h3 : Gl (cxOf CX0 P w K mg base N "law" (defScope st) fa .none callerA [] s₁ H E0).nox "_law_store")
    (F : Fun K "law" "law" st fa fd) (hb : BindsTo s₁ fd ⟨[.ref a], []⟩ [("script", .ref a)]) (e0 : Env0 P w K mg base callerA [] s₁ H) (hT : ∀ p ∈ TL, H p.1 = some (.tbl #[]))
    (hS : SqL K H a (ns.map V.int)) (hl : ns.length ≤ 63) (G_store : FnE P w K mg base CX0 2 "_law_store" ["script"] (spStore K))
    (hrest : ∀ (cdv : Value) (A : Am) (ast cst : Addr), A.W = W → StAm A ast cst → MkAm A TL → DmAm A ast cst TL → Room k (callerA.deeper (envOfC "law" (defScope st) s₁.heap.objs.size fa cdv)) → (callerA.deeper (envOfC "law" (defScope st) s₁.heap.objs.size fa cdv)).guards = some [] →
      ∃ τ, VSs (cxOf CX0 P w K mg base N "law" (defScope st) fa cdv callerA [] s₁ H E0).nox A EN rest τ ∧ ∀ Q : D → Prop, Q (.bl true) → τ { nx := fun _ => Q .non, rt := Q, ex := fun _ => False } (.no :: .st :: List.replicate n .no)) :
    codeAny (model P w) callerA (.call (.ref fa) ⟨[.ref a], []⟩) (CR CX0 [] P w H s₁ (fun v _ => v = .bl true) E0) s₁ := by
  obtain ⟨_, _, G_store⟩ := G_store
  obtain ⟨oc, od, kV, doc, pm, an, cdv, ct, osl, rfl, lk, hcd⟩ := F.ex
  refine run_ofS (k := k) (N := N) (ps := ["script"]) (us := [.ref a]) (vs := [.ref a]) lk hcd sc room e0 hb (.cons rfl .nil) rfl fun hr => ?_
  have hi0 : N[0]? = some ("script" : Str) := by rw [hN]; rfl
  have hi1 : N[1]? = some ("store" : Str) := by rw [hN]; rfl
  have tail : PSs (cxOf CX0 P w K mg base N "law" (defScope st) fa cdv callerA [] s₁ H E0).nox rest (fun De σ H' => ∃ (A : Am) (ast cst : Addr) (τ : VTS), A.W = W ∧ StAm A ast cst ∧ MkAm A TL ∧ VSs (cxOf CX0 P w K mg base N "law" (defScope st) fa cdv callerA [] s₁ H E0).nox A EN rest τ ∧ LS A EN τ De σ H') :=
    ⟨fun pins s σ H D I h => by
      obtain ⟨A, ast, cst, τ, _, _, _, v, q⟩ := h
      exact v.run.run pins s σ H D I q⟩
  have key : ∃ t, PSs (cxOf CX0 P w K mg base N "law" (defScope st) fa cdv callerA [] s₁ H E0).nox (defBody st) t ∧ t { nx := fun _ _ => V.non = .bl true, rt := fun v _ => v = .bl true } (L2.start N [.ref a]) H := by
    rw [hbody]
    refine ⟨_, pss_cons (ps_set (i := 1) sc.nd hi1 h1 (fn G_store (hr.mono hk) h3 pass0 (pa_cons (nm 0 hi0 h2) pa_nil))) tail, ?_⟩
    have s0 : (L2.start N [V.ref a])[0]? = some (some (.ref a)) := rfl
    have ls : (L2.start N [V.ref a]).length = n + 2 := by unfold L2.start; simp; omega
    show match (L2.start N [V.ref a])[0]? with | some (some v) => _ | _ => False
    rw [s0]
    refine ⟨a, ns, rfl, hS, hl, fun ast cst H1 f1 f2 s1 S1 => ?_⟩
    have t0 : Tabs TL H := fun p hp => TabS.nil (hT p hp)
    have t1 : Tabs TL H1 := fun p hp => (t0 p hp).ext s1
    obtain ⟨τ, hv, hi⟩ := hrest cdv (amLw W H1 ast cst TL) ast cst rfl stAm_lw mkAm_lw ⟨stAm_lw, mkAm_lw, fun _ _ _ _ s t => ⟨s, t⟩⟩ hr rfl
    refine ⟨amLw W H1 ast cst TL, ast, cst, τ, rfl, stAm_lw, mkAm_lw, hv, fun b => b = ast ∨ b = cst, _, _, ?_, hi (fun d => d = .bl true) rfl, ?_⟩
    · refine ⟨by simp [ls], ⟨fun _ => 0, fun i e o h1 h2 => ?_, fun i j e e' hn h1 h2 o1 o2 => ?_⟩, fun _ h => h, fun b h => ?_, fun b o e _ _ => e, S1, t1⟩
      · match i with
        | 0 => cases h1; exact .no
        | 1 =>
          cases h1
          rw [List.getElem?_set_self (by omega)] at h2
          cases h2
          exact .st rfl
        | i + 2 =>
          simp only [List.getElem?_cons_succ, List.getElem?_replicate] at h1
          split at h1
          · cases h1; exact .no
          · cases h1
      · exfalso
        match i with
        | 0 => cases h1; cases o1
        | 1 => cases h1; cases o1
        | i + 2 =>
          simp only [List.getElem?_cons_succ, List.getElem?_replicate] at h1
          split at h1
          · cases h1; cases o1
          · cases h1
      · rcases h with rfl | rfl
        · obtain ⟨xs, e⟩ := S1.lst
          exact ⟨_, e, trivial⟩
        · obtain ⟨xs, e⟩ := S1.cst
          exact ⟨_, e, trivial⟩
    · exact ⟨fun _ _ _ _ _ _ q => (by cases q), fun _ _ _ _ _ _ q => q.elim, fun _ _ _ _ _ _ q => q.elim, fun d x H' b r q => (by subst q; cases r with | bl => rfl | ob _ _ r => cases r | fz _ _ r => cases r), fun ex C dd σ' H' b xr q => q.elim, fun d o p H' b h0 hs hp r mu q => (by subst q; cases r)⟩
  obtain ⟨t, ht, hq⟩ := key
  exact ⟨t, ht.nox, hq⟩
/-- of two places with one table's place one name -/
theorem tl_un {TL : List (Addr × Str)} (hnd : (TL.map (·.1)).Nodup) {p : Addr × Str} (hp : p ∈ TL) : ∀ q ∈ TL, q.1 = p.1 → q.2 = p.2 := by
  induction TL with
  | nil => cases hp
  | cons t TL ih =>
    rw [List.map_cons, List.nodup_cons] at hnd
    intro q hq e
    rcases List.mem_cons.mp hp with e1 | hp
    · rcases List.mem_cons.mp hq with e2 | hq
      · rw [e1, e2]
      · exact absurd (by rw [← e1, ← e]; exact List.mem_map_of_mem hq) hnd.1
    · rcases List.mem_cons.mp hq with e2 | hq
      · exact absurd (by rw [← e2, e]; exact List.mem_map_of_mem hp) hnd.1
      · exact ih hnd.2 hp q hq e
end
end K0
/-! An exception that leaves a list comprehension from its element or its test. -/
namespace Bs
open PySem PySem.Spec PyProof.Rows L2
/-! ### the comprehension as a whole: what the error's way asks, told of this frame alone -/
/-- what is asked of an error that leaves the block with the locals at C -/
def OutE (M : Model) (A : Around) (E : Value → Shared → Prop) (fr : Option Addr) (C : Addr) (x : Value) (s' : Shared) : Prop :=
  ∃ m, s'.heap.Ns C m ∧ ∀ h', Heap.SameBut C s'.heap h' → ∀ g : Env, g.frame = fr → wpAny M A (passOn "comprehension.variables-let-go" x g : Sem Value) (fun _ _ => False) E { s' with heap := h' }
def EndE (M : Model) (A : Around) (E : Value → Shared → Prop) (use : Option (Value → Sem Unit)) (Q : Value → Shared → Prop) (acc : Value) (fr : Option Addr) (C : Addr) (r : Result) (s' : Shared) : Prop :=
  match r with
  | .ok f => compPost M A E use Q acc C (.ok f) s'
  | .error x => OutE M A E fr C x s'
theorem comp_outE {M : Model} {A : Around} {E : Value → Shared → Prop} {s : Shared} {env : Env} {ce : Expr} {sc : Scope} {p : Pos} {mk fi : Sem Value} {c : Comprehension} {cs : List Comprehension} {clo : List (Str × Addr)} {use : Option (Value → Sem Unit)} {Q : Value → Shared → Prop}
    (h1 : clausesOf ce = c :: cs) (h2 : ∀ x, foldedSetIterable c.iter env x = pure x) (h3 : closureFor sc env = pure clo) (h4 : sc.kind = .function) (h5 : ∀ y ∈ sc.names, y.2 = .local → sc.names.lookup y.1 = some .local)
    (h : wpAny M A fi (fun x s₁ => wpAny M A (pyIter x) (fun it s₂ => wpAny M A mk (fun acc s₃ => wpAny M A (newFunctionEnv sc env.globals clo [] env.qual none .none (some env)) (fun g s₄ =>
      g.frame = env.frame ∧ codeAny M A (.compStart ce 0 it acc { g with scope := relabel sc env }) (EndE M A E use Q acc env.frame g.locals) s₄) E s₃) E s₂) E s₁) E s) : wpAny M A (comprehension ce sc env p mk false fi use) Q E s := by
  unfold comprehension
  rw [h3, h1]
  refine wpAny_bind (wpAny_mono h (fun x s₁ k₁ => wpAny_bind (wpAny_standAt (wpAny_bind (wpAny_of_eq (h2 x) (wpAny_bind (wpAny_holding (wpAny_mono k₁ (fun it s₂ k₂ => ?_) fun _ _ z => z))))))) fun _ _ z => z)
  refine wpAny_standIf (wpAny_bind (wpAny_mono k₂ (fun acc s₃ k₃ => wpAny_bind (wpAny_pure (wpAny_bind (wpAny_mono k₃ (fun g s₄ k₄ => ?_) fun _ _ z => z)))) fun _ _ z => z))
  obtain ⟨fe, k₄⟩ := k₄
  dsimp only
  have v1 : ∀ y ∈ (sc.names.filter fun y => (y.2 == .local || y.2 == .cell) && y.1 != (".0" : Str)).reverse, y.2 = .local → Env.kindOf { g with scope := relabel sc env } y.1 = some .local := fun y hy hl => lookup_relabel_local (h5 y (List.mem_filter.mp (List.mem_reverse.mp hy)).1 hl)
  have v2 : ∀ y ∈ (sc.names.filter fun y => (y.2 == .local || y.2 == .cell) && y.1 != (".0" : Str)).reverse.drop 1 ++ (sc.names.filter fun y => (y.2 == .local || y.2 == .cell) && y.1 != (".0" : Str)).reverse.take 1, y.2 = .local → Env.kindOf { g with scope := relabel sc env } y.1 = some .local := fun y hy hl =>
    (List.mem_append.mp hy).elim (fun k => v1 y (List.mem_of_mem_drop k) hl) fun k => v1 y (List.mem_of_mem_take k) hl
  refine wpAny_holding (wpAny_bind (wpAny_attempt (wpAny_holding (wpAny_run (codeAny_mono k₄ fun r s' hr => ?_)))))
  cases r with
  | error x =>
    obtain ⟨m, hn, hr⟩ := (show OutE M A E env.frame g.locals x s' from hr)
    exact wpAny_bind (wpAny_holding (wpAny_comp_letGo (cenv := { g with scope := relabel sc env }) h4 _ s' m v1 hn fun h' m' _ hs' => wpAny_mono (hr h' hs' { g with scope := relabel sc env } fe) (fun _ _ f => f.elim) fun _ _ y => y))
  | ok f =>
    cases use with
    | none =>
      obtain ⟨m, hn, hr⟩ := hr
      exact wpAny_bind (wpAny_holding (wpAny_comp_letGo (cenv := { g with scope := relabel sc env }) h4 _ s' m v1 hn fun h' m' _ hs' => wpAny_pure (hr h' hs')))
    | some u =>
      refine wpAny_bind (wpAny_rule (wpAny_bind (wpAny_holding (wpAny_mono hr (fun _ s'' hr' => ?_) fun _ _ z => z))))
      obtain ⟨m, hn, hr'⟩ := hr'
      exact wpAny_bind (wpAny_comp_letGo (cenv := { g with scope := relabel sc env }) h4 _ s'' m v2 hn fun h' m' _ hs' => wpAny_pure (hr' h' hs'))
/-! ### an exception of a call within the block is in the outer frame's air -/
section
variable {X : Cx} {pins : List (Addr × Obj)} {σ : L2.St} {H : Hp} {s s' : Shared} {W : WX} {E : XK}
theorem XE.block (I : Inv X pins σ H s) (hs : X.stack = X.env :: X.outer) (hf : X.env.frame = some X.env.locals) (hW : ∀ cls d H', E cls d H' → W cls d σ H') {C : Addr} (fC : FpOk X pins H C) (hC : ∃ m, s.heap.Ns C m) (tk : Takes X W) {g : Env} (hg : g.frame = X.env.frame) {u : Value}
    (c : CX X.prog X.w X.stack H s E u s') : notedBy (model X.prog X.w) X.A g (fun x s'' => OutE (model X.prog X.w) X.A X.xe X.env.frame C x s'') u s' := by
  obtain ⟨a, B, H', cls, d, rfl, fl, hok, ub, na, os, ag, hE⟩ := c
  obtain ⟨f0, f1, f2, f3, f4, f5⟩ := fC
  have nstk : C ∉ frs X.stack := fun hm => by
    rw [hs] at hm
    obtain ⟨e, he, q⟩ := List.mem_filterMap.mp hm
    rcases List.mem_cons.mp he with rfl | he
    · rw [hf] at q; cases q; exact f1 rfl
    · exact f2 (List.mem_filterMap.mpr ⟨e, he, q⟩)
  obtain ⟨m, oC, esC, epC, eC, nsC⟩ := hC
  have bC : B.get? C = some oC := ub.keep C oC eC f0 nstk
  have hfr : X.A.frames = some (X.env :: X.outer) := by rw [I.ok.frames, hs]
  show wpAny _ _ (noteFrame (.ref a) g) _ _ _
  have en : noteFrame (.ref a) g = noteFrame (.ref a) X.env := by unfold noteFrame PySem.frameOf; rw [hg]
  rw [en]
  have fl' := fl
  rw [hs] at fl'
  refine HandSPX.looks_onZ Zc.steady hfr hf fl' fun h2 hh up => ?_
  refine ⟨m, ⟨oC, esC, epC, hh.1 C oC bC, nsC⟩, fun h3 sb g2 hg2 => ?_⟩
  have nBa : B.get? a = none := fl.2.1
  have aC : a ≠ C := fun z => by rw [z, bC] at nBa; cases nBa
  -- the ground, C as it is now
  obtain ⟨B2, b1, b2⟩ := restrict h3 fun b => (B.get? b).isSome
  have B2n : ∀ b, B.get? b = none → B2.get? b = none := fun b e => b2 b (by simp [e])
  have B2s : ∀ b o, B.get? b = some o → b ≠ C → B2.get? b = some o := fun b o e n => by
    rw [b1 b (by simp [e]), sb.2 b n]
    exact hh.1 b o e
  have st2 : B2.StaysIn h3 := fun b o e => by
    cases q : (B.get? b).isSome with
    | true => rw [b1 b q] at e; exact e
    | false => rw [b2 b q] at e; cases e
  obtain ⟨_, _, ff, oe, vs, T, oT, ts, t1, t2, t3, t4, t5, t6, t7, t8, t9⟩ := hh
  have TC : T ≠ C := fun z => by rw [z, bC] at t5; cases t5
  have ff3 : h3.FunFrames B2 (X.env :: X.outer) := by
    have key : ∀ {l : List Env}, (∀ b ∈ frs l, b ≠ C) → h2.FunFrames B l → h3.FunFrames B2 l := by
      intro l
      induction l with
      | nil => intro _ _; trivial
      | cons e l ih =>
        intro hn ⟨hk, ⟨L, o, q1, q2, q3, q4⟩, hr⟩
        have hL : L ∈ frs (e :: l) := List.mem_filterMap.mpr ⟨e, List.mem_cons_self, q1⟩
        exact ⟨hk, ⟨L, o, q1, B2n L q2, (sb.2 L (hn L hL)).trans q3, q4⟩, ih (fun b hb => hn b (by
          obtain ⟨e', he', q⟩ := List.mem_filterMap.mp hb
          exact List.mem_filterMap.mpr ⟨e', List.mem_cons_of_mem _ he', q⟩)) hr⟩
    exact key (fun b hb z => nstk (by rw [hs, ← z]; exact hb)) ff
  have hh3 : HandSPX.HeldZ B2 (X.env :: X.outer) a (Zc cls d) X.env.locals h3 := ⟨st2, B2n a nBa, ff3, oe, vs, T, oT, ts, (sb.2 a aC).trans t1, t2, t3, t4, B2n T t5, t6, (sb.2 T TC).trans t7, t8, t9⟩
  unfold PySem.passOn
  refine wpAny_bind (wpAny_field ((sb.2 a aC).trans t1) t3 t4 ?_)
  have e1 : (Value.ref T == Value.none) = false := rfl
  rw [e1]
  simp only [Bool.false_eq_true, if_false]
  refine wpAny_bind ?_
  rw [hg2, hf]
  refine HandSPX.setFlight_onZ hh3 fun h4 hh4 up4 => wpAny_throw ?_
  refine tk _ _ ?_
  -- the state without the exception
  obtain ⟨G, g1, g2'⟩ := restrict h4 fun b => (B2.get? b).isSome || decide (b ∈ frs X.stack)
  have gB : ∀ b o, B2.get? b = some o → G.get? b = some o := fun b o e => by
    rw [g1 b (by simp [e])]
    exact hh4.1 b o e
  have gF : ∀ b, b ∈ frs X.stack → G.get? b = h4.get? b := fun b hb => g1 b (by simp [hb])
  have og : ∀ b o, G.get? b = some o → h4.get? b = some o ∧ ((B2.get? b).isSome = true ∨ b ∈ frs X.stack) := fun b o e => by
    cases q : ((B2.get? b).isSome || decide (b ∈ frs X.stack)) with
    | false => rw [g2' b q] at e; cases e
    | true =>
      rw [g1 b q] at e
      exact ⟨e, by simpa [Bool.or_eq_true] using q⟩
  have slot : ∀ b o, s.heap.get? b = some o → b ∈ frs X.stack → ∃ sl, G.get? b = some { o with slots := sl } := fun b o e hb => by
    obtain ⟨sl, q⟩ := ub.slot b o e hb
    have nd : ∀ o' : Obj, o'.data = o.data → ∀ vs, o'.data ≠ .fields vs := by
      obtain ⟨_, o2, e2, hd2⟩ := I.stack.mem hb
      rw [e] at e2; cases e2
      exact fun o' z vs => by rw [z]; exact hd2 vs
    obtain ⟨sl2, q2⟩ := up b _ q (nd _ rfl)
    have q3 : h3.get? b = some { o with slots := sl2 } := (sb.2 b fun z => nstk (z ▸ hb)).trans q2
    obtain ⟨sl3, q4⟩ := up4 b _ q3 (nd _ rfl)
    exact ⟨sl3, (gF b hb).trans q4⟩
  have hok2 : HOk X.prog X.w H' G := fun b o e => (hok b o e).stay (fun c u hc r => gB c u (B2s c u r fun z => by
    have z2 : H' c = none := by rw [z]; exact ub.free C oC eC f0
    rcases hc with hc | hc
    · rw [hc, e] at z2; cases z2
    · rw [hc] at z2; cases z2)) (fun _ r => r) fun _ _ r => r
  refine ⟨a, B2, { s with heap := G, gens := s'.gens, drawn := s'.drawn, toks := s'.toks }, pins, σ, H', cls, d, rfl, ?_, fun b o e hb => ?_, Heap.UpToSlots.of_keeps fun b o e => (og b o e).1, .inr (.inr (by rw [hs]; exact hh4)), na, os, ag, hW _ _ _ hE⟩
  · refine I.call (ch := [C]) ⟨fun b o e n hb hc => gB b o (B2s b o (ub.keep b o e n hb) fun z => hc (by simp [z])), fun b o e n hb _ => slot b o e hb, fun b o e n _ => ub.free b o e n, fun b o e hc => ?_, ub.tups, ub.frzs, ub.tbls⟩ hok2 ag fun b hb => ?_
    · by_cases hb : b ∈ frs X.stack
      · obtain ⟨sl, q⟩ := slot b o e hb
        exact ⟨_, q⟩
      · obtain ⟨o', q⟩ := ub.there b o e hb
        exact ⟨o', gB b o' (B2s b o' q fun z => hc (by simp [z]))⟩
    · have z : b = C := by simpa using hb
      subst z
      exact ⟨f3, f1, f4, f5⟩
  · obtain ⟨e', h⟩ := og b o e
    rcases h with h | h
    · obtain ⟨o', q⟩ := Option.isSome_iff_exists.mp h
      have z := hh4.1 b o' q
      rw [e'] at z; cases z
      exact q
    · exact absurd h hb
end
end Bs
/-! List comprehensions whose element or test may raise. -/
namespace Bs
open PySem PySem.Spec PyProof.Rows L2
section
variable {X : Cx}
/-- the block's context, what may leave it told -/
abbrev blkX (X : Cx) (s : Shared) (H : Hp) (scope : Scope) (C : Addr) (cl : List (Str × Addr)) (fp : List Addr) (xe : Value → Shared → Prop) : Cx := (X.blk s H scope (compEnvC scope cl C X.env) fp).wish xe
theorem lcx_core {pins : List (Addr × Obj)} {s : Shared} {σ : L2.St} {H : Hp} {Q : L2.VK} {el tg it : Expr} {cs : List Expr} {sc : Scope} {own : List (Str × Nat)} {pos pos' : Pos} {wi : TI} {g : TG} {tt : TT} {te : TE} {use : Option (Value → Sem Unit)} {Qf : Value → Shared → Prop} {E : XK} {Wo : WX}
    (hst : X.stack = X.env :: X.outer) (hfr : X.env.frame = some X.env.locals) (tk : Takes X Wo) (hW : ∀ cls d σ H', E cls d H' → Wo cls d σ H')
    (hc : X.calm = true) (nd : X.N.Nodup) (I : Inv X pins σ H s) (hi : PI X tg it wi) (ok : BlkOk X.N X.env.scope sc own)
    (hg : ∀ (s : Shared) (H : Hp) (C : Addr) (cl : List (Str × Addr)) (fp : List Addr), PG (X.blk s H sc (compEnvC sc cl C X.env) fp) tg g)
    (ht : ∀ (s : Shared) (H : Hp) (C : Addr) (cl : List (Str × Addr)) (fp : List Addr) (xe : Value → Shared → Prop), Passes (L2.CX X.prog X.w) (blkX X s H sc C cl fp xe) E → PTs (blkX X s H sc C cl fp xe) cs tt)
    (he : ∀ (s : Shared) (H : Hp) (C : Addr) (cl : List (Str × Addr)) (fp : List Addr) (xe : Value → Shared → Prop), Passes (L2.CX X.prog X.w) (blkX X s H sc C cl fp xe) E → PE (blkX X s H sc C cl fp xe) el te) (hs : ∀ x, foldedSetIterable it X.env x = pure x)
    (h : tLc wi g tt te (own.map (·.2)) σ H Q)
    (fin : ∀ D C s' m H', Inv X pins σ H' s' → Q (.ref D) H' → s'.heap.Ns C m → FpOk X pins H' C → compPost (model X.prog X.w) X.A X.xe use Qf (.ref D) C (.ok .next) s') :
    wpAny (model X.prog X.w) X.A (comprehension (.ListComp el [⟨tg, it, cs, 0⟩] sc pos) sc X.env pos' (newList []) false (eval it X.env) use) Qf X.xe s := by
  have fr : ∀ y ∈ sc.names, y.2 = .free → ∃ c, X.env.cells.lookup y.1 = some c := fun y hy e => (ok.free y hy e).elim (fun k => I.ok.has _ (.inl k)) fun k => I.ok.has _ (.inr k)
  refine comp_outE (use := use) rfl hs (closure_ok fr) ok.kind (fun y hy e => by rw [ok.uniq y hy, e]) (thn (hi.run pins s σ H _ I h) fun xv s1 hx => thn hx fun itv s2 k2 => ?_)
  obtain ⟨ia, fp, tn, J, H2, e, I2, T, st2, f2, q⟩ := k2
  subst e
  refine wpAny_newObj_type (newEnv_comp ⟨rfl, ?_⟩) (by show 0 ≤ sizeLine; decide)
  generalize eD : s2.heap.objs.size = D
  have nD : H2 D = none := I2.hok.fresh (Nat.le_of_eq eD)
  obtain ⟨W, ⟨m0, w0⟩, turn⟩ := q D nD
  generalize es3 : ({ s2 with heap := s2.heap.push { cls := .type "list", data := .seq ([] : List Value).toArray } } : Shared) = s3
  have hp3 : s3.heap = s2.heap.push { cls := .type "list", data := .seq ([] : List Value).toArray } := by rw [← es3]
  have I3 : Inv X pins σ (upd H2 D (.lst [])) s3 := by
    rw [← es3]
    exact I2.laid (t' := s2.toks) (fun b o e => Heap.get?_push_of_some _ e) (Nat.le_of_eq eD) ⟨Nat.zero_le _, [], 0, .nil, by rw [← eD]; exact Heap.get?_push_size _ rfl⟩
  have lt2 : ∀ b ∈ fp, b < s2.heap.objs.size := fun b hb => let ⟨o, e, _⟩ := T.obj _ _ st2 b hb; Heap.lt_size e
  have f3 : ∀ b ∈ fp, FpOk X pins (upd H2 D (.lst [])) b ∧ b < s3.heap.objs.size := fun b hb =>
    ⟨⟨by rw [upd_ne (by rw [← eD]; exact Nat.ne_of_lt (lt2 b hb))]; exact (f2 b hb).1, (f2 b hb).2⟩, by rw [hp3, Heap.size_push]; exact Nat.lt_succ_of_lt (lt2 b hb)⟩
  have st3 : tn 0 s3.heap := T.keep _ _ _ st2 fun b _ o e => by rw [hp3]; exact Heap.get?_push_of_some _ e
  have I4 := block_start I3 ok nd f3
  show codeAny _ _ (.compStart (.ListComp el [⟨tg, it, cs, 0⟩] sc pos) 0 (.ref ia) (.ref D) (compEnvC sc (cellsFrom (s3.heap.objs.size + 1) sc.names (cloFrom X.env.cells sc.names [])) s3.heap.objs.size X.env))
    (EndE (model X.prog X.w) X.A X.xe use Qf (.ref D) X.env.frame s3.heap.objs.size) { s3 with heap := pushCells (s3.heap.push { cls := .type "dict", data := .dict #[] }) sc.names }
  generalize ecl : cellsFrom (s3.heap.objs.size + 1) sc.names (cloFrom X.env.cells sc.names []) = cl at I4 ⊢
  have pg := hg s3 (upd H2 D (.lst [])) s3.heap.objs.size cl fp
  have pt := ht s3 (upd H2 D (.lst [])) s3.heap.objs.size cl fp
  have pe := he s3 (upd H2 D (.lst [])) s3.heap.objs.size cl fp
  have nfp : ∀ b ∈ fp, (upd H2 D (.lst [])) b = none := fun b hb => (f3 b hb).1.1
  unfold blkX at pt pe
  generalize ece : compEnvC sc cl s3.heap.objs.size X.env = ce at I4 pg pt pe ⊢
  have cL : ce.locals = s3.heap.objs.size := by subst ece; rfl
  have cF : ce.frame = X.env.frame := by subst ece; rfl
  generalize eH3 : upd H2 D (.lst []) = H3 at I3 I4 pg pt pe w0 nfp f3
  generalize es4 : ({ s3 with heap := pushCells (s3.heap.push { cls := .type "dict", data := .dict #[] }) sc.names } : Shared) = s4 at I4 ⊢
  have st4 : tn 0 s4.heap := T.keep _ _ _ st3 fun b _ o e => by rw [← es4]; exact pushCells_keeps _ _ _ _ (Heap.get?_push_of_some _ e)
  have inB : ∀ {σ' : L2.St} {H' : Hp} {s' : Shared}, Inv (X.blk s3 H3 sc ce fp) [] σ' H' s' → (∀ b ∈ fp, H' b = none) → ∀ b ∈ fp, FpOk (X.blk s3 H3 sc ce fp) [] H' b := fun {σ' H' s'} I' hn b hb =>
    ⟨hn b hb, (I'.ok.exf b hb).1, I'.ok.exfs b hb, .inl hb, fun x c e => (I'.ok.exf b hb).2 x c e, fun p hp => absurd (show p ∈ ([] : List (Addr × Obj)) ++ [] from hp) (by simp)⟩
  -- from the block's frame back to the def's
  have back : ∀ {pn' : List (Addr × Obj)} {σ' : L2.St} {H' : Hp} {s' : Shared}, Inv (X.blk s3 H3 sc ce fp) pn' σ' H' s' → Inv X pins σ H' s' := fun {pn' σ' H' s'} J =>
    I3.call' (ch := fp) J.os J.base J.hok J.bare fun b hb => ⟨(f3 b hb).1.2.2.2.1, (f3 b hb).1.2.1, (f3 b hb).1.2.2.2.2.1, (f3 b hb).1.2.2.2.2.2⟩
  have nC : ∀ {pn' : List (Addr × Obj)} {σ' : L2.St} {H' : Hp} {s' : Shared}, Inv (X.blk s3 H3 sc ce fp) pn' σ' H' s' → H' s3.heap.objs.size = none ∧ ∃ m, s'.heap.Ns s3.heap.objs.size m := fun {pn' σ' H' s'} J => by
    have z : H' ce.locals = none := J.free
    obtain ⟨m, hn, _⟩ := J.loc
    have hn : s'.heap.Ns ce.locals m := hn
    rw [cL] at z hn
    exact ⟨z, m, hn⟩
  generalize exe : notedBy (model X.prog X.w) X.A ce (fun x s'' => OutE (model X.prog X.w) X.A X.xe X.env.frame s3.heap.objs.size x s'') = xe
  have pass : Passes (L2.CX X.prog X.w) ((X.blk s3 H3 sc ce fp).wish xe) E := fun pn' σ' H' s5 u s6 J c => by
    have J' := J.unwish
    obtain ⟨z1, z2⟩ := nC J'
    show xe u s6
    rw [← exe]
    exact XE.block (back J') hst hfr (fun cls d H'' => hW cls d σ H'') (I3.fpOk (Nat.le_refl _) z1) z2 tk cF c
  have pt := pt xe pass
  have pe := pe xe pass
  have loop : codeAny (model X.prog X.w) X.A (.compLoop (.ListComp el [⟨tg, it, cs, 0⟩] sc pos) 0 (.ref ia) (.ref D) ce) (EndE (model X.prog X.w) X.A X.xe use Qf (.ref D) X.env.frame s3.heap.objs.size) s4 := by
    refine compLoop_any (fun n s' => ∃ i H', Inv (X.blk s3 H3 sc ce fp) [] (wipe σ (own.map (·.2))) H' s' ∧ tn i s'.heap ∧ (∀ b ∈ fp, H' b = none) ∧ W i n H') ?_ m0 ⟨0, H3, I4, st4, nfp, w0⟩
    rintro n s5 ⟨i, H5, I5, st5, n5, w5⟩
    rcases turn i n H5 w5 with ⟨stop, qq⟩ | ⟨go, Nx, hNx, step⟩
    · refine thnF (T.done (X.blk s3 H3 sc ce fp) rfl rfl rfl hc i [] s5 _ H5 (fun _ _ => False) I5 (inB I5 n5) st5 stop) fun r s6 ⟨hr, I6⟩ => ?_
      subst hr
      obtain ⟨z, m, hn⟩ := nC I6
      exact fin D s3.heap.objs.size s6 m H5 (back I6) qq hn (I3.fpOk (Nat.le_refl _) z)
    · refine thnF (T.item (X.blk s3 H3 sc ce fp) rfl rfl rfl hc i [] s5 _ H5 (fun _ _ => False) I5 (inB I5 n5) st5 go) fun r s6 ⟨u, hr, h6⟩ => ?_
      subst hr
      refine thnF h6 fun _ s7 ⟨x, H7, I7, r7, y7, st7, n7⟩ => ?_
      have I7p := I7.pinned (inB I7 n7) (T.obj _ _ st7)
      refine thnF (pg.run _ s7 _ H7 x u _ I7p r7 (step x H7 y7)) fun _ s8 ⟨σ8, H8, I8, hw8, q8⟩ => ?_
      show wpAny _ _ _ _ (notedBy _ _ ce fun x s'' => OutE _ _ _ _ _ x s'') s8
      rw [exe]
      refine thn (pt.run _ s8 σ8 H8 _ (I8.wish xe) q8) fun b s9 ⟨H9, I9, q9⟩ => ?_
      have I9 := I9.unwish
      have nxt : ∀ {s' : Shared} {H' : Hp}, Inv (X.blk s3 H3 sc ce fp) ([] ++ pinsAt fp s7.heap) σ8 H' s' → Nx H' → ∃ m, m < n ∧ ∃ i H', Inv (X.blk s3 H3 sc ce fp) [] (wipe σ (own.map (·.2))) H' s' ∧ tn i s'.heap ∧ (∀ b ∈ fp, H' b = none) ∧ W i m H' := fun {s' H'} J nx => by
        obtain ⟨m', hm, w'⟩ := hNx H' nx
        have stay : ∀ b ∈ fp, ∀ o, s7.heap.get? b = some o → s'.heap.get? b = some o ∧ H' b = none := fun b hb o e => (fun z => ⟨z.1, z.2.1⟩) (J.pin (b, o) (List.mem_append_right _ (List.mem_append_right _ (mem_pinsAt hb e))))
        refine ⟨m', hm, i + 1, H', (J.unpinned (pins := [])).weak (by rw [← hw8, wipe_length]) (fun j v e => by rw [← hw8] at e; exact (wipe_some e).1), T.keep _ _ _ st7 fun b hb o e => (stay b hb o e).1, fun b hb => ?_, w'⟩
        obtain ⟨o, e, _⟩ := T.obj _ _ st7 b hb
        exact (stay b hb o e).2
      cases b with
      | false =>
        rw [if_neg Bool.false_ne_true]
        exact nxt I9 q9
      | true =>
        rw [if_pos rfl]
        show wpAny _ _ _ _ (notedBy _ _ ce fun x s'' => OutE _ _ _ _ _ x s'') s9
        rw [exe]
        refine thn (pe.run _ s9 σ8 H9 _ (I9.wish xe) q9) fun z s10 ⟨yv, H10, I10, r10, acc, hD10, hz10, nx⟩ => ?_
        exact app_ok (X := X.blk s3 H3 sc ce fp) I10.unwish hD10 hz10 r10 fun s11 I11 => nxt I11 nx
  exact codeAny_compStart_list loop (T.self X.A 0 _ _ _ st4 loop)
theorem pe_lcX {el tg it : Expr} {cs : List Expr} {sc : Scope} {own : List (Str × Nat)} {pos : Pos} {wi : TI} {g : TG} {tt : TT} {te : TE} {E : XK} {Wo : WX} (hst : X.stack = X.env :: X.outer) (hfr : X.env.frame = some X.env.locals) (tk : Takes X Wo) (hW : ∀ cls d σ H', E cls d H' → Wo cls d σ H')
    (hc : X.calm = true) (nd : X.N.Nodup) (hi : PI X tg it wi) (ok : BlkOk X.N X.env.scope sc own)
    (hg : ∀ (s : Shared) (H : Hp) (C : Addr) (cl : List (Str × Addr)) (fp : List Addr), PG (X.blk s H sc (compEnvC sc cl C X.env) fp) tg g)
    (ht : ∀ (s : Shared) (H : Hp) (C : Addr) (cl : List (Str × Addr)) (fp : List Addr) (xe : Value → Shared → Prop), Passes (L2.CX X.prog X.w) (blkX X s H sc C cl fp xe) E → PTs (blkX X s H sc C cl fp xe) cs tt)
    (he : ∀ (s : Shared) (H : Hp) (C : Addr) (cl : List (Str × Addr)) (fp : List Addr) (xe : Value → Shared → Prop), Passes (L2.CX X.prog X.w) (blkX X s H sc C cl fp xe) E → PE (blkX X s H sc C cl fp xe) el te) (hs : ∀ x, foldedSetIterable it X.env x = pure x := by intro _; rfl) :
    PE X (.ListComp el [⟨tg, it, cs, 0⟩] sc pos) (tLc wi g tt te (own.map (·.2))) := by
  refine ⟨fun pins s σ H Q I h => ?_⟩
  rw [eval_ListComp]
  refine lcx_core hst hfr tk hW hc nd I hi ok hg ht he hs h fun D C s' m H' I' q hn f => ⟨m, hn, fun h'' sb => ?_⟩
  obtain ⟨f0, f1, f2, f3, f4, f5⟩ := f
  exact ⟨.ref D, H', I'.turned (t' := s'.toks) (fun b o hb e => (sb.2 b hb).trans e) f0 f1 f3 f4 f5, rfl, q⟩
end
end Bs
/-! repr over trees -/
namespace Bs
open PySem PySem.Spec PyProof.Rows L2 K0
mutual
/-- data that repr can show -/
def pyR : D → Option PyData
  | .non => some .none
  | .bl b => some (.bool b)
  | .int i => some (.int i)
  | .str z => some (.str z)
  | .lst ds => (pyRL ds).map .list
  | .tup ds => (pyRL ds).map .tuple
  | .dic [] [] => some (.dict [])
  | _ => none
def pyRL : List D → Option (List PyData)
  | [] => some []
  | d :: ds => match pyR d, pyRL ds with
    | some p, some ps => some (p :: ps)
    | _, _ => none
end
theorem repO_d0 {W : Wd} {S : Addr → Prop} {H : Hp} : ∀ {o : HO} {d : D}, RepO W S H o d → d = .dic [] [] → o = .dK []
  | _, _, .dic (kvs := kvs) r, e => by
    injection e with e1 e2
    have : kvs = [] := List.map_eq_nil_iff.mp e1
    rw [this]
  | _, _, .lst _, e => by cases e
  | _, _, .tup _, e => by cases e
  | _, _, .dit _, e => by cases e
  | _, _, .obj _ _, e => by cases e
theorem rep_d0 {W : Wd} {S : Addr → Prop} {H : Hp} : ∀ {x : V} {d : D}, Rep W S H x d → d = .dic [] [] → ∃ a, x = .ref a ∧ (H a = some (.dK []) ∨ ∃ od, H a = some (.frz od (.dK [])))
  | _, _, .ob hs h r, e => by rw [repO_d0 r e] at h; exact ⟨_, rfl, .inl h⟩
  | _, _, .fz hs h r, e => by
    have := repO_d0 r e
    cases this
    exact ⟨_, rfl, .inr ⟨_, h⟩⟩
  | _, _, .non, e => by cases e
  | _, _, .bl, e => by cases e
  | _, _, .int, e => by cases e
  | _, _, .str, e => by cases e
  | _, _, .ty, e => by cases e
  | _, _, .sx _ _, e => by cases e
  | _, _, .kt _ _ _ _ _ _, e => by cases e
section
variable {X : Cx} {W : Wd} {S : Addr → Prop} {H : Hp} {pins : List (Addr × Obj)} {σ : L2.St} {s : Shared}
mutual
theorem Rep.rd (hK : W.K = X.K) (I : Inv X pins σ H s) (hsys : ∃ o, X.base.get? sysModules = some o) : ∀ (d : D) (p : PyData) (x : V) (u : Value), Rep W S H x d → pyR d = some p → RelV x u → ∃ as, Reads s.heap u p as ∧ sysModules ∉ as
  | .non, p, x, u, r, e, ru => by unfold pyR at e; cases e; rw [(RepR.rep (z := fun _ => True) r).non] at ru; cases ru; exact ⟨_, .none, by simp⟩
  | .bl b, p, x, u, r, e, ru => by unfold pyR at e; cases e; rw [(RepR.rep (z := fun _ => True) r).bl] at ru; cases ru; exact ⟨_, .bool b, by simp⟩
  | .int b, p, x, u, r, e, ru => by unfold pyR at e; cases e; rw [(RepR.rep (z := fun _ => True) r).int] at ru; obtain ⟨t, rfl⟩ := ru; exact ⟨_, .int b t, by simp⟩
  | .str b, p, x, u, r, e, ru => by unfold pyR at e; cases e; rw [(RepR.rep (z := fun _ => True) r).str] at ru; obtain ⟨t, rfl⟩ := ru; exact ⟨_, .str b t, by simp⟩
  | .lst ds, p, x, u, r, e, ru => by
    unfold pyR at e
    cases h : pyRL ds with
    | none => rw [h] at e; cases e
    | some ps =>
      rw [h] at e; cases e
      obtain ⟨a, xs, rfl, h1, q1⟩ := (RepR.rep (z := fun _ => True) r).lst
      cases ru
      obtain ⟨_, its, n, rv, hg⟩ := I.hok a _ h1
      obtain ⟨as, ra, na⟩ := RepL.rd hK I hsys ds ps xs its q1 h rv
      refine ⟨_, .list hg rfl rfl (by rw [List.toList_toArray]; exact ra), ?_⟩
      rw [List.mem_cons, not_or]
      refine ⟨?_, na⟩
      rintro rfl
      obtain ⟨o, ho⟩ := hsys
      rw [(I.bs _ _ ho).2] at h1
      cases h1
  | .tup ds, p, x, u, r, e, ru => by
    unfold pyR at e
    cases h : pyRL ds with
    | none => rw [h] at e; cases e
    | some ps =>
      rw [h] at e; cases e
      obtain ⟨a, xs, rfl, h1, q1⟩ := (RepR.rep (z := fun _ => True) r).tup
      cases ru
      obtain ⟨its, rv, ⟨o, ho, hc, n, hd⟩, hz⟩ := I.tuple (hK ▸ h1)
      obtain ⟨as, ra, na⟩ := RepL.rd hK I hsys ds ps xs its q1 h rv
      exact ⟨_, .tuple ho hc hd (by rw [List.toList_toArray]; exact ra), na⟩
  | .dic [] [], p, x, u, r, e, ru => by
    unfold pyR at e; cases e
    obtain ⟨a, rfl, hh⟩ := rep_d0 r rfl
    have ok : ObjOk X.prog X.w H s.heap a (.dK []) := by
      rcases hh with h | ⟨od, h⟩
      · exact I.hok _ _ h
      · exact (show ObjOk X.prog X.w H s.heap a (.frz od (.dK [])) from I.hok a _ h).2
    cases ru
    obtain ⟨_, ns, vs, kv, hd⟩ := ok
    cases kv
    refine ⟨_, PyProof.V.reads_dictOf (enc := fun k => match k with | .inl i => .int i | .inr x => .str x) (fun k key hk => ?_) hd .nil, by simpa using (beq_eq_false_iff_ne.mp ns).symm⟩
    rcases keyIs_shape hk with ⟨i, t, rfl, rfl⟩ | ⟨x, t, rfl, rfl⟩
    · exact .int i t
    · exact .str x t
  | .dic (_ :: _) _, p, x, u, r, e, ru => by unfold pyR at e; cases e
  | .dic [] (_ :: _), p, x, u, r, e, ru => by unfold pyR at e; cases e
  | .ty _, p, x, u, r, e, ru => by unfold pyR at e; cases e
  | .dit _ _, p, x, u, r, e, ru => by unfold pyR at e; cases e
  | .obj _ _ _, p, x, u, r, e, ru => by unfold pyR at e; cases e
  | .stx _, p, x, u, r, e, ru => by unfold pyR at e; cases e
theorem RepL.rd (hK : W.K = X.K) (I : Inv X pins σ H s) (hsys : ∃ o, X.base.get? sysModules = some o) : ∀ (ds : List D) (ps : List PyData) (xs : List V) (us : List Value), RepL W S H xs ds → pyRL ds = some ps → Vals xs us → ∃ as, ReadsAll s.heap us ps as ∧ sysModules ∉ as
  | [], ps, xs, us, r, e, rv => by unfold pyRL at e; cases e; cases r; cases rv; exact ⟨_, .nil, by simp⟩
  | d :: ds, ps, xs, us, r, e, rv => by
    unfold pyRL at e
    cases r with
    | cons r1 r2 =>
      cases rv with
      | cons v1 v2 =>
        split at e
        · rename_i p ps' h1 h2
          cases e
          obtain ⟨as, a1, a2⟩ := Rep.rd hK I hsys d p _ _ r1 h1 v1
          obtain ⟨bs, b1, b2⟩ := RepL.rd hK I hsys ds ps' _ _ r2 h2 v2
          exact ⟨_, .cons a1 b1, by rw [List.mem_append, not_or]; exact ⟨a2, b2⟩⟩
        · cases e
end
end
/-- repr of a list of data -/
@[simp] def gRepr (ds : List D) (Q : D → Prop) : Prop := match ds with
  | [.lst l] => ∃ ps, pyRL l = some ps ∧ (PyData.list ps).showable = true ∧ (PyData.list ps).depth ≤ 40 ∧ (PyData.list ps).shown.length ≤ sizeLine ∧ Q (.str (PyData.list ps).shown)
  | _ => False
theorem w_repr {X : Cx} {A : Am} (hK : A.W.K = X.K) (hg : X.A.guards = some []) (hu : X.A.units + 50 < cLine) (hsys : ∃ o, X.base.get? sysModules = some o) : CallV X A (.builtin "repr") gRepr := by
  refine ⟨fun vs H Q => ∃ (a : Addr) (xs : List V) (l : List D) (ps : List PyData) (S : Addr → Prop), vs = [.ref a] ∧ H a = some (.lst xs) ∧ RepL A.W S H xs l ∧ pyRL l = some ps ∧ (PyData.list ps).showable = true ∧ (PyData.list ps).depth ≤ 40 ∧ (PyData.list ps).shown.length ≤ sizeLine ∧ Q (.str (PyData.list ps).shown) H, ?_, ?_⟩
  · intro pins s σ H vs us Q I r h
    obtain ⟨a, xs, l, ps, S, rfl, h1, q1, e, p1, p2, p3, q⟩ := h
    rw [Vals.ref1 r]
    obtain ⟨_, its, n, rv, hgt⟩ := I.hok a _ h1
    obtain ⟨as, ra, na⟩ := RepL.rd hK I hsys l ps xs its q1 e rv
    refine PySem.repr_of_reads' (h₀ := s.heap) (d := .list ps) (.list hgt rfl rfl (by rw [List.toList_toArray]; exact ra)) p1 (fun _ => ?_) hg (by omega) (fun _ _ e => e) (fun h' u tk hk => ⟨.str _, H, I.kept hk, ⟨u, rfl⟩, q⟩) p3
    rw [List.mem_cons, not_or]
    refine ⟨?_, na⟩
    rintro rfl
    obtain ⟨o, ho⟩ := hsys
    rw [(I.bs _ _ ho).2] at h1
    cases h1
  · intro S env σ H vs ds Qd Q st rr hf hq
    unfold gRepr at hf
    split at hf
    · obtain ⟨ps, e, p1, p2, p3, k⟩ := hf
      obtain ⟨x, rfl, r⟩ := rr.one
      obtain ⟨p, xs, rfl, h1, q1⟩ := r.lst
      exact ⟨p, xs, _, ps, S, rfl, h1, q1, e, p1, p2, p3, hq _ _ H (Fx.refl st.am) .str k⟩
    · exact hf.elim
end Bs
/-! Comprehensions over trees: an element or a test that may raise; two clauses. -/
namespace Bs
open PySem PySem.Spec PyProof.Rows L2
/-- what a comprehension has made so far, its list at D -/
structure AccI (A : Am) (S : Addr → Prop) (p : Addr) (env : List Sl) (σ : L2.St) (H1 H' : Hp) (acc : List D) (accV : List V) : Prop where
  at_ : H' p = some (.lst accV)
  rep : RepL A.W (fun b => S b ∨ b = p) H' accV acc
  st : StR A (fun b => S b ∨ b = p) env σ H'
  mn : Mn S H1 (fun b => S b ∨ b = p) H'
  fr : ∀ b o, H1 b = some o → ¬ A.z b → A.k o → H' b = some o
section
variable {A : Am} {S : Addr → Prop} {p : Addr} {env env2 : List Sl} {σ σ2 : L2.St} {H1 H' H2 : Hp} {acc : List D} {accV : List V}
theorem AccI.fx (h : AccI A S p env σ H1 H' acc accV) (nz : ¬ A.z p) (f : Fx A H' H2) : AccI A S p env σ H1 H2 acc accV :=
  ⟨f.ex _ _ h.at_ nz (A.kd _ trivial), h.rep.mono (h.st.mn f), h.st.fx f, h.mn.trans (h.st.mn f), fun b o e z n => f.ex b o (h.fr b o e z n) z n⟩
/-- the frame from the start, the list begun -/
theorem AccI.start (t : StR A S env σ H1) (hp : H1 p = none) (vs : List Nat) : AccI A S p (wipeS env vs) (wipe σ vs) H1 (upd H1 p (.lst [])) [] [] := by
  have ex1 : ∀ b o, H1 b = some o → upd H1 p (.lst []) b = some o := fun b o e => (upd_ne (ne_of_none e hp)).trans e
  have m0 : Mn S H1 (fun b => S b ∨ b = p) (upd H1 p (.lst [])) := fun b o hs e _ => ⟨fun z => z.elim hs fun z => ne_of_none e hp z, o, ex1 b o e, rfl⟩
  refine ⟨upd_same, .nil, ?_, m0, fun b o e _ _ => ex1 b o e⟩
  have t := t.wipe vs
  obtain ⟨qq, hs, hap⟩ := t.sl
  refine ⟨t.len, ⟨qq, fun i e o h1 h2 => ?_, hap⟩, fun a ha => .inl (t.s0 a ha), fun a ha => ?_, fun b o e z n => ex1 b o (t.base b o e z n), A.al H1 _ t.am fun b o e _ => ex1 b o e⟩
  · cases hs i e o h1 h2 with
    | no => exact .no
    | sh r => exact .sh (r.mono m0)
    | ow w => exact .ow (w.step (.inl w.s) m0 fun _ e => ex1 _ _ e)
    | ot e z w => exact .ot (ex1 _ _ e) (fun y => y.elim z fun y => ne_of_none e hp y) (w.step (.inl w.s) m0 fun _ e => ex1 _ _ e)
    | st z => exact .st z
  · rcases ha with ha | rfl
    · obtain ⟨u, e, n⟩ := t.dom a ha
      exact ⟨u, ex1 a u e, n⟩
    · exact ⟨_, upd_same, trivial⟩
/-- one more item: frames whose own objects are not the list -/
theorem StR.grown (t : StR A (fun b => S b ∨ b = p) env σ H') (hp : H1 p = none) (nS : ¬ S p) (s0 : ∀ a, A.S0 a → S a) (b0 : ∀ b o, A.H0 b = some o → ¬ A.z b → A.k o → H1 b = some o) (h : H' p = some (.lst accV)) {us : List V}
    (own : ∀ (i : Nat) (e : Sl) (o : Option V), env[i]? = some e → σ[i]? = some o → hasOwn e = true → ∀ q, SlR A (fun b => S b ∨ b = p) H' q o e → q ≠ p) : StR A (fun b => S b ∨ b = p) env σ (upd H' p (.lst us)) := by
  have mD : Mn (fun b => S b ∨ b = p) H' (fun b => S b ∨ b = p) (upd H' p (.lst us)) := fun b o hs e _ => ⟨hs, o, (upd_ne (by rintro rfl; exact hs (.inr rfl))).trans e, rfl⟩
  have ex4 : ∀ b o, b ≠ p → H' b = some o → upd H' p (.lst us) b = some o := fun b o hb e => (upd_ne hb).trans e
  obtain ⟨qq, hs, hap⟩ := t.sl
  refine ⟨t.len, ⟨qq, fun i e o h1 h2 => ?_, hap⟩, t.s0, fun a ha => ?_, fun b o e z n => ?_, A.al H' _ t.am fun b o e hb => ex4 b o (by rintro rfl; rw [h] at e; cases e; rcases hb with hb | hb; cases hb; exact nS (s0 _ hb)) e⟩
  · have g2 := hs i e o h1 h2
    have hne : hasOwn e = true → qq i ≠ p := fun ho => own i e o h1 h2 ho _ g2
    cases g2 with
    | no => exact .no
    | sh r => exact .sh (r.mono mD)
    | ow w => exact .ow (w.step w.s mD fun _ e => ex4 _ _ (hne rfl) e)
    | ot e z w => exact .ot (ex4 _ _ (by rintro rfl; rw [h] at e; cases e) e) z (w.step w.s mD fun _ e => ex4 _ _ (hne rfl) e)
    | st z => exact .st z
  · by_cases hb : a = p
    · subst hb; exact ⟨_, upd_same, trivial⟩
    · obtain ⟨u, e, n⟩ := t.dom a ha
      exact ⟨u, ex4 a u hb e, n⟩
  · exact ex4 b o (ne_of_none (b0 b o e z n) hp) (t.base b o e z n)
/-- own slots of the frame at the start are not the list -/
theorem AccI.ownNe (t : StR A S env σ H1) (hp : H1 p = none) (vs : List Nat) (h : AccI A S p (wipeS env vs) (wipe σ vs) H1 H' acc accV) :
    ∀ (i : Nat) (e : Sl) (o : Option V), (wipeS env vs)[i]? = some e → (wipe σ vs)[i]? = some o → hasOwn e = true → ∀ q, SlR A (fun b => S b ∨ b = p) H' q o e → q ≠ p := fun i e o h1 h2 ho q g2 z => by
  have nS := t.notS hp
  obtain ⟨q1, hs1, _⟩ := (t.wipe vs).sl
  have g1 := hs1 i e o h1 h2
  cases g1 with
  | ow w =>
    cases g2
    exact nS (z ▸ w.s)
  | ot e1' z1 w =>
    cases g2 with
    | ot e2' z2 w2 =>
      have := h.fr _ _ e1' (fun y => z1 (t.s0 _ (A.zs _ y))) (A.kd _ trivial)
      rw [this] at e2'
      cases e2'
      exact nS (z ▸ w.s)
  | _ => cases ho
theorem AccI.app (t : StR A S env σ H1) (hp : H1 p = none) (vs : List Nat) (h : AccI A S p (wipeS env vs) (wipe σ vs) H1 H' acc accV) {y : V} {d : D} (r : Rep A.W (fun b => S b ∨ b = p) H' y d) :
    AccI A S p (wipeS env vs) (wipe σ vs) H1 (upd H' p (.lst (accV ++ [y]))) (acc ++ [d]) (accV ++ [y]) := by
  have mD : Mn (fun b => S b ∨ b = p) H' (fun b => S b ∨ b = p) (upd H' p (.lst (accV ++ [y]))) := fun b o hs e _ => ⟨hs, o, (upd_ne (by rintro rfl; exact hs (.inr rfl))).trans e, rfl⟩
  have nS := t.notS hp
  have b0 : ∀ b o, A.H0 b = some o → ¬ A.z b → A.k o → H1 b = some o := t.base
  exact ⟨upd_same, (h.rep.app (.cons r .nil)).mono mD, h.st.grown hp nS t.s0 b0 h.at_ (h.ownNe t hp vs), h.mn.trans mD, fun b o e z n => (upd_ne (ne_of_none e hp)).trans (h.fr b o e z n)⟩
/-- the end: the list is a new object -/
theorem AccI.done (t : StR A S env σ H1) (hp : H1 p = none) (vs : List Nat) (h : AccI A S p (wipeS env vs) (wipe σ vs) H1 H' acc accV) :
    Fx A H1 (rm H' p) ∧ rm H' p p = none ∧ RepO A.W S (rm H' p) (.lst accV) (.lst acc) ∧ upd (rm H' p) p (.lst accV) = H' := by
  have nS := t.notS hp
  refine ⟨⟨fun b o e z n => ?_, ?_⟩, by unfold rm; rw [if_pos rfl], .lst (h.rep.mono fun b o hs e _ => ⟨fun z => hs (.inl z), o, ?_, rfl⟩), upd_rm h.at_⟩
  · unfold rm; rw [if_neg (ne_of_none e hp)]; exact h.fr b o e z n
  · refine A.al H' _ h.st.am fun b o e hb => ?_
    unfold rm; rw [if_neg (by rintro rfl; rw [h.at_] at e; cases e; rcases hb with hb | hb; cases hb; exact nS (t.s0 _ hb))]; exact e
  · unfold rm; rw [if_neg (by rintro rfl; exact hs (.inr rfl))]; exact e
end
/-! ### a raising element -/
def lcVX (γ : D → List Sl → (List Sl → Prop) → Prop) (tt : TV Bool) (te : TV D) (env0 : List Sl) : List D → List D → (D → Prop) → (Exn → Prop) → Prop
  | [], acc, Q, _ => Q (.lst acc)
  | d :: ds, acc, Q, R => γ d env0 fun env1 => tt env1 (fun b => if b = true then te env1 (fun y => acc.length < sizeLine ∧ lcVX γ tt te env0 ds (acc ++ [y]) Q R) R else lcVX γ tt te env0 ds acc Q R) R
@[simp] def vLcX (τi : TV (List D)) (γ : D → List Sl → (List Sl → Prop) → Prop) (tt : TV Bool) (te : TV D) (vs : List Nat) : TV D := fun env Q R => τi env (fun ds => lcVX γ tt te (wipeS env vs) ds [] Q R) R
section
variable {X : Cx} {A : Am} {E' : XK} {elt tg iter : Expr} {ifs : List Expr} {scope : Scope} {own : List (Str × Nat)} {τi : TV (List D)} {γ : D → List Sl → (List Sl → Prop) → Prop} {tt : TV Bool} {te : TV D} {idx : List Nat} {pos : Pos} {g : TG}
theorem lc_readX {σ : L2.St} {H : Hp} {Q : L2.VK} {vs : List Nat} (hidx : ∀ i ∈ idx, i ∈ vs) (gq : GQ A g idx γ)
    (h : ∃ S env Qd Rd, StR A S env σ H ∧ vLcX τi γ tt te vs env Qd Rd ∧ (∀ d o p H1, Fx A H H1 → H1 p = none → RepO A.W S H1 o d → dataO o = true → Qd d → Q (.ref p) (upd H1 p o)) ∧ ∀ ex C dd H', Fx A H H' → ExR A.W H' ex C dd → Rd ex → E' C dd H') :
    tLc (fun σ H R => ∃ S env Qd Rd, StR A S env σ H ∧ τi env Qd Rd ∧ (∀ ds J H', Fx A H H' → Yields A J S H' ds → Qd ds → R J H') ∧ ∀ ex C dd H', Fx A H H' → ExR A.W H' ex C dd → Rd ex → E' C dd H') g (LfG A (fun _ => E') rB tt) (LfG A (fun _ => E') (rV A) te) vs σ H Q := by
  obtain ⟨S, env, Qd, Rd, st, h, hq, hr⟩ := h
  refine ⟨S, env, _, Rd, st, h, fun ds J H1 f1 y q => ?_, hr⟩
  intro p hp
  obtain ⟨n, G, Y, hn, w, hG, hY⟩ := y
  have st1 := st.fx f1
  have nS := st1.notS hp
  have nz : ¬ A.z p := fun z => nS (st1.s0 p (A.zs p z))
  refine ⟨fun i m H' => m = n - i ∧ i ≤ n ∧ ∃ acc accV, AccI A S p (wipeS env vs) (wipe σ vs) H1 H' acc accV ∧ lcVX γ tt te (wipeS env vs) (ds.drop i) acc Qd Rd,
    ⟨_, rfl, Nat.zero_le _, [], [], .start st1 hp vs, q⟩, ?_⟩
  rintro i m H' ⟨rfl, hi, acc, accV, ai, q⟩
  by_cases hlt : i < n
  · refine .inr ⟨w.goes i H' hlt (hG _ H' ai.mn), fun H2 => ∃ acc accV, AccI A S p (wipeS env vs) (wipe σ vs) H1 H2 acc accV ∧ lcVX γ tt te (wipeS env vs) (ds.drop (i + 1)) acc Qd Rd, fun H2 ⟨a, b, c⟩ => ⟨n - (i + 1), by omega, rfl, hlt, a, b, c⟩, fun x H2 y => ?_⟩
    obtain ⟨d, hd, f2, rd⟩ := hY i _ _ _ H' x H2 hlt ai.st ai.mn (w.yields i H' x H2 hlt (hG _ H' ai.mn) y)
    have ed : ds.drop i = d :: ds.drop (i + 1) := by
      obtain ⟨hi2, e⟩ := List.getElem?_eq_some_iff.mp hd
      rw [List.drop_eq_getElem_cons hi2, e]
    rw [ed] at q
    have bi := ai.fx nz f2
    have out : ∀ {H3 : Hp}, AccI A S p (wipeS env vs) (wipe σ vs) H1 H3 acc accV → ∀ ex C dd H4, Fx A H3 H4 → ExR A.W H4 ex C dd → Rd ex → E' C dd H4 := fun {H3} a3 ex C dd H4 f xr r =>
      hr ex C dd H4 (f1.trans ⟨fun b o e z n => f.ex b o (a3.fr b o e z n) z n, f.am⟩) xr r
    refine gq _ _ _ H2 x d _ _ bi.st rd q fun env1 σ1 t1 w1 q1 => ⟨by rw [w1 vs hidx, wipe_wipe], ?_⟩
    refine ⟨_, env1, _, Rd, t1, q1, fun k k' H3 f3 ek q2 => ?_, out bi⟩
    have ek' : k' = k := ek
    subst ek'
    have ci := bi.fx nz f3
    cases k' with
    | false => exact ⟨acc, accV, ci, q2⟩
    | true =>
      refine ⟨_, env1, _, Rd, t1.fx f3, q2, fun dy yv H4 f4 r4 q3 => ?_, out ci⟩
      have di := ci.fx nz f4
      exact ⟨accV, di.at_, by rw [di.rep.length]; exact q3.1, acc ++ [dy], accV ++ [yv], di.app st1 hp vs r4, q3.2⟩
  · have e : i = n := by omega
    subst e
    refine .inl ⟨w.stops H' (hG _ H' ai.mn), ?_⟩
    rw [List.drop_of_length_le (by omega)] at q
    obtain ⟨d1, d2, d3, d4⟩ := ai.done st1 hp vs
    have fin := hq (.lst acc) (.lst accV) p (rm H' p) (f1.trans d1) d2 d3 rfl q
    rw [d4] at fin; exact fin
theorem vf_lcX {Wo : WX} (hst : X.stack = X.env :: X.outer) (hfr : X.env.frame = some X.env.locals) (tk : Takes X Wo) (hW : ∀ cls d σ H', E' cls d H' → Wo cls d σ H')
    (hc : X.calm = true) (hN : X.N.Nodup) (hi : VI X A (fun _ => E') tg iter τi) (ok : BlkOk X.N X.env.scope scope own) (hidx : ∀ i ∈ idx, i ∈ own.map (·.2)) (gq : GQ A g idx γ)
    (p : ∀ (s : Shared) (H : Hp) (C : Addr) (cl : List (Str × Addr)) (fp : List Addr), PG (X.blk s H scope (compEnvC scope cl C X.env) fp) tg g)
    (ht : ∀ (s : Shared) (H : Hp) (C : Addr) (cl : List (Str × Addr)) (fp : List Addr) (xe : Value → Shared → Prop), Passes (L2.CX X.prog X.w) (blkX X s H scope C cl fp xe) E' → VTs (blkX X s H scope C cl fp xe) A (fun _ => E') ifs tt)
    (he : ∀ (s : Shared) (H : Hp) (C : Addr) (cl : List (Str × Addr)) (fp : List Addr) (xe : Value → Shared → Prop), Passes (L2.CX X.prog X.w) (blkX X s H scope C cl fp xe) E' → VE (blkX X s H scope C cl fp xe) A (fun _ => E') elt te) (hs : ∀ x, foldedSetIterable iter X.env x = pure x := by intro _; rfl) :
    VF X A (fun _ => E') (.ListComp elt [⟨tg, iter, ifs, 0⟩] scope pos) (vLcX τi γ tt te (own.map (·.2))) :=
  ⟨PE.imp (pe_lcX hst hfr tk hW hc hN hi.run ok p (fun s H C cl fp xe ps => (ht s H C cl fp xe ps).run) (fun s H C cl fp xe ps => (he s H C cl fp xe ps).run) hs) fun σ H Q h => lc_readX hidx gq h⟩
end
/-! ### two clauses -/
@[simp] def noOwn (env : List Sl) : Bool := env.all fun e => !hasOwn e
/-- the inner turns -/
def lcIn (γ : D → List Sl → (List Sl → Prop) → Prop) (tt : TV Bool) (te : TV D) (env0 : List Sl) : List D → List D → (List D → Prop) → Prop
  | [], acc, Q => Q acc
  | d :: ds, acc, Q => γ d env0 fun env1 => tt env1 (fun b => if b = true then te env1 (fun y => acc.length < sizeLine ∧ lcIn γ tt te env0 ds (acc ++ [y]) Q) (fun _ => False) else lcIn γ tt te env0 ds acc Q) fun _ => False
def lcV2 (γ : D → List Sl → (List Sl → Prop) → Prop) (tt : TV Bool) (τi1 : TV (List D)) (γ1 : D → List Sl → (List Sl → Prop) → Prop) (tt1 : TV Bool) (te : TV D) (vs1 : List Nat) (env0 : List Sl) : List D → List D → (D → Prop) → Prop
  | [], acc, Q => Q (.lst acc)
  | d :: ds, acc, Q => γ d env0 fun env1 => tt env1 (fun b => if b = true then τi1 env1 (fun es => noOwn env1 = true ∧ lcIn γ1 tt1 te (wipeS env1 vs1) es acc fun acc' => lcV2 γ tt τi1 γ1 tt1 te vs1 env0 ds acc' Q) (fun _ => False) else lcV2 γ tt τi1 γ1 tt1 te vs1 env0 ds acc Q) fun _ => False
@[simp] def vLc2 (τi : TV (List D)) (γ : D → List Sl → (List Sl → Prop) → Prop) (tt : TV Bool) (τi1 : TV (List D)) (γ1 : D → List Sl → (List Sl → Prop) → Prop) (tt1 : TV Bool) (te : TV D) (vs vs1 : List Nat) : TV D := fun env Q R => τi env (fun ds => lcV2 γ tt τi1 γ1 tt1 te vs1 (wipeS env vs) ds [] Q) R
theorem noOwn_wipe {env : List Sl} (h : noOwn env = true) (vs : List Nat) : noOwn (wipeS env vs) = true := by
  induction vs with
  | nil => exact h
  | cons v vs ih =>
    unfold noOwn at ih ⊢
    rw [List.all_eq_true] at ih ⊢
    intro e he
    rcases List.mem_or_eq_of_mem_set he with he | rfl
    · exact ih e he
    · rfl
section
variable {X : Cx} {A : Am} {E : L2.St → XK} {elt tg iter tg1 iter1 : Expr} {ifs ifs1 : List Expr} {scope : Scope} {own : List (Str × Nat)} {τi τi1 : TV (List D)} {γ γ1 : D → List Sl → (List Sl → Prop) → Prop} {tt tt1 : TV Bool} {te : TV D} {idx idx1 vs1 : List Nat} {pos : Pos} {g g1 : TG}
abbrev viR (A : Am) (E : L2.St → XK) (τi : TV (List D)) : TI := fun σ H R => ∃ S env Qd Rd, StR A S env σ H ∧ τi env Qd Rd ∧ (∀ ds J H', Fx A H H' → Yields A J S H' ds → Qd ds → R J H') ∧ ∀ ex C dd H', Fx A H H' → ExR A.W H' ex C dd → Rd ex → E σ C dd H'
theorem lc_read2 {σ : L2.St} {H : Hp} {Q : L2.VK} {vs : List Nat} (hidx : ∀ i ∈ idx, i ∈ vs) (gq : GQ A g idx γ) (hidx1 : ∀ i ∈ idx1, i ∈ vs1) (gq1 : GQ A g1 idx1 γ1)
    (h : ∃ S env Qd Rd, StR A S env σ H ∧ vLc2 τi γ tt τi1 γ1 tt1 te vs vs1 env Qd Rd ∧ (∀ d o p H1, Fx A H H1 → H1 p = none → RepO A.W S H1 o d → dataO o = true → Qd d → Q (.ref p) (upd H1 p o)) ∧ ∀ ex C dd H', Fx A H H' → ExR A.W H' ex C dd → Rd ex → E σ C dd H') :
    tLc2 (viR A E τi) g (LfG A EN rB tt) (viR A EN τi1) g1 (LfG A EN rB tt1) (LfG A EN (rV A) te) vs vs1 σ H Q := by
  obtain ⟨S, env, Qd, Rd, st, h, hq, hr⟩ := h
  refine ⟨S, env, _, Rd, st, h, fun ds J H1 f1 y q => ?_, hr⟩
  intro p hp
  obtain ⟨n, G, Y, hn, w, hG, hY⟩ := y
  have st1 := st.fx f1
  have nS := st1.notS hp
  have nz : ¬ A.z p := fun z => nS (st1.s0 p (A.zs p z))
  refine ⟨fun i m H' => m = n - i ∧ i ≤ n ∧ ∃ acc accV, AccI A S p (wipeS env vs) (wipe σ vs) H1 H' acc accV ∧ lcV2 γ tt τi1 γ1 tt1 te vs1 (wipeS env vs) (ds.drop i) acc Qd,
    ⟨_, rfl, Nat.zero_le _, [], [], .start st1 hp vs, q⟩, ?_⟩
  rintro i m H' ⟨rfl, hi, acc, accV, ai, q⟩
  by_cases hlt : i < n
  · refine .inr ⟨w.goes i H' hlt (hG _ H' ai.mn), fun H2 => ∃ acc accV, AccI A S p (wipeS env vs) (wipe σ vs) H1 H2 acc accV ∧ lcV2 γ tt τi1 γ1 tt1 te vs1 (wipeS env vs) (ds.drop (i + 1)) acc Qd, fun H2 ⟨a, b, c⟩ => ⟨n - (i + 1), by omega, rfl, hlt, a, b, c⟩, fun x H2 y => ?_⟩
    obtain ⟨d, hd, f2, rd⟩ := hY i _ _ _ H' x H2 hlt ai.st ai.mn (w.yields i H' x H2 hlt (hG _ H' ai.mn) y)
    have ed : ds.drop i = d :: ds.drop (i + 1) := by
      obtain ⟨hi2, e⟩ := List.getElem?_eq_some_iff.mp hd
      rw [List.drop_eq_getElem_cons hi2, e]
    rw [ed] at q
    have bi := ai.fx nz f2
    refine gq _ _ _ H2 x d _ _ bi.st rd q fun env1 σ1 t1 w1 q1 => ⟨by rw [w1 vs hidx, wipe_wipe], ?_⟩
    refine ⟨_, env1, _, _, t1, q1, fun k k' H3 f3 ek q2 => ?_, fun ex C dd H3 f3 xr z => z.elim⟩
    have ek' : k' = k := ek
    subst ek'
    have ci := bi.fx nz f3
    have t1 := t1.fx f3
    cases k' with
    | false => exact ⟨acc, accV, ci, q2⟩
    | true =>
      refine ⟨_, env1, _, _, t1, q2, fun es J1 H4 f4 y1 q3 => ?_, fun ex C dd H3 f3 xr z => z.elim⟩
      obtain ⟨no, q3⟩ := q3
      obtain ⟨n1, G1, Y1, hn1, u, hG1, hY1⟩ := y1
      have di := ci.fx nz f4
      have t4 := t1.fx f4
      have tw := t4.wipe vs1
      have now : noOwn (wipeS env1 vs1) = true := noOwn_wipe no vs1
      -- the inner loop: the outer frame and the inner one
      refine ⟨fun j k' H' => k' = n1 - j ∧ j ≤ n1 ∧ ∃ acc accV, AccI A S p (wipeS env vs) (wipe σ vs) H1 H' acc accV ∧ StR A (fun b => S b ∨ b = p) (wipeS env1 vs1) (wipe σ1 vs1) H' ∧ Mn (fun b => S b ∨ b = p) H4 (fun b => S b ∨ b = p) H' ∧
          lcIn γ1 tt1 te (wipeS env1 vs1) (es.drop j) acc fun acc' => lcV2 γ tt τi1 γ1 tt1 te vs1 (wipeS env vs) (ds.drop (i + 1)) acc' Qd, ⟨_, rfl, Nat.zero_le _, acc, accV, di, tw, Mn.refl, q3⟩, ?_⟩
      rintro j k' H5 ⟨rfl, hj, acc, accV, ei, t5, m5, q5⟩
      by_cases hlt1 : j < n1
      · refine .inr ⟨u.goes j H5 hlt1 (hG1 _ H5 m5), fun H6 => ∃ acc accV, AccI A S p (wipeS env vs) (wipe σ vs) H1 H6 acc accV ∧ StR A (fun b => S b ∨ b = p) (wipeS env1 vs1) (wipe σ1 vs1) H6 ∧ Mn (fun b => S b ∨ b = p) H4 (fun b => S b ∨ b = p) H6 ∧
            lcIn γ1 tt1 te (wipeS env1 vs1) (es.drop (j + 1)) acc fun acc' => lcV2 γ tt τi1 γ1 tt1 te vs1 (wipeS env vs) (ds.drop (i + 1)) acc' Qd, fun H6 ⟨a, b, c⟩ => ⟨n1 - (j + 1), by omega, rfl, hlt1, a, b, c⟩, fun x H6 y => ?_⟩
        obtain ⟨d1, hd1, f6, rd1⟩ := hY1 j _ _ _ H5 x H6 hlt1 t5 m5 (u.yields j H5 x H6 hlt1 (hG1 _ H5 m5) y)
        have ed1 : es.drop j = d1 :: es.drop (j + 1) := by
          obtain ⟨hi2, e⟩ := List.getElem?_eq_some_iff.mp hd1
          rw [List.drop_eq_getElem_cons hi2, e]
        rw [ed1] at q5
        have fi := ei.fx nz f6
        have t6 := t5.fx f6
        have m6 := m5.trans (t5.mn f6)
        refine gq1 _ _ _ H6 x d1 _ _ t6 rd1 q5 fun env2 σ2 t7 w2 q6 => ⟨by rw [w2 vs1 hidx1, wipe_wipe], ?_⟩
        refine ⟨_, env2, _, _, t7, q6, fun b b' H7 f7 eb q7 => ?_, fun ex C dd H3 f3 xr z => z.elim⟩
        have eb' : b' = b := eb
        subst eb'
        have gi := fi.fx nz f7
        have t8 := t6.fx f7
        have m7 := m6.trans (t6.mn f7)
        cases b' with
        | false => exact ⟨acc, accV, gi, t8, m7, q7⟩
        | true =>
          refine ⟨_, env2, _, _, t7.fx f7, q7, fun dy yv H8 f8 r8 q8 => ?_, fun ex C dd H3 f3 xr z => z.elim⟩
          have ki := gi.fx nz f8
          have t9 := t8.fx f8
          have mD : Mn (fun b => S b ∨ b = p) H8 (fun b => S b ∨ b = p) (upd H8 p (.lst (accV ++ [yv]))) := fun b o hs e _ => ⟨hs, o, (upd_ne (by rintro rfl; exact hs (.inr rfl))).trans e, rfl⟩
          refine ⟨accV, ki.at_, by rw [ki.rep.length]; exact q8.1, acc ++ [dy], accV ++ [yv], ki.app st1 hp vs r8, t9.grown hp nS st1.s0 st1.base ki.at_ ?_, (m7.trans (t8.mn f8)).trans mD, q8.2⟩
          intro i e o h1 _ ho
          have := (List.all_eq_true.mp now) e (List.mem_of_getElem? h1)
          rw [ho] at this
          cases this
      · have e : j = n1 := by omega
        subst e
        refine .inl ⟨u.stops H5 (hG1 _ H5 m5), ?_⟩
        rw [List.drop_of_length_le (by omega)] at q5
        exact ⟨acc, accV, ei, q5⟩
  · have e : i = n := by omega
    subst e
    refine .inl ⟨w.stops H' (hG _ H' ai.mn), ?_⟩
    rw [List.drop_of_length_le (by omega)] at q
    obtain ⟨d1, d2, d3, d4⟩ := ai.done st1 hp vs
    have fin := hq (.lst acc) (.lst accV) p (rm H' p) (f1.trans d1) d2 d3 rfl q
    rw [d4] at fin; exact fin
theorem vf_lc2 (hc : X.calm = true) (hN : X.N.Nodup) (hi : VI X A E tg iter τi) (ok : BlkOk X.N X.env.scope scope own) (hidx : ∀ i ∈ idx, i ∈ own.map (·.2)) (gq : GQ A g idx γ) (hidx1 : ∀ i ∈ idx1, i ∈ vs1) (gq1 : GQ A g1 idx1 γ1) (hv : ∀ i ∈ vs1, i ∈ own.map (·.2))
    (p : ∀ (s : Shared) (H : Hp) (C : Addr) (cl : List (Str × Addr)) (fp : List Addr), PG (X.blk s H scope (compEnvC scope cl C X.env) fp) tg g)
    (ht : ∀ (s : Shared) (H : Hp) (C : Addr) (cl : List (Str × Addr)) (fp : List Addr), VTs (X.blk s H scope (compEnvC scope cl C X.env) fp) A EN ifs tt)
    (hi1 : ∀ (s : Shared) (H : Hp) (C : Addr) (cl : List (Str × Addr)) (fp : List Addr), VI (X.blk s H scope (compEnvC scope cl C X.env) fp) A EN tg1 iter1 τi1)
    (p1 : ∀ (s : Shared) (H : Hp) (C : Addr) (cl : List (Str × Addr)) (fp : List Addr), PG (X.blk s H scope (compEnvC scope cl C X.env) fp) tg1 g1)
    (ht1 : ∀ (s : Shared) (H : Hp) (C : Addr) (cl : List (Str × Addr)) (fp : List Addr), VTs (X.blk s H scope (compEnvC scope cl C X.env) fp) A EN ifs1 tt1)
    (he : ∀ (s : Shared) (H : Hp) (C : Addr) (cl : List (Str × Addr)) (fp : List Addr), VE (X.blk s H scope (compEnvC scope cl C X.env) fp) A EN elt te) (hs : ∀ x, foldedSetIterable iter X.env x = pure x := by intro _; rfl) (hs1 : ∀ env x, foldedSetIterable iter1 env x = pure x := by intro _ _; rfl) :
    VF X A E (.ListComp elt [⟨tg, iter, ifs, 0⟩, ⟨tg1, iter1, ifs1, 0⟩] scope pos) (vLc2 τi γ tt τi1 γ1 tt1 te (own.map (·.2)) vs1) :=
  ⟨PE.imp (pe_lc2 hc hN hi.run ok hv p (fun s H C cl fp => (ht s H C cl fp).run) (fun s H C cl fp => (hi1 s H C cl fp).run) p1 (fun s H C cl fp => (ht1 s H C cl fp).run) (fun s H C cl fp => (he s H C cl fp).run) hs hs1) fun σ H Q h => lc_read2 hidx gq hidx1 gq1 h⟩
end
end Bs
/-! sorted(xs, key=lambda x: (len(x), x)) of texts. -/
namespace Bs
open PySem PySem.Spec PyProof.Rows L2 PySem.W
/-- by length, then by text -/
def ltZ (x y : Str) : Bool := if x.length = y.length then decide (x.cps.toList < y.cps.toList) else decide (x.length < y.length)
theorem ltZ_asym {x y : Str} (h : ltZ x y = true) : ltZ y x = false := by
  unfold ltZ at h ⊢
  split at h
  · rename_i e
    rw [if_pos e.symm]
    exact decide_eq_false fun k => List.lt_asymm (of_decide_eq_true h) k
  · rename_i e
    rw [if_neg fun z => e z.symm]
    have := of_decide_eq_true h
    exact decide_eq_false (by omega)
theorem ltZ_tr {x y z : Str} (h1 : ltZ x y = false) (h2 : ltZ y z = false) : ltZ x z = false := by
  unfold ltZ at h1 h2 ⊢
  split at h1
  · rename_i e1
    split at h2
    · rename_i e2
      rw [if_pos (e1.trans e2)]
      have a := of_decide_eq_false h1
      have b := of_decide_eq_false h2
      exact decide_eq_false fun k => by
        have a' := List.not_lt.mp a
        have b' := List.not_lt.mp b
        exact (List.not_lt.mpr (List.le_trans b' a')) k
    · rename_i e2
      rw [if_neg (by omega)]
      have b := of_decide_eq_false h2
      exact decide_eq_false (by omega)
  · rename_i e1
    have a := of_decide_eq_false h1
    split at h2
    · rename_i e2
      rw [if_neg (by omega)]
      exact decide_eq_false (by omega)
    · rename_i e2
      have b := of_decide_eq_false h2
      rw [if_neg (by omega)]
      exact decide_eq_false (by omega)
theorem swo_Z : SrtO.Swo (fun p q : Keyed => ltZ (strOf p.2) (strOf q.2)) := ⟨fun _ _ h => ltZ_asym h, fun _ _ _ h1 h2 => ltZ_tr h2 h1⟩
/-- the key of a text, as the lambda makes it -/
def KeyAt (h : Heap) (k v : Value) : Prop := ∃ (q : Addr) (o : Obj) (z : Str) (t u u' : Tok) (n : Nat), k = .ref q ∧ v = .str z t ∧ h.get? q = some o ∧ o.cls = .type "tuple" ∧ o.data = .seq #[.int z.length u, .str z u'] n
def KeysAt (h : Heap) : List Value → List Value → Prop
  | [], [] => True
  | k :: ks, v :: vs => KeyAt h k v ∧ KeysAt h ks vs
  | _, _ => False
theorem KeysAt.len {h : Heap} : ∀ {ks vs : List Value}, KeysAt h ks vs → ks.length = vs.length
  | [], [], _ => rfl
  | _ :: _, _ :: _, r => by rw [List.length_cons, List.length_cons, KeysAt.len r.2]
  | [], _ :: _, r => r.elim
  | _ :: _, [], r => r.elim
theorem KeysAt.firsts {h : Heap} : ∀ {ks vs : List Value}, KeysAt h ks vs → ∃ fs, KatTups h ks fs ∧ fs.length = ks.length ∧ ∀ f ∈ fs, ∃ n t, f = Value.int n t
  | [], [], _ => ⟨[], KatTups.nil, rfl, fun _ hm => by simp at hm⟩
  | k :: ks, v :: vs, r => by
    obtain ⟨⟨q, o, z, t, u, u', n, e1, e2, ho, hc, hd⟩, r⟩ := r
    subst e1
    obtain ⟨fs, h1, h2, h3⟩ := KeysAt.firsts r
    refine ⟨.int z.length u :: fs, KatTups.cons ho hc hd rfl h1, by rw [List.length_cons, List.length_cons, h2], fun f hm => ?_⟩
    rcases List.mem_cons.mp hm with rfl | hm
    · exact ⟨_, _, rfl⟩
    · exact h3 f hm
  | [], _ :: _, r => r.elim
  | _ :: _, [], r => r.elim
theorem KeysAt.zip {h : Heap} : ∀ {ks vs : List Value}, KeysAt h ks vs → ∀ p ∈ ks.zip vs, KeyAt h p.1 p.2
  | [], _, _, p, hp => by simp at hp
  | _ :: _, [], r, _, _ => r.elim
  | k :: ks, v :: vs, r, p, hp => by
    rw [List.zip_cons_cons] at hp
    rcases List.mem_cons.mp hp with rfl | hp
    · exact r.1
    · exact KeysAt.zip r.2 p hp
theorem KeysAt.mono {h h' : Heap} : ∀ {ks vs : List Value}, (∀ k ∈ ks, ∀ v, KeyAt h k v → KeyAt h' k v) → KeysAt h ks vs → KeysAt h' ks vs
  | [], [], _, _ => trivial
  | k :: ks, v :: vs, m, r => ⟨m k List.mem_cons_self v r.1, KeysAt.mono (fun k hk v => m k (List.mem_cons_of_mem _ hk) v) r.2⟩
  | [], _ :: _, _, r => r.elim
  | _ :: _, [], _, r => r.elim
theorem KeysAt.snoc {h : Heap} : ∀ {ks vs : List Value} {k v : Value}, KeysAt h ks vs → KeyAt h k v → KeysAt h (ks ++ [k]) (vs ++ [v])
  | [], [], _, _, _, r => ⟨r, trivial⟩
  | _ :: _, _ :: _, _, _, a, r => ⟨a.1, KeysAt.snoc a.2 r⟩
  | [], _ :: _, _, _, a, _ => a.elim
  | _ :: _, [], _, _, a, _ => a.elim
theorem key_cmp {P : Program} {w : World} {A : Around} {s : Shared} {ks vs : List Value} (r : KeysAt s.heap ks vs) : SrtO.Cmp P w A s (tuples' true) (fun p => p ∈ ks.zip vs) (fun p q => ltZ (strOf p.2) (strOf q.2)) := by
  intro p q hm hm'
  obtain ⟨p1, p2⟩ := p
  obtain ⟨q1, q2⟩ := q
  obtain ⟨a, o, z, t, u, u', n, e, e2, ho, hc, hd⟩ := r.zip _ hm
  obtain ⟨b, o', z', t', v, v', n', f, f2, ho', hc', hd'⟩ := r.zip _ hm'
  dsimp only at e e2 f f2
  subst e; subst e2; subst f; subst f2
  show wpAny (model P w) A (keyLt' (tuples' true) (.ref a) (.ref b)) (fun r s' => s' = s ∧ r = ltZ z z') (fun _ _ => False) s
  refine kat_lt ho hd ho' hd' ?_
  show KatLex P w A true (decide (2 < 2)) _ [(.int z.length u, .int z'.length v), (.str z u', .str z' v')] 0 s
  refine kat_cons (SeqAt.EqAt.int_int _ u _ v P w _ _ ?_)
  refine kat_go (fun e1 => ?_) (fun e1 => ?_)
  · have ex : z.length = z'.length := by
      have : (z.length : Int) = z'.length := by simpa using e1
      omega
    refine kat_yes (kat_cons (SeqAt.EqAt.str_str z u' z' v' P w _ _ ?_))
    refine kat_go (fun e2 => ?_) (fun e2 => ?_)
    · have ey : z = z' := by simpa using e2
      refine kat_yes (kat_nil ⟨rfl, ?_⟩)
      subst ey
      unfold ltZ
      rw [if_pos rfl]
      exact (decide_eq_false (List.lt_irrefl _)).symm
    · refine kat_no (oneLt_any_str ⟨rfl, ?_⟩)
      unfold ltZ
      rw [if_pos ex]
  · have ex : ¬ z.length = z'.length := by
      intro k
      have : (z.length : Int) = z'.length := by omega
      simp [this] at e1
    refine kat_no (oneLt_any_int ⟨rfl, ?_⟩)
    unfold ltZ
    rw [if_neg ex]
    exact decide_eq_decide.mpr (by omega)
theorem key_kind {P : Program} {w : World} {A : Around} {E : Value → Shared → Prop} {s : Shared} {ks vs : List Value} {Q : SortKind → Shared → Prop} (r : KeysAt s.heap ks vs) (h0 : 0 < ks.length) (h : Q (tuples' true) s) : wpAny (model P w) A (keyKind' ks.toArray) Q E s := by
  obtain ⟨fs, h1, h2, h3⟩ := r.firsts
  refine kat_kind (T := .type "int") h1 (by omega) (fun f hm => ?_) (by rfl) ?_
  · obtain ⟨x, t, rfl⟩ := h3 f hm
    exact Looks.now
  · have e : (Value.type "int" != Value.type "tuple") = true := by decide +kernel
    rw [e]
    exact h
end Bs
namespace Bs
open PySem PySem.Spec PyProof.Rows L2 PySem.W PySem.Froz
theorem un_turn {fs : List Addr} {H H1 : Hp} {h h1 h2 : Heap} {C : Addr} (u : Un fs [] H H1 h h1) (hC : h.get? C = none) (k : ∀ b o, b ≠ C → h1.get? b = some o → h2.get? b = some o) : Un fs [] H H1 h h2 where
  keep := fun b o e n hb hx => k b o (fun z => by rw [z, hC] at e; cases e) (u.keep b o e n hb hx)
  slot := fun b o e n hb hx => let ⟨sl, q⟩ := u.slot b o e n hb hx; ⟨sl, k b _ (fun z => by rw [z, hC] at e; cases e) q⟩
  free := u.free
  there := fun b o e hx => let ⟨o', q⟩ := u.there b o e hx; ⟨o', k b _ (fun z => by rw [z, hC] at e; cases e) q⟩
  tups := u.tups
  frzs := u.frzs
  tbls := u.tbls
/-- a place that is not tracked and is no frame's, newer than s0 -/
structure Raw (X : Cx) (pins : List (Addr × Obj)) (s0 : Shared) (b : Addr) : Prop where
  loc : b ≠ X.env.locals
  new : X.s_0.heap.objs.size ≤ b
  cel : ∀ x c, X.env.cells.lookup x = some c → c ≠ b
  pin : ∀ p ∈ X.pn ++ pins, p.1 ≠ b
  frs : b ∉ frs X.stack
  s0 : s0.heap.get? b = none
section
variable {X : Cx} {pins : List (Addr × Obj)} {σ : L2.St} {H0 H : Hp} {s0 s : Shared} {b : Addr}
theorem raw_new (I : Inv X pins σ H s) (u : Un (frs X.stack) [] H0 H s0.heap s.heap) (hb : s.heap.objs.size ≤ b) : Raw X pins s0 b := by
  obtain ⟨_, f1, f2, f3, f4, f5⟩ := I.fpOk hb (I.hok.fresh hb)
  refine ⟨f1, Nat.le_trans I.sz hb, f4, f5, fun hm => ?_, ?_⟩
  · obtain ⟨_, o, e, _⟩ := I.stack.mem hm
    exact absurd (Nat.lt_of_lt_of_le (Heap.lt_size e) hb) (Nat.lt_irrefl _)
  · cases e : s0.heap.get? b with
    | none => rfl
    | some o =>
      obtain ⟨o', q⟩ := u.there b o e (by simp)
      exact absurd (Nat.lt_of_lt_of_le (Heap.lt_size q) hb) (Nat.lt_irrefl _)
theorem Raw.turn {h' : Heap} {t' : Nat} (r : Raw X pins s0 b) (I : Inv X pins σ H s) (hn : H b = none) (k : ∀ c o, c ≠ b → s.heap.get? c = some o → h'.get? c = some o) : Inv X pins σ H { s with heap := h', toks := t' } := I.turned k hn r.loc (.inr r.new) r.cel r.pin
/-- an object that is there is tracked from now on -/
theorem Raw.adopt {o : HO} (r : Raw X pins s0 b) (I : Inv X pins σ H s) (hn : H b = none) (new : ObjOk X.prog X.w (upd H b o) s.heap b o) (ho : ∀ c, o ≠ .own c) : Inv X pins σ (upd H b o) s := by
  have ex : ∀ c u, H c = some u → upd H b o c = some u := fun c u e => (upd_ne (ne_of_none e hn)).trans e
  have no : X.s_0.heap.get? b = none := by
    cases e : X.s_0.heap.get? b with
    | none => rfl
    | some u => exact absurd (Nat.lt_of_lt_of_le (Heap.lt_size e) r.new) (Nat.lt_irrefl _)
  refine ⟨I.ok, I.os, I.bare, ⟨I.base.keep, I.base.slot, fun c u e n hx => ?_, I.base.there, fun c xs e => ex _ _ (I.base.tups c xs e), fun c o' u e => ex _ _ (I.base.frzs c o' u e), fun c ps e => let ⟨m, q⟩ := I.base.tbls c ps e; ⟨m, ex _ _ q⟩⟩, I.loc, I.cell, ?_, fun x c e => ?_, fun p hp => ?_, fun c u e => ?_, I.len⟩
  · rw [upd_ne (fun z => by rw [z, no] at e; cases e)]
    exact I.base.free c u e n hx
  · rw [upd_ne r.loc.symm]; exact I.free
  · rw [upd_ne (r.cel x c e)]; exact I.freeC x c e
  · obtain ⟨p1, p2, p3⟩ := I.pin p hp
    exact ⟨p1, by rw [upd_ne (r.pin p hp)]; exact p2, p3⟩
  · by_cases hc : c = b
    · subst hc
      rw [upd_same] at e
      cases e
      exact new
    · rw [upd_ne hc] at e
      exact (I.hok c u e).stay (fun c u _ r => r) (fun d q => ex _ _ q) fun d xs q => ex _ _ q
/-- the key of a text, tracked -/
def KeyH (H : Hp) (k v : Value) : Prop := ∃ q z t, k = .ref q ∧ v = .str z t ∧ H q = some (.tup [.int z.length, .str z])
def KeysH (H : Hp) : List Value → List Value → Prop
  | [], [] => True
  | k :: ks, v :: vs => KeyH H k v ∧ KeysH H ks vs
  | _, _ => False
theorem KeysH.mono {H H' : Hp} (m : ∀ b o, H b = some o → H' b = some o) : ∀ {ks vs : List Value}, KeysH H ks vs → KeysH H' ks vs
  | [], [], _ => trivial
  | k :: ks, v :: vs, r => ⟨let ⟨q, z, t, a, b, c⟩ := r.1; ⟨q, z, t, a, b, m _ _ c⟩, KeysH.mono m r.2⟩
  | [], _ :: _, r => r.elim
  | _ :: _, [], r => r.elim
theorem KeysH.snoc {H : Hp} : ∀ {ks vs : List Value} {k v : Value}, KeysH H ks vs → KeyH H k v → KeysH H (ks ++ [k]) (vs ++ [v])
  | [], [], _, _, _, r => ⟨r, trivial⟩
  | _ :: _, _ :: _, _, _, a, r => ⟨a.1, KeysH.snoc a.2 r⟩
  | [], _ :: _, _, _, a, _ => a.elim
  | _ :: _, [], _, _, a, _ => a.elim
theorem KeysH.at (I : Inv X pins σ H s) : ∀ {ks vs : List Value}, KeysH H ks vs → KeysAt s.heap ks vs
  | [], [], _ => trivial
  | k :: ks, v :: vs, r => by
    refine ⟨?_, KeysH.at I r.2⟩
    obtain ⟨q, z, t, rfl, rfl, hq⟩ := r.1
    obtain ⟨its, rv, p, hz⟩ := I.tuple (SqT.of hq)
    obtain ⟨o, ho, hc, n, hd⟩ := p
    cases rv with
    | cons r1 rv =>
      cases rv with
      | cons r2 rv =>
        cases rv
        obtain ⟨u, rfl⟩ := r1
        obtain ⟨u', rfl⟩ := r2
        exact ⟨q, o, z, t, u, u', n, rfl, rfl, ho, hc, hd⟩
  | [], _ :: _, r => r.elim
  | _ :: _, [], r => r.elim
/-- a call of the key's function on a text -/
def KStep (X : Cx) (A : Around) (pins : List (Addr × Obj)) (H0 : Hp) (s0 : Shared) (kf : Addr) : Prop :=
  ∀ (σ : L2.St) (H : Hp) (s : Shared) (z : Str) (t : Tok), Inv X pins σ H s → Un (frs X.stack) [] H0 H s0.heap s.heap → (∀ b o, H0 b = some o → H b = some o) → z.length ≤ sizeLine →
    wpAny (model X.prog X.w) A (call (.ref kf) [.str z t]) (fun u s' => ∃ H' q, Inv X pins σ H' s' ∧ Un (frs X.stack) [] H H' s.heap s'.heap ∧ (∀ b o, H b = some o → H' b = some o) ∧ u = .ref q ∧ H' q = some (.tup [.int z.length, .str z])) (fun _ _ => False) s
theorem sort_keyed {A : Around} {E : Value → Shared → Prop} {kf a : Addr} {n : Nat} {vs : List Value} {ss : List Str} {R : PySem.Fin → Shared → Prop} (I : Inv X pins σ H s) (u0 : Un (frs X.stack) [] H0 H s0.heap s.heap) (hH : ∀ b o, H0 b = some o → H b = some o) (K : KStep X A pins H0 s0 kf)
    (hS : StrsAre vs ss) (ra : Raw X pins s0 a) (hna : H a = none) (ho : s.heap.get? a = some (seqObj "list" vs.toArray n)) (hz : vs.length < sizeLine) (hl : ∀ x ∈ ss, x.length ≤ sizeLine)
    (h : ∀ (out : List Value) H' s' c, Inv X pins σ H' s' → (∀ b o, H b = some o → H' b = some o) → H' a = none → SrtO.Srtd (fun v u => ltZ (strOf v) (strOf u)) out → out.Perm vs → s'.heap.get? a = some (seqObj "list" out.toArray c) → R (.done (.ret .none)) s') :
    wpAny (model X.prog X.w) A (ksk_tree a (.ref kf) false) R E s := by
  unfold ksk_tree
  refine wpAny_bind (listItems_at ho rfl ?_)
  refine wpAny_bind (listUpdate_at ho rfl ?_ (by rw [List.size_toArray]; omega) (Nat.zero_le _))
  have s1 := Heap.SameBut.update s.heap a (Obj.mapSeq fun _ => (#[] : Array Value))
  obtain ⟨e1, ho1⟩ : ∃ e1, (s.heap.update a (Obj.mapSeq fun _ => (#[] : Array Value))).get? a = some (seqObj "list" #[] e1) := ⟨_, get?_update_seq ho fun _ => #[]⟩
  have k1 : ∀ c o, c ≠ a → s.heap.get? c = some o → (s.heap.update a (Obj.mapSeq fun _ => (#[] : Array Value))).get? c = some o := fun c o hc e => (s1.2 c hc).trans e
  have I1 := ra.turn (h' := s.heap.update a (Obj.mapSeq fun _ => (#[] : Array Value))) (t' := s.toks) I hna k1
  have u1 := un_turn u0 ra.s0 k1
  generalize s.heap.update a (Obj.mapSeq fun _ => (#[] : Array Value)) = h1 at s1 ho1 I1 u1 ⊢
  refine wpAny_bind (seqEpoch_at ho1 rfl ?_)
  refine wpAny_bind (wpAny_newTuple ?_ (by show vs.length ≤ _; omega))
  refine wpAny_bind (wpAny_newList ?_ (Nat.zero_le _))
  refine wpAny_holding ?_
  have k2 : ∀ c o, h1.get? c = some o → ((h1.push (seqObj "tuple" vs.toArray 0)).push (seqObj "list" #[] 0)).get? c = some o := fun c o e => Heap.get?_push_of_some _ (Heap.get?_push_of_some _ e)
  have I2 := I1.kept (h' := (h1.push (seqObj "tuple" vs.toArray 0)).push (seqObj "list" #[] 0)) (t' := s.toks) k2
  have sz : h1.objs.size ≤ (h1.push (seqObj "tuple" vs.toArray 0)).objs.size := by rw [Heap.size_push]; omega
  have rk : Raw X pins s0 (h1.push (seqObj "tuple" vs.toArray 0)).objs.size := raw_new I1 u1 sz
  have hkn : H (h1.push (seqObj "tuple" vs.toArray 0)).objs.size = none := I1.hok.fresh sz
  have u2 : Un (frs X.stack) [] H0 H s0.heap ((h1.push (seqObj "tuple" vs.toArray 0)).push (seqObj "list" #[] 0)) := un_turn u1 ra.s0 fun c o _ e => k2 c o e
  have hk0 : ((h1.push (seqObj "tuple" vs.toArray 0)).push (seqObj "list" #[] 0)).get? (h1.push (seqObj "tuple" vs.toArray 0)).objs.size = some (seqObj "list" #[] 0) := Heap.get?_push_size _ rfl
  have hka : (h1.push (seqObj "tuple" vs.toArray 0)).objs.size ≠ a := Nat.ne_of_gt (Heap.lt_size (Heap.get?_push_of_some _ ho1))
  have hoa := k2 a _ ho1
  show wpAny (model X.prog X.w) A _ R E { s with heap := (h1.push (seqObj "tuple" vs.toArray 0)).push (seqObj "list" #[] 0) }
  generalize (h1.push (seqObj "tuple" vs.toArray 0)).objs.size = kS at rk hkn hk0 hka ⊢
  generalize (h1.push (seqObj "tuple" vs.toArray 0)).push (seqObj "list" #[] 0) = h2 at hk0 hoa I2 u2 ⊢
  unfold ksk_rest
  refine wpAny_bind (wpAny_rule ?_)
  first
    | rw [List.forIn_toArray]
    | (rw [← Array.forIn_toList]; simp only [List.toList_toArray])
    | rw [← Array.forIn_toList]
  refine wpAny_bind (ksk_fold (fun i s' => ∃ H' kA e, Inv X pins σ H' s' ∧ Un (frs X.stack) [] H0 H' s0.heap s'.heap ∧ (∀ b o, H b = some o → H' b = some o) ∧ s'.heap.get? a = some (seqObj "list" #[] e1) ∧ s'.heap.get? kS = some (seqObj "list" kA e) ∧ H' a = none ∧ H' kS = none ∧ KeysH H' kA.toList (vs.take i)) vs 0 { s with heap := h2 }
    ⟨H, #[], 0, I2, u2, fun _ _ e => e, hoa, hk0, hna, hkn, trivial⟩ ?step ?done)
  case step =>
    rintro j x s' hx ⟨H', kA, e, I3, u3, m3, a3, b3, na3, nb3, k3⟩
    simp only [Nat.zero_add] at k3 ⊢
    have hj : j < vs.length := (List.getElem?_eq_some_iff.mp hx).1
    obtain ⟨z, t, rfl⟩ := hS.all x (List.mem_of_getElem? hx)
    have hzl : z.length ≤ sizeLine := by
      refine hl z ?_
      rw [← hS.strs]
      exact List.mem_map.mpr ⟨_, List.mem_of_getElem? hx, rfl⟩
    have kl : kA.size = j := by
      have gen : ∀ {ks us : List Value}, KeysH H' ks us → ks.length = us.length := by
        intro ks
        induction ks with
        | nil => intro us r; cases us with | nil => rfl | cons => exact r.elim
        | cons k ks ih => intro us r; cases us with | nil => exact r.elim | cons u us => rw [List.length_cons, List.length_cons, ih r.2]
      have q := gen k3
      rw [Array.length_toList, List.length_take] at q
      omega
    refine wpAny_bind (wpAny_attempt (wpAny_mono (K σ H' s' z t I3 u3 (fun b o e => m3 b o (hH b o e)) hzl) (fun u s4 hq => ?_) fun _ _ f => f.elim))
    obtain ⟨H4, q, I4, u4, m4, rfl, hq⟩ := hq
    have a4 : s4.heap.get? a = some (seqObj "list" #[] e1) := u4.keep a _ a3 na3 ra.frs (by simp)
    have b4 : s4.heap.get? kS = some (seqObj "list" kA e) := u4.keep kS _ b3 nb3 rk.frs (by simp)
    have na4 : H4 a = none := u4.free a _ a3 na3 (by simp)
    have nb4 : H4 kS = none := u4.free kS _ b3 nb3 (by simp)
    try dsimp only
    have s5 := Heap.SameBut.update s4.heap kS (Obj.mapSeq (·.push (Value.ref q)))
    obtain ⟨c5, hc5⟩ : ∃ c5, (s4.heap.update kS (Obj.mapSeq (·.push (Value.ref q)))).get? kS = some (seqObj "list" (kA.push (.ref q)) c5) := ⟨_, get?_update_seq b4 (·.push (Value.ref q))⟩
    have k5 : ∀ c o, c ≠ kS → s4.heap.get? c = some o → (s4.heap.update kS (Obj.mapSeq (·.push (Value.ref q)))).get? c = some o := fun c o hc e => (s5.2 c hc).trans e
    refine wpAny_bind (listUpdate_at b4 rfl ?_ (by omega) (Nat.le_trans (Nat.le_of_eq (Array.size_push ..)) (by omega)))
    refine wpAny_pure ⟨rfl, H4, kA.push (.ref q), c5, rk.turn (t' := s4.toks) I4 nb4 k5, un_turn (u3.trans u4) rk.s0 k5, fun b o e => m4 b o (m3 b o e), k5 a _ hka.symm a4, hc5, na4, nb4, ?_⟩
    have ek : vs.take (j + 1) = vs.take j ++ [Value.str z t] := by rw [List.take_add_one, hx] <;> rfl
    have ea : (kA.push (Value.ref q)).toList = kA.toList ++ [.ref q] := by simp
    rw [ea, ek]
    exact (k3.mono m4).snoc ⟨q, z, t, rfl, rfl, hq⟩
  case done =>
    rintro s' ⟨H', kA, e, I3, u3, m3, a3, b3, na3, nb3, k3⟩
    rw [Nat.zero_add, List.take_of_length_le (Nat.le_refl _)] at k3
    have kat := KeysH.at I3 k3
    have hsz : kA.size = vs.length := by
      have q := kat.len
      rw [Array.length_toList] at q
      exact q
    try dsimp only
    refine wpAny_bind (listItems_at b3 rfl ?_)
    have fin : ∀ st : SortSt, SrtO.Srtd (fun p q : Keyed => ltZ (strOf p.2) (strOf q.2)) (arrOf st).toList → (arrOf st).toList.Perm (kA.toList.zip vs) → failedOf st = none →
        wpAny (model X.prog X.w) A (ksk_tail a false e1 (.ref kS) st) R E s' := fun st b1 b2 b4 => by
      have q2 : ((arrOf st).map (·.2)).toList.Perm vs := by
        rw [Array.toList_map]
        have := b2.map (fun p : Keyed => p.2)
        rw [List.map_snd_zip (l₁ := kA.toList) (l₂ := vs) (Nat.le_of_eq kat.len.symm)] at this
        exact this
      have hsz2 : ((arrOf st).map (·.2)).size = vs.length := by
        rw [← Array.length_toList]
        exact q2.length_eq
      have t1 := Heap.SameBut.update s'.heap kS (Obj.mapSeq fun _ => (#[] : Array Value))
      have kk1 : ∀ c o, c ≠ kS → s'.heap.get? c = some o → (s'.heap.update kS (Obj.mapSeq fun _ => (#[] : Array Value))).get? c = some o := fun c o hc e => (t1.2 c hc).trans e
      have J1 := rk.turn (h' := s'.heap.update kS (Obj.mapSeq fun _ => (#[] : Array Value))) (t' := s'.toks) I3 nb3 kk1
      have na1 : (s'.heap.update kS (Obj.mapSeq fun _ => (#[] : Array Value))).get? a = some (seqObj "list" #[] e1) := kk1 a _ hka.symm a3
      have t2 := Heap.SameBut.update (s'.heap.update kS (Obj.mapSeq fun _ => (#[] : Array Value))) a (Obj.mapSeq fun _ => (arrOf st).map (·.2))
      have J2 := ra.turn (h' := (s'.heap.update kS (Obj.mapSeq fun _ => (#[] : Array Value))).update a (Obj.mapSeq fun _ => (arrOf st).map (·.2))) (t' := s'.toks) J1 na3 fun c o hc e => (t2.2 c hc).trans e
      obtain ⟨c2, hc2⟩ : ∃ c2, ((s'.heap.update kS (Obj.mapSeq fun _ => (#[] : Array Value))).update a (Obj.mapSeq fun _ => (arrOf st).map (·.2))).get? a = some (seqObj "list" ((arrOf st).map (·.2)) c2) := ⟨_, get?_update_seq na1 fun _ => (arrOf st).map (·.2)⟩
      unfold ksk_tail
      try dsimp only
      refine wpAny_bind (listUpdate_at b3 rfl ?_ (by omega) (Nat.zero_le _))
      refine wpAny_bind (wpAny_letGo ?_)
      refine wpAny_bind (seqEpoch_at na1 rfl ?_)
      refine wpAny_bind (listUpdate_at na1 rfl ?_ (Nat.zero_le _) (Nat.le_trans (Nat.le_of_eq hsz2) (by omega)))
      rw [b4]
      simp only [bne_self_eq_false, Bool.false_eq_true, if_false]
      refine wpAny_pure (h _ H' _ c2 J2 m3 na3 ?_ q2 (by rw [Array.toArray_toList]; exact hc2))
      rw [Array.toList_map]
      exact List.pairwise_map.mpr b1
    unfold ksk_end
    try dsimp only
    simp only [Bool.false_eq_true, if_false]
    have ez : (kA.zip vs.toArray).toList = kA.toList.zip vs := ksk_zip kA vs
    by_cases h2' : vs.toArray.size < 2
    · rw [if_pos h2', if_pos h2']
      refine wpAny_bind (wpAny_pure ?_)
      rw [StateT.run_pure]
      refine wpAny_bind (wpAny_pure ?_)
      try dsimp only
      refine fin (SortSt.mk' general' (kA.zip vs.toArray) #[] 7 none) ?_ (by
        show (kA.zip vs.toArray).toList.Perm _
        rw [ez]) rfl
      show SrtO.Srtd _ (kA.zip vs.toArray).toList
      have hl1 : (kA.zip vs.toArray).toList.length < 2 := by
        rw [ez, List.length_zip, Array.length_toList, hsz]
        rw [List.size_toArray] at h2'
        omega
      generalize (kA.zip vs.toArray).toList = L at hl1
      match L, hl1 with
      | [], _ => exact List.Pairwise.nil
      | [x], _ => exact List.pairwise_singleton _ _
      | x :: y :: r, h => exact absurd h (by simp)
    · rw [if_neg h2', if_neg h2']
      rw [List.size_toArray] at h2'
      refine wpAny_bind ?_
      have ek : kA = kA.toList.toArray := by simp
      have hl0 : 0 < kA.toList.length := by
        rw [Array.length_toList, hsz]
        have h3 : ¬ vs.length < 2 := by simpa using h2'
        omega
      rw [ek]
      refine key_kind kat hl0 ?_
      rw [← ek]
      refine wpAny_bind (wpAny_mono (SrtO.wpS_sortO (st0 := SortSt.mk' (tuples' true) (kA.zip vs.toArray) #[] 7 none)
        (Q := fun _ st' => SrtO.Srtd (fun p q : Keyed => ltZ (strOf p.2) (strOf q.2)) (arrOf st').toList ∧ SrtO.Stb (fun p q : Keyed => ltZ (strOf p.2) (strOf q.2)) (arrOf st').toList (kA.zip vs.toArray).toList ∧ failedOf st' = none) swo_Z (key_cmp kat) rfl (fun p hp => ?_) rfl rfl fun st' a1 a2 a3 => ⟨a1, a2, a3⟩) ?_ fun _ _ e => e)
      · have hp' : p ∈ (kA.zip vs.toArray).toList := hp
        rw [ez] at hp'
        exact hp'
      rintro ⟨⟨⟩, st'⟩ s5 ⟨rfl, b1, b2, b3⟩
      try dsimp only
      rw [ez] at b2
      exact fin st' b1 b2.perm b3
end
end Bs
namespace Bs
open PySem PySem.Spec PyProof.Rows L2 PySem.W PySem.Froz LamX
/-- the names of a lambda of one parameter that captures nothing -/
structure LamP (par : Str) (scope : Scope) : Prop where
  kind : scope.kind = .function
  co : scope.isCoroutine = false
  gen : scope.isGenerator = false
  par : scope.names.lookup par = some .local
  own : ∀ y ∈ scope.names, y.2 ≠ .cell ∧ y.2 ≠ .free
def lamPB (par : Str) (scope : Scope) : Bool := (scope.kind == .function && !scope.isCoroutine && !scope.isGenerator && scope.names.lookup par == some .local) && scope.names.all fun y => y.2 != .cell && y.2 != .free
theorem lamP_by {par : Str} {scope : Scope} (h : lamPB par scope = true) : LamP par scope := by
  unfold lamPB at h
  simp only [Bool.and_eq_true, beq_iff_eq, Bool.not_eq_true', List.all_eq_true, bne_iff_ne] at h
  obtain ⟨⟨⟨⟨h1, h2⟩, h3⟩, h4⟩, h5⟩ := h
  exact ⟨h1, h2, h3, h4, h5⟩
/-- a lambda's call: its parameter alone is a slot -/
abbrev lamC1 (X : Cx) (A : Around) (outer : List Env) (s : Shared) (H : Hp) (E : XK) (scope : Scope) (f c' : Addr) (par : Str) : Cx := { lamCx X A outer s H E scope f c' with N := [par] }
section
variable {X : Cx} {pins : List (Addr × Obj)} {σ : L2.St} {H0 H HZ : Hp} {s0 s s1 : Shared}
theorem lam_start1 {A : Around} {outer : List Env} {E : XK} {scope : Scope} {f c' : Addr} {h₁ : Heap} {tk : Nat} {par : Str} {v : V} {u : Value} (rv : RelV v u) (L : LamP par scope) (e0 : Env0 X.prog X.w X.K X.mg X.base A outer s1 HZ) (hd : A.handled = none)
    (hns : h₁.Ns s1.heap.objs.size fun y => ([(par, u)] : List (Str × Value)).reverse.lookup y) (kp : ∀ b o, s1.heap.get? b = some o → h₁.get? b = some o) :
    Inv (lamC1 X A outer s1 HZ E scope f c' par) [] [some v] HZ { s1 with heap := h₁, toks := tk } := by
  have nocell : ∀ y c, (cloFrom X.env.cells scope.names []).lookup y = some c → False := fun y c e => by
    rcases cloFrom_mem (PySem.mem_of_lookup e) with hm | ⟨h1, _⟩
    · cases hm
    · exact (L.own _ h1).2 rfl
  have noA : ∀ b : Addr, b ∉ (lamC1 X A outer s1 HZ E scope f c' par).ex := fun b z => absurd (show b ∈ ([] : List Addr) from z) (by simp)
  refine ⟨⟨e0.mod, L.kind, rfl, rfl, Nat.le_refl _, fun y z c e1 e2 => (nocell y c e1).elim, fun y hy => ?_, fun y c z _ => ?_, fun _ => hd, Around.frames_deeper e0.frames, .inr ⟨rfl, rfl⟩, fun b z => absurd z (noA b), e0.bs, e0.bsz, fun b _ _ => noA b,
      fun b z => absurd z (noA b), e0.funs, e0.frf⟩,
    rfl, e0.bare, Un.kept kp, ⟨_, hns, fun i y v' e1 e2 e3 => ?_⟩, fun y c e => (nocell y c e).elim, e0.hok.fresh (Nat.le_refl _), fun y c e => (nocell y c e).elim, fun q hq => absurd (show q ∈ ([] : List (Addr × Obj)) ++ [] from hq) (by simp), e0.hok.kept kp, rfl⟩
  · have hy : scope.names.lookup y = some .cell ∨ scope.names.lookup y = some .free := hy
    rcases hy with hy | hy
    · exact absurd rfl (L.own _ (PySem.mem_of_lookup hy)).1
    · exact absurd rfl (L.own _ (PySem.mem_of_lookup hy)).2
  · have z : false = true := z
    cases z
  · match i with
    | 0 =>
      have e1 : some par = some y := e1
      have e2 : some (some v) = some (some v') := e2
      cases e1
      cases e2
      refine ⟨u, rv, .inl ⟨L.par, ?_⟩⟩
      simp [List.lookup_cons]
    | i + 1 => cases e1
/-- what the sort asks of the lambda -/
theorem kstep_of {f c' : Addr} {pm ctv : Value} {params : Arguments} {body : Expr} {scope : Scope} {par : Str} {tb : TE} {q : Str} {A : Around} (L : LamP par scope) (hr : Room 1 A) (hA : A.frames = some X.stack)
    (hf : s0.heap.get? f = some (kla_obj "<lambda>" q params body scope (cloFrom X.env.cells scope.names []) pm c' ctv)) (hfn : H0 f = none) (hfr : f ∉ frs X.stack) (hc : H0 c' = some (CodeO c' q)) (hq : q = X.env.qual ++ "<lambda>")
    (hbind : ∀ u : Value, bindArgs (kla_fn "<lambda>" q params body scope (cloFrom X.env.cells scope.names []) pm (.ref c') ctv) ⟨[u], []⟩ = pure [(par, u)])
    (hbody : ∀ (A : Around) (outer : List Env) (s : Shared) (H : Hp) (E : XK), PE (lamC1 X A outer s H E scope f c' par) body tb)
    (htb : ∀ (z : Str) (H : Hp) (Q : L2.VK), z.length ≤ sizeLine → (∀ p, H p = none → Q (.ref p) (upd H p (.tup [.int z.length, .str z]))) → tb [some (.str z)] H Q) : KStep X A pins H0 s0 f := by
  intro σ H s z t I un hH hz
  have hf1 := un.keep f _ hf hfn hfr (by simp)
  obtain ⟨⟨oc, vs, tk, hoc, hdc, hvc⟩, _, _⟩ := I.hok c' _ (hH _ _ hc)
  have e0 : Env0 X.prog X.w X.K X.mg X.base A X.stack s H := ⟨hA, I.env0.mod, I.env0.bs, I.env0.bsz, I.env0.funs, I.env0.frf, I.env0.hok, I.env0.bare⟩
  have lim : s.heap.NoLimit := e0.mod.nolimit.keeps fun b o e => (e0.bs b o e).1
  have run : codeAny (model X.prog X.w) A (.call (.ref f) ⟨[.str z t], []⟩) (CR (L2.CX X.prog X.w) X.stack X.prog X.w H s (fun v H' => ∃ p, v = .ref p ∧ H p = none ∧ H' = upd H p (.tup [.int z.length, .str z])) fun _ _ _ => False) s := by
    refine kla_callFunE hr.depth hf1 rfl L.co L.gen rfl ⟨c', oc, vs, tk, rfl, hoc, hdc, hvc⟩ ?_
    rw [hbind]
    refine wpAny_pure (wpAny_newFunctionEnv (fun y hy => (L.own y hy).1) (fun y hy => by
      rw [List.mem_singleton] at hy
      subst hy
      exact L.par) (fun h₁ hns hsb => ⟨lim.fresh _ hsb, ?_⟩) L.kind)
    subst hq
    show codeAny _ _ (.expr body (lamEnv X scope s.heap.objs.size f c')) _ _
    have kp : ∀ b o, s.heap.get? b = some o → h₁.get? b = some o := fun b o e => hsb.extBut b o (Nat.ne_of_lt (Heap.lt_size e)) (Heap.get?_push_of_some _ e)
    have J : Inv (lamC1 X A X.stack s H (fun _ _ _ => False) scope f c' par) [] [some (.str z)] H { s with heap := h₁, toks := s.toks + ([(par, Value.str z t)] : List (Str × Value)).length } := lam_start1 ⟨t, rfl⟩ L e0 hr.hd hns kp
    refine kla_codeExpr (wpAny_mono ((hbody _ _ s H _).run [] _ _ H (fun v H' => ∃ p, v = .ref p ∧ H p = none ∧ H' = upd H p (.tup [.int z.length, .str z])) J (htb z H _ hz fun p hp => ⟨p, rfl, hp, rfl⟩)) (fun v s' hq => ?_) fun e s' hq => hq)
    obtain ⟨w', H', J', rv, q⟩ := hq
    exact ⟨w', H', J'.os, J'.bare, J'.base, J'.hok, rv, q⟩
  refine wpAny_call (codeAny_mono run fun r s' hq => ?_)
  cases r with
  | error e =>
    obtain ⟨_, _, _, _, _, _, _, _, _, _, _, _, z⟩ := hq
    exact z.elim
  | ok fl =>
    cases fl with
    | ret u =>
      obtain ⟨v, H', os, bare, un', hok, rv, p, rfl, hp, rfl⟩ := hq
      obtain ⟨hh, g, d, t', os'⟩ := s'
      obtain rfl : os' = s.os := os
      cases rv
      exact ⟨_, p, I.call (h' := hh) (g' := g) (d' := d) (t' := t') (ch := []) un' hok bare (fun b z => absurd z (by simp)), un', fun b o e => (upd_ne (ne_of_none e hp)).trans e, rfl, upd_same⟩
    | next => exact False.elim hq
    | brk => exact False.elim hq
    | cont => exact False.elim hq
theorem collect_tup {A : Around} {E : Value → Shared → Prop} {l : Addr} {vs : List Value} {Q : List Value → Shared → Prop} (hl : s.heap.IsTuple l vs.toArray)
    (h : Q vs { s with heap := (s.heap.push (seqObj "list" #[] 0)).update s.heap.objs.size (Obj.mapSeq (· ++ vs.toArray)) }) (hz : vs.length ≤ sizeLine) : wpAny (model X.prog X.w) A (collect (.ref l)) Q E s := by
  obtain ⟨oT, hoT, hcT, nT, hdT⟩ := id hl
  have hoT' : (s.heap.push (seqObj "list" #[] 0)).get? l = some oT := Heap.get?_push_of_some _ hoT
  have hself : (s.heap.push (seqObj "list" #[] 0)).get? s.heap.objs.size = some (seqObj "list" #[] 0) := Heap.get?_push_size _ rfl
  have tt : (Value.type "tuple" == Value.type "tuple") = true := by rfl
  unfold collect
  refine wpAny_bind (wpAny_runValue (codeAny_builtin entry_proto_collect' ?_)) <;> show wpAny (model X.prog X.w) _ (do again (.builtin "list.__iadd__" ⟨[← newList [], .ref l], []⟩)) _ _ s
  refine wpAny_bind (wpAny_newList (wpAny_pure ⟨Code.quiet_builtin _ (by decide +kernel), codeAny_builtin entry_list_iadd' ?_⟩) (by decide))
  show wpAny (model X.prog X.w) _ (Builtin.List.listExtendWith (.ref s.heap.objs.size) (.ref l) (.ref s.heap.objs.size)) _ _ { s with heap := s.heap.push (seqObj "list" #[] 0) }
  unfold Builtin.List.listExtendWith
  refine wpAny_bind (wpAny_typeOf (T := "tuple") ⟨oT, hoT', hcT⟩ ?_)
  rw [if_pos (by rw [tt]; simp)]
  refine wpAny_bind (listItems_at hoT' hdT (wpAny_bind (listItems_at (xs := #[]) (n := 0) hself rfl ?_)))
  rw [if_neg (by simp)]
  refine wpAny_bind (listUpdate_at (xs := #[]) (n := 0) hself rfl ?_ (Nat.zero_le _) (Nat.le_succ_of_le (by simpa using hz)))
  refine wpAny_pure ?_
  show wpAny (model X.prog X.w) A (do
      let cell ← load s.heap.objs.size
      match cell.data with
      | .seq ys _ => pure ys.toList
      | _ => unsupported "internal:collect") Q E { s with heap := (s.heap.push (seqObj "list" #[] 0)).update s.heap.objs.size (Obj.mapSeq (· ++ vs.toArray)) }
  refine wpAny_bind (wpAny_load (get?_update_seq hself _) ?_)
  have ev : ((#[] : Array Value) ++ vs.toArray).toList = vs := by simp
  show wpAny _ _ (pure ((#[] : Array Value) ++ vs.toArray).toList) Q E _
  rw [ev]; exact wpAny_pure h
theorem call_sorted_key {E : Value → Shared → Prop} {l f : Addr} {vs : List Value} {ss : List Str} {Q : Value → Shared → Prop} (I : Inv X pins σ H s) (u0 : Un (frs X.stack) [] H0 H s0.heap s.heap) (hH : ∀ b o, H0 b = some o → H b = some o) (K : KStep X X.A.in1.in1 pins H0 s0 f)
    (hS : StrsAre vs ss) (hl : s.heap.IsList l vs.toArray ∨ s.heap.IsTuple l vs.toArray) (hz : vs.length < sizeLine) (hs : ∀ x ∈ ss, x.length ≤ sizeLine)
    (h : ∀ (out : List Value) H' s' c p, Inv X pins σ H' s' → (∀ b o, H b = some o → H' b = some o) → H' p = none → Raw X pins s0 p → SrtO.Srtd (fun v u => ltZ (strOf v) (strOf u)) out → out.Perm vs → s'.heap.get? p = some (seqObj "list" out.toArray c) → Q (.ref p) s') :
    wpAny (model X.prog X.w) X.A (call (.builtin "sorted") [.ref l] [(Str.ofString "key", .ref f)]) Q E s := by
  refine call_function_entry_kw kind_sorted plain_sorted entry_sorted (ksk_s1 _ _) ?_
  unfold Builtin.«sorted»
  refine wpAny_bind (m := checkCount "sorted" 1 1 _) (wpAny_pure ?_)
  have col : ∀ (A : Around) (Q : List Value → Shared → Prop) (E : Value → Shared → Prop), Q vs { s with heap := (s.heap.push (seqObj "list" #[] 0)).update s.heap.objs.size (Obj.mapSeq (· ++ vs.toArray)) } → wpAny (model X.prog X.w) A (collect (.ref l)) Q E s := fun A Q E hq =>
    hl.elim (fun hl => collect_list hl hq (by omega)) fun hl => collect_tup hl hq (by omega)
  refine wpAny_bind (col _ _ _ ?_)
  refine wpAny_bind (wpAny_newList ?_ (by omega))
  have hsz : ((s.heap.push (seqObj "list" #[] 0)).update s.heap.objs.size (Obj.mapSeq (· ++ vs.toArray))).objs.size = s.heap.objs.size + 1 := by
    rw [Heap.size_update, size_push']
  have hoL : (((s.heap.push (seqObj "list" #[] 0)).update s.heap.objs.size (Obj.mapSeq (· ++ vs.toArray))).push (seqObj "list" vs.toArray 0)).get? (s.heap.objs.size + 1) = some (seqObj "list" vs.toArray 0) := by
    rw [← hsz]; exact Heap.get?_push_size _ rfl
  have keep : ∀ b o, s.heap.get? b = some o → (((s.heap.push (seqObj "list" #[] 0)).update s.heap.objs.size (Obj.mapSeq (· ++ vs.toArray))).push (seqObj "list" vs.toArray 0)).get? b = some o := fun b o q => by
    have hlt : b < s.heap.objs.size := Heap.lt_size q
    refine Heap.get?_push_of_some _ ?_
    rw [Heap.get?_update_ne _ _ _ _ (Nat.ne_of_lt hlt)]
    exact Heap.get?_push_of_some _ q
  have ra : Raw X pins s0 (s.heap.objs.size + 1) := raw_new I u0 (Nat.le_succ _)
  have hna : H (s.heap.objs.size + 1) = none := I.hok.fresh (Nat.le_succ _)
  have I1 := I.kept (t' := s.toks) keep
  have u1 : Un (frs X.stack) [] H0 H s0.heap (((s.heap.push (seqObj "list" #[] 0)).update s.heap.objs.size (Obj.mapSeq (· ++ vs.toArray))).push (seqObj "list" vs.toArray 0)) := un_turn u0 ra.s0 fun c o _ e => keep c o e
  show wpAny _ _ _ _ _ { s with heap := ((s.heap.push (seqObj "list" #[] 0)).update s.heap.objs.size (Obj.mapSeq (· ++ vs.toArray))).push (seqObj "list" vs.toArray 0) }
  rw [hsz]
  generalize ((s.heap.push (seqObj "list" #[] 0)).update s.heap.objs.size (Obj.mapSeq (· ++ vs.toArray))).push (seqObj "list" vs.toArray 0) = hh at hoL I1 u1 ⊢
  refine wpAny_bind (wpAny_holding (wpAny_call_entry_kw slot_list_sort ⟨_, hoL, rfl⟩ entry_list_sort ?body (ksk_l1 _ _)))
  case body =>
    have ht' := ksk_t1 f (s.heap.objs.size + 1)
    show wpAny (model X.prog X.w) X.A.in1.in1 (Builtin.«list.sort» ⟨[.ref (s.heap.objs.size + 1)], [(Str.ofString "key", .ref f)]⟩) _ _ _
    rw [ht']
    exact sort_keyed I1 u1 hH K hS ra hna hoL hz hs fun out H' s' c J m na b1 b2 hc => ⟨_, rfl, wpAny_pure ⟨_, rfl, h out H' s' c _ J m na ra b1 b2 hc⟩⟩
/-- sorted(a, key=lambda x: (len(x), x)) -/
def tSortKey (K : PySem.W.Frag) (T : List (Addr × Str)) (ta : TE) : TE := fun σ H Q => ta σ H fun x H1 => Tabs T H1 ∧ ∃ (a : Addr) (ss : List Str), x = .ref a ∧ (SqL K H1 a (ss.map V.str) ∨ SqT K H1 a (ss.map V.str)) ∧ ss.length < sizeLine ∧ (∀ x ∈ ss, x.length ≤ sizeLine) ∧
  ∀ (H2 : Hp) (zs : List Str) (p : Addr), ExtN H1 H2 → Tabs T H2 → zs.Perm ss → zs.Pairwise (fun x y => ltZ y x = false) → H2 p = none → Q (.ref p) (upd H2 p (.lst (zs.map V.str)))
theorem pe_sortKey {T : List (Addr × Str)} {c Pt : Addr} {par : Str} {a body : Expr} {params : Arguments} {scope : Scope} {ta tb : TE} {p lpos kp pos : Pos} (hg : Gl X "sorted") (hm : X.mg "sorted" = none) (TB : TabB X.base X.mg c Pt) (hcode : X.env.code = .ref c) (hmT : (Pt, X.env.qual ++ "<lambda>") ∈ T) (hu : ∀ p ∈ T, p.1 = Pt → p.2 = X.env.qual ++ "<lambda>")
    (hr : Room 3 X.A) (L : LamP par scope) (ha : PE X a ta)
    (hbody : ∀ (A : Around) (outer : List Env) (s : Shared) (H : Hp) (E : XK) (f c' : Addr), PE (lamC1 X A outer s H E scope f c' par) body tb)
    (htb : ∀ (z : Str) (H : Hp) (Q : L2.VK), z.length ≤ sizeLine → (∀ p, H p = none → Q (.ref p) (upd H p (.tup [.int z.length, .str z]))) → tb [some (.str z)] H Q)
    (hdef : defaultsOf params X.env = ([], []) := by rfl) (hbind : ∀ (q : Str) (cl : List (Str × Addr)) (pm cv ctv u : Value), bindArgs (kla_fn "<lambda>" q params body scope cl pm cv ctv) ⟨[u], []⟩ = pure [(par, u)] := by intros; rfl)
    (he : backTo pos (starEach [a] X.env) = (false, eval a X.env) :: backTo pos (starEach [] X.env) := by rfl) (hpl : (backTo pos (starEach [a] X.env)).any (·.1) = false := by rfl) :
    PE X (.Call (.Name "sorted" p) [a] [⟨some "key", .Lambda params body scope lpos, kp⟩] pos) (tSortKey X.K T ta) := by
  refine ⟨fun pins s σ H Q I h => ?_⟩
  refine wpAny_Call_Name_kw (ld_blt I hg hm (by decide +kernel : bootBuiltins "sorted" = some (.builtin "sorted")) ?_)
  refine callWith_kw ?_ he hpl (by rfl) (by rfl)
  have key : wpAny (model X.prog X.w) X.A (spliced (backTo pos (starEach [a] X.env))) (fun vs s₁ => wpAny (model X.prog X.w) X.A (evalAll [do let v ← eval (.Lambda params body scope lpos) X.env; standAt pos; pure v])
      (fun kvs s₂ => wpAny (model X.prog X.w) X.A (call (.builtin "sorted") vs ([Str.ofString "key"].zip kvs)) (EP X pins σ Q) X.xe s₂) X.xe s₁) X.xe s := by
    rw [he]
    refine Calls.spliced_cons (thn (ha.run pins s σ H _ I h) fun v s1 ⟨x, H1, I1, r1, q1⟩ => args_nil ?_)
    obtain ⟨hT, b, ss, rfl, hq, hz, hs, q1⟩ := q1
    cases r1
    refine wpAny_evalAll_cons (wpAny_bind (lam_make2 I1 TB hcode hmT hu hT hdef (fun y hy e => absurd e (L.own y hy).2) fun f c' pm ctv H2 s2 I2 e2 T2 hf hfn hfr hco => wpAny_bind (wpAny_standAt (wpAny_pure ?_))))
    refine wpAny_evalAll_nil ?_
    have hq2 : SqL X.K H2 b (ss.map V.str) ∨ SqT X.K H2 b (ss.map V.str) := by
      rcases hq with ((h | ⟨o, h⟩) | h) | ((h | ⟨o, h⟩) | h)
      · exact .inl (.inl (.inl (e2 _ _ h (fun _ z => by cases z))))
      · exact .inl (.inl (.inr ⟨o, e2 _ _ h (fun _ z => by cases z)⟩))
      · exact .inl (.inr h)
      · exact .inr (.inl (.inl (e2 _ _ h (fun _ z => by cases z))))
      · exact .inr (.inl (.inr ⟨o, e2 _ _ h (fun _ z => by cases z)⟩))
      · exact .inr (.inr h)
    obtain ⟨its, rv, pl⟩ : ∃ its : List Value, Vals (ss.map V.str) its ∧ (s2.heap.IsList b its.toArray ∨ s2.heap.IsTuple b its.toArray) := by
      rcases hq2 with h | h
      · obtain ⟨its, rv, pl, _⟩ := I2.list h
        exact ⟨its, rv, .inl pl.isList⟩
      · obtain ⟨its, rv, pl, _⟩ := I2.tuple h
        exact ⟨its, rv, .inr pl⟩
    have hl2 := rv.length
    rw [List.length_map] at hl2
    have ks : KStep X X.A.in1.in1 pins H2 s2 f := kstep_of L (Room.in1 (Room.in1 hr)) (by rw [← I2.ok.frames] <;> rfl) hf hfn hfr hco rfl (fun u => hbind _ _ _ _ _ u) (fun A outer s H E => hbody A outer s H E f c') htb
    have u0 : Un (frs X.stack) [] H2 H2 s2.heap s2.heap := Un.kept fun _ _ e => e
    refine call_sorted_key I2 u0 (fun _ _ e => e) ks (strsAre_of rv) pl (by omega) hs fun out H' s' cc p J m np rp b1 b2 hc => ?_
    have hS := strsAre_of rv
    have sq : StrsAre out (out.map strOf) := strsAre_map out fun v hv => hS.all v (b2.mem_iff.mp hv)
    have pm2 : (out.map strOf).Perm ss := by
      have := b2.map strOf
      rw [hS.strs] at this
      exact this
    have hlen : ((out.map strOf).map V.str).length ≤ sizeLine := by rw [List.length_map, pm2.length_eq]; omega
    have J2 : Inv X pins σ (upd H' p (.lst ((out.map strOf).map V.str))) s' := rp.adopt J np ⟨hlen, out, cc, vals_strs sq, hc⟩ fun _ z => by cases z
    exact ⟨.ref p, _, J2, rfl, q1 H' _ p (e2.trans (ExtN.of m)) (T2.ext m) pm2 (List.pairwise_map.mpr b1) np⟩
  exact key
end
end Bs
/-! Calls with keywords, with defaults, of defs that may raise; texts by <=. -/
namespace Bs
open PySem PySem.Spec PyProof.Rows L2 K0
/-- nothing leaves -/
theorem passNo {X : Cx} : Passes (L2.CX X.prog X.w) X (fun _ _ _ => False) := fun _ _ _ _ _ _ _ c => by
  obtain ⟨_, _, _, _, _, _, _, _, _, _, _, _, z⟩ := c
  exact z.elim
/-- by places -/
def permL {α : Type} (idx : List Nat) (l : List α) : List α := idx.filterMap fun i => l[i]?
/-- n positional values and keywords ks: gD puts them, and what lacks, in the parameters' order -/
structure FnVK (P : Program) (w : World) (K : PySem.W.Frag) (mg : Str → Option Value) (base : Heap) (k : Nat) (x : Str) (ps : List Str) (W : Wd) (f : Fd) (n : Nat) (ks : List Str) (gD : List D → List D → List D) : Prop where
  ex : ∃ g fd gg gV, FnOk P w K mg base (L2.CX P w) k g fd ps (spV W ps.length f) ∧ mg x = some (.ref g) ∧ PySem.W.keepIn K (.ref g) = true ∧ KBn K fd ps n ks gg gV ∧
    ∀ (S : Addr → Prop) (H : Hp) (vs zs : List V) (ds es : List D), vs.length = n → zs.length = ks.length → RepL W S H vs ds → RepL W S H zs es → RepL W S H (gV vs zs) (gD ds es)
/-- the same, no keyword written: the defaults dvs (scalars) lack -/
structure FnVD (P : Program) (w : World) (K : PySem.W.Frag) (mg : Str → Option Value) (base : Heap) (k : Nat) (x : Str) (ps : List Str) (W : Wd) (f : Fd) (n : Nat) (dvs : List V) (dd : List D) : Prop where
  ex : ∃ g fd ds, FnOk P w K mg base (L2.CX P w) k g fd ps (spV W ps.length f) ∧ mg x = some (.ref g) ∧ PySem.W.keepIn K (.ref g) = true ∧ Vals dvs ds ∧ Binds K fd ps ds ∧ ∀ (S : Addr → Prop) (H : Hp), RepL W S H dvs dd
section
variable {X : Cx} {A : Am} {E : L2.St → XK} {e : Expr} {es : List Expr} {kws : List Keyword} {τl τk : TV (List D)} {pos : Pos} {k n : Nat} {ps ks : List Str} {f : Fd} {E' : XK} {x : Str} {p : Pos} {W : Wd} {gD : List D → List D → List D} {dvs : List V} {dd : List D}
@[simp] def vCallKv (n m len : Nat) (f : Fd) (gD : List D → List D → List D) (τl τk : TV (List D)) : TV D := fun env Q R => τl env (fun ds => τk env (fun zs => ds.length = n ∧ zs.length = m ∧ (gD ds zs).length = len ∧ f (gD ds zs) Q R) R) R
theorem v_fnK (F : FnVK X.prog X.w X.K X.mg X.base k x ps W f n ks gD) (hW : A.W = W) (hr : Room k X.A) (hg : Gl X x) (hx : Passes (L2.CX X.prog X.w) X E') (hE : ∀ σ C dd H, E σ C dd H → E' C dd H)
    (ha : VA X A E (e :: es) τl) (hkw : VK X A E kws τk) (hall : (backToKw pos (keywordEach kws X.env)).all (·.1.isSome) = true := by rfl) (hks : (backToKw pos (keywordEach kws X.env)).filterMap (·.1) = ks := by rfl)
    (hdb : (x == ("__debug__" : Str)) = false := by decide) (he : starEach (e :: es) X.env = (false, eval e X.env) :: starEach es X.env := by rfl)
    (hpl : ((backTo pos (starEach (e :: es) X.env)).any (·.1) || (backToKw pos (keywordEach kws X.env)).any (·.1.isNone)) = false := by rfl) :
    VE X A E (.Call (.Name x p) (e :: es) kws pos) (vCallKv n ks.length ps.length f gD τl τk) := by
  obtain ⟨g, fd, gg, gV, ok, hm, kp, kb, hg2⟩ := F.ex
  refine ⟨PE.imp (pe_callN ok hr hg hm kp kb hx ha.run hkw.run hall hks hdb he hpl) fun σ H Q h => ?_⟩
  obtain ⟨S, env, Qd, Rd, st, h, hq, hr⟩ := h
  subst hW
  refine ⟨S, env, _, Rd, st, h, fun ds vs H1 f1 r1 q1 => ⟨S, env, _, Rd, st.fx f1, q1, fun zs ws H2 f2 r2 q2 => ?_, fun ex C dd H' f => hr ex C dd H' (f1.trans f)⟩, hr⟩
  have st2 := (st.fx f1).fx f2
  obtain ⟨l1, l2, l3, q2⟩ := q2
  have r3 := hg2 S H2 vs ws ds zs (by rw [r1.length]; exact l1) (by rw [r2.length]; exact l2) (r1.mono ((st.fx f1).mn f2)) r2
  exact ⟨by rw [r1.length]; exact l1, by rw [r2.length]; exact l2, spV_of rfl st2 (by rw [r3.length]; exact l3) r3 q2 (fun d x H3 f3 rr q => hq d x H3 ((f1.trans f2).trans f3) rr q) fun ex C dd H' f3 xr q => hE σ C dd H' (hr ex C dd H' ((f1.trans f2).trans f3) xr q)⟩
/-- keywords alone -/
theorem v_fnK0 (F : FnVK X.prog X.w X.K X.mg X.base k x ps W f 0 ks gD) (hW : A.W = W) (hr : Room k X.A) (hg : Gl X x) (hx : Passes (L2.CX X.prog X.w) X E') (hE : ∀ σ C dd H, E σ C dd H → E' C dd H)
    (hkw : VK X A E kws τk) (hall : (backToKw pos (keywordEach kws X.env)).all (·.1.isSome) = true := by rfl) (hks : (backToKw pos (keywordEach kws X.env)).filterMap (·.1) = ks := by rfl)
    (hdb : (x == ("__debug__" : Str)) = false := by decide) (hpl : ((backTo pos (starEach [] X.env)).any (·.1) || (backToKw pos (keywordEach kws X.env)).any (·.1.isNone)) = false := by rfl) :
    VE X A E (.Call (.Name x p) [] kws pos) (vCallKv 0 ks.length ps.length f gD vNil τk) := by
  obtain ⟨g, fd, gg, gV, ok, hm, kp, kb, hg2⟩ := F.ex
  have F2 : FnKE X.prog X.w X.K X.mg X.base (L2.CX X.prog X.w) k x ps (spV W ps.length f) ks gV := ⟨g, fd, ok, hm, kp, gg, kb⟩
  refine ⟨PE.imp (fnK F2 hr hg hx hkw.run hall hks hdb hpl) fun σ H Q h => ?_⟩
  obtain ⟨S, env, Qd, Rd, st, h, hq, hr⟩ := h
  subst hW
  refine ⟨S, env, _, Rd, st, h, fun zs ws H2 f2 r2 q2 => ?_, hr⟩
  have st2 := st.fx f2
  obtain ⟨l1, l2, l3, q2⟩ := q2
  have r3 := hg2 S H2 [] ws [] zs rfl (by rw [r2.length]; exact l2) .nil r2
  exact ⟨by rw [r2.length]; exact l2, spV_of rfl st2 (by rw [r3.length]; exact l3) r3 q2 (fun d x H3 f3 rr q => hq d x H3 (f2.trans f3) rr q) fun ex C dd H' f3 xr q => hE σ C dd H' (hr ex C dd H' (f2.trans f3) xr q)⟩
@[simp] def vCallDv (len : Nat) (f : Fd) (dd : List D) (τl : TV (List D)) : TV D := fun env Q R => τl env (fun ds => (ds ++ dd).length = len ∧ f (ds ++ dd) Q R) R
/-- defaults fill up -/
theorem v_fnDf (F : FnVD X.prog X.w X.K X.mg X.base k x ps W f n dvs dd) (hW : A.W = W) (hr : Room k X.A) (hg : Gl X x) (hx : Passes (L2.CX X.prog X.w) X E') (hE : ∀ σ C dd H, E σ C dd H → E' C dd H)
    (ha : VA X A E (e :: es) τl) (hdb : (x == ("__debug__" : Str)) = false := by decide) (he : starEach (e :: es) X.env = (false, eval e X.env) :: starEach es X.env := by rfl) (hpl : (backTo pos (starEach es X.env)).any (·.1) = false := by rfl) :
    VE X A E (.Call (.Name x p) (e :: es) [] pos) (vCallDv ps.length f dd τl) := by
  obtain ⟨g, fd, ds0, ok, hm, kp, vd, bd, hg2⟩ := F.ex
  have F2 : FnDE X.prog X.w X.K X.mg X.base (L2.CX X.prog X.w) k x ps (spV W ps.length f) dvs := ⟨g, fd, ok, hm, kp, ds0, vd, bd⟩
  refine ⟨PE.imp (fnD F2 hr hg hx ha.run hdb he hpl) fun σ H Q h => ?_⟩
  obtain ⟨S, env, Qd, Rd, st, h, hq, hr⟩ := h
  subst hW
  refine ⟨S, env, _, Rd, st, h, fun ds vs H1 f1 r1 q1 => ?_, hr⟩
  obtain ⟨l1, q1⟩ := q1
  have r3 := r1.app (hg2 S H1)
  exact spV_of rfl (st.fx f1) (by rw [r3.length]; exact l1) r3 q1 (fun d x H2 f2 rr q => hq d x H2 (f1.trans f2) rr q) fun ex C dd H' f2 xr q => hE σ C dd H' (hr ex C dd H' (f1.trans f2) xr q)
end

end Bs
namespace K0
open PySem PySem.Spec PyProof.Rows L2 Bs LamX
/-! ### defs that draw and make lambdas; sorted by a lambda -/
theorem amLw' {W : Wd} (S : Addr → Prop) (H : Hp) (a c : Addr) (TL : List (Addr × Str)) (ha : S a) (hc : S c) : ∃ A : Am, A.W = W ∧ A.S0 = S ∧ A.H0 = H ∧ DmAm A a c TL ∧ (∀ H', A.am H' ↔ StAt H' a c ∧ Tabs TL H') ∧ (∀ o, A.k o ↔ nt o) ∧ A.z = (fun b => b = a) := by
  refine ⟨{ W := W, S0 := S, H0 := H, z := fun b => b = a, am := fun H => StAt H a c ∧ Tabs TL H, zs := fun b h => h ▸ ha, zd := fun H b s h => ?_, al := fun H H' s h => ?_, k := nt, kd := fun _ n => n, st := some a }, rfl, rfl, rfl, ⟨⟨rfl, rfl, ha, hc, fun _ h => h.1, fun _ _ h g s => ⟨s, tabs_grow h.1 h.2 g⟩⟩, ⟨fun o n ps e => by subst e; exact n, fun _ h => h.2, fun H H' h e t => ?_, fun H b h z q q2 e => ?_⟩, fun _ _ _ _ s t => ⟨s, t⟩⟩, fun _ => Iff.rfl, fun _ => Iff.rfl, rfl⟩
  · obtain ⟨⟨cells, p, w, x, n, t, sd, s⟩, _⟩ := s
    subst h
    exact ⟨_, s.at_, trivial⟩
  · obtain ⟨⟨cells, p, w, x, n, t, sd, s⟩, tt⟩ := s
    exact ⟨⟨cells, p, w, x, n, t, sd, h _ _ s.at_ (.inr ha), h _ _ s.cl (.inr hc), s.ne, s.pp⟩, tabs_al tt fun b o e n => h b o e (.inl n)⟩
  · obtain ⟨⟨cells, p, w, x, n, t0, sd, s⟩, _⟩ := h
    exact ⟨⟨cells, p, w, x, n, t0, sd, e _ _ s.at_ (fun _ z => by cases z), e _ _ s.cl (fun _ z => by cases z), s.ne, s.pp⟩, t⟩
  · obtain ⟨⟨cells, p, w, x, n, t0, sd, s⟩, _⟩ := h
    have z : b = a := z
    rw [z, s.at_] at e
    injection e with e
    unfold CodeO at e
    cases e
/-- what a drawing maker is worth -/
def spDM (W : Wd) (TL : List (Addr × Str)) (n : Nat) (g : Gd) : Sp := fun vs H Q _ => vs.length = n ∧ Tabs TL H ∧ ∃ a c vs' S ds Qd, vs = .ref a :: vs' ∧ StAt H a c ∧ S a ∧ S c ∧ (∀ b, S b → ∃ o, H b = some o ∧ nt o) ∧ RepL W S H vs' ds ∧ g ds Qd ∧
  ∀ d x H', (∀ b o, b ≠ a → nt o → H b = some o → H' b = some o) → StAt H' a c → Tabs TL H' → Rep W S H' x d → Qd d → Q x H'
structure FnDM (P : Program) (w : World) (K : PySem.W.Frag) (mg : Str → Option Value) (base : Heap) (k : Nat) (x : Str) (ps : List Str) (W : Wd) (TL : List (Addr × Str)) (f : Gd) : Prop where
  ex : ∃ g fd, Fn P w K mg base CX0 k x ps (spDM W TL ps.length f) g fd
  len : ∀ ds Q, f ds Q → ds.length + 1 = ps.length
section
variable {P : Program} {w : World} {K : PySem.W.Frag} {mg : Str → Option Value} {base : Heap}
theorem FunC.okDM {x qual : Str} {st : Stmt} {f c0 : Addr} {fd : FuncData} {N ps : List Str} {k : Nat} {W : Wd} {TL : List (Addr × Str)} {fv : Gd} (F : FunC K x qual st f fd c0) (S : FnScope N ps (defScope st)) (hp : ps.length ≤ N.length)
    (hbody : ∀ (Ar : Around) (outer : List Env) (s : Shared) (H : Hp) (E : XK) (A : Am) (a c : Addr), A.W = W → DmAm A a c TL → Room k (Ar.deeper (envOfC qual (defScope st) s.heap.objs.size f (.ref c0))) →
      ∃ τ, VSs (cxOf CX0 P w K mg base N qual (defScope st) f (.ref c0) Ar outer s H E).nox A EN (defBody st) τ ∧ ∀ ds Q, ds.length + 1 = ps.length → fv ds Q → τ { nx := fun _ => Q .non, rt := Q, ex := fun _ => False } (stD N.length ds)) :
    FnOk P w K mg base CX0 (k + 1) f fd ps (spDM W TL ps.length fv) :=
  F.ok S (fun vs H Q E h => h.1) fun Ar outer s H vs Q E hr h => by
    obtain ⟨hl, hT, a, c, vs', S', ds, Qd, rfl, hst, ha, hc, hS, r, hf, hq⟩ := h
    obtain ⟨A, aW, aS, aH, dm, am, ak, az⟩ := amLw' (W := W) S' H a c TL ha hc
    obtain ⟨τ, hv, hi⟩ := hbody Ar outer s H E A a c aW dm hr
    rw [List.length_cons] at hl
    have rl := r.length
    have keepS : ∀ {H'}, Bf A H' → (∀ b o, b ≠ a → nt o → H b = some o → H' b = some o) := fun b d o z n e => b.base d o (by rw [aH]; exact e) (by rw [az]; exact z) ((ak o).mpr n)
    refine ⟨_, hv.run, S', _, _, ?_, hi ds Qd (by omega) hf, ?_⟩
    · have base := @st_start W S' H (N.drop 1) vs' ds hS r (by rw [List.length_drop]; omega)
      rw [List.length_drop] at base
      have e : L2.start N (.ref a :: vs') = some (.ref a) :: L2.start (N.drop 1) vs' := by
        unfold L2.start
        rw [List.map_cons, List.cons_append, List.length_cons, List.length_drop, show N.length - (vs'.length + 1) = N.length - 1 - vs'.length by omega]
      rw [e]
      obtain ⟨q, hs, hap⟩ := base.sl
      refine ⟨by unfold stD; rw [List.length_cons, List.length_cons, base.len], ⟨fun i => q (i - 1), fun i e o h1 h2 => ?_, fun i j e e' hn h1 h2 o1 o2 => ?_⟩, fun b h => by rw [aS] at h; exact h, hS, fun b o e _ _ => by rw [aH] at e; exact e, (am H).mpr ⟨hst, hT⟩⟩
      · cases i with
        | zero => cases h1; cases h2; exact .st dm.s.st
        | succ i =>
          show SlR _ _ _ (q i) o e
          cases hs i e o h1 h2 with
          | no => exact .no
          | sh r => exact .sh (aW ▸ r)
          | ow w => exact absurd w.s w.n0
          | ot _ _ w => exact absurd w.s w.n0
          | st z => cases z
      · cases i with
        | zero => cases h1; cases o1
        | succ i =>
          cases j with
          | zero => cases h2; cases o2
          | succ j => exact hap i j e e' (fun z => hn (by rw [z])) h1 h2 o1 o2
    · exact ⟨fun S2 env' σ' H' st m q => hq .non .non H' (keepS st.bf) ((am H').mp st.am).1 ((am H').mp st.am).2 .non q, fun _ _ _ _ _ _ q => q.elim, fun _ _ _ _ _ _ q => q.elim, fun d x H' b r q => hq d x H' (keepS b) ((am H').mp b.am).1 ((am H').mp b.am).2 (by rw [aW, aS] at r; exact r) q, fun ex C dd σ' H' b xr q => q.elim, fun d o p H' b h0 hs hp r mu q => by
        have e : ∀ c u, H' c = some u → upd H' p o c = some u := fun c u e => (upd_ne (ne_of_none e hp)).trans e
        rw [aW, aS] at r
        rw [aS] at hs
        refine hq d _ _ (fun c u z n eu => e c u (keepS b c u z n eu)) ((((am H').mp b.am).1).new hp) (Tabs.ext ((am H').mp b.am).2 e) (.ob hs upd_same (r.mono fun c u hs eu _ => ⟨hs, u, e c u eu, rfl⟩)) q⟩
end
section
variable {X : Cx} {A : Am} {E : L2.St → XK} {e : Expr} {es : List Expr} {τl : TV (List D)} {pos : Pos} {k : Nat} {ps : List Str} {f : Gd} {x : Str} {p : Pos} {W : Wd} {TL : List (Addr × Str)}
theorem v_drawM {a c : Addr} (dm : DmAm A a c TL) (i : Nat) {y : Str} {py : Pos} (F : FnDM X.prog X.w X.K X.mg X.base k x ps W TL f) (hW : A.W = W) (hr : Room k X.A) (hg : Gl X x) (ha : VA X A E es τl)
    (hN : X.N[i]? = some y := by rfl) (hv : Vis X.env.scope y := by first | exact Or.inl rfl | exact Or.inr (Or.inl rfl) | exact Or.inr (Or.inr rfl)) (hd : (y == ("__debug__" : Str)) = false := by decide) (hcd : (y == ("__classdict__" : Str)) = false := by decide)
    (hdb : (x == ("__debug__" : Str)) = false := by decide) (hs : starEach (.Name y py :: es) X.env = (false, eval (.Name y py) X.env) :: starEach es X.env := by rfl) (hpl : (backTo pos (starEach es X.env)).any (·.1) = false := by rfl) :
    VE X A E (.Call (.Name x p) (.Name y py :: es) [] pos) (vDraw i f τl) := by
  obtain ⟨⟨g, fd, F⟩, len⟩ := F
  obtain ⟨sA, M, am'⟩ := dm
  refine ⟨PE.imp (fn F hr hg pass0 (pa_cons (pe_var (i := i) hN hv hd hcd) ha.run hs) hdb hs hpl) fun σ H Q h => ?_⟩
  obtain ⟨S, env, Qd, Rd, st, ⟨h0, h⟩, hq, hr⟩ := h
  obtain ⟨u, h2, q0, sl⟩ := st.at h0
  cases sl with
  | st hz =>
    rw [sA.st] at hz; cases hz
    refine ⟨_, h2, S, env, _, Rd, st, h, fun ds xs H1 f1 r1 q1 => ?_, hr⟩
    subst hW
    have st1 := st.fx f1
    refine ⟨?_, M.tb H1 st1.am, a, c, xs, S, ds, Qd, rfl, sA.am H1 st1.am, st1.s0 a sA.s, st1.s0 c sA.sc, st1.dom, r1, q1, fun d x H' g s t r q => ?_⟩
    · rw [List.length_cons, r1.length]
      exact len _ _ q1
    · refine hq d x H' (f1.trans ⟨fun b o e z kk => g b o (by rintro rfl; exact z sA.z) ?_ e, am' H1 H' st1.am g s t⟩) r q
      cases o with
      | tbl ps => exact absurd rfl (M.k _ kk ps)
      | _ => trivial
/-- sorted(a, key=lambda x: (len(x), x)) of texts -/
@[simp] def vSortK (τa : TV D) : TV D := fun env Q R => τa env (fun d => ∃ ss : List Str, (d = .lst (ss.map .str) ∨ d = .tup (ss.map .str)) ∧ ss.length ≤ 100000 ∧ (∀ x ∈ ss, x.length ≤ 100000) ∧ ∀ zs : List Str, zs.Perm ss → zs.Pairwise (fun x y => ltZ y x = false) → Q (.lst (zs.map .str))) R
theorem vf_sortKey {c Pt : Addr} {par : Str} {a body : Expr} {params : Arguments} {scope : Scope} {τa : TV D} {tb : TE} {p lpos kp pos : Pos} (hK : A.W.K = X.K) (M : MkAm A TL) (hg : Gl X "sorted") (hm : X.mg "sorted" = none) (TB : TabB X.base X.mg c Pt) (hcode : X.env.code = .ref c) (hmT : (Pt, X.env.qual ++ "<lambda>") ∈ TL) (hu : ∀ p ∈ TL, p.1 = Pt → p.2 = X.env.qual ++ "<lambda>")
    (hr : Room 3 X.A) (L : LamP par scope) (ha : VR X A E a τa)
    (hbody : ∀ (A : Around) (outer : List Env) (s : Shared) (H : Hp) (E : XK) (f c' : Addr), PE (lamC1 X A outer s H E scope f c' par) body tb)
    (htb : ∀ (z : Str) (H : Hp) (Q : L2.VK), z.length ≤ sizeLine → (∀ p, H p = none → Q (.ref p) (upd H p (.tup [.int z.length, .str z]))) → tb [some (.str z)] H Q)
    (hdef : defaultsOf params X.env = ([], []) := by rfl) (hbind : ∀ (q : Str) (cl : List (Str × Addr)) (pm cv ctv u : Value), bindArgs (PySem.W.kla_fn "<lambda>" q params body scope cl pm cv ctv) ⟨[u], []⟩ = pure [(par, u)] := by intros; rfl)
    (he : backTo pos (starEach [a] X.env) = (false, eval a X.env) :: backTo pos (starEach [] X.env) := by rfl) (hpl : (backTo pos (starEach [a] X.env)).any (·.1) = false := by rfl) :
    VF X A E (.Call (.Name "sorted" p) [a] [⟨some "key", .Lambda params body scope lpos, kp⟩] pos) (vSortK τa) := ⟨PE.imp (pe_sortKey hg hm TB hcode hmT hu hr L ha.run hbody htb hdef hbind he hpl) fun σ H Q h => by
  obtain ⟨S, env, Qd, Rd, st, h, hq, hrr⟩ := h
  refine ⟨S, env, _, Rd, st, h, fun d x H1 f1 r1 hf => ?_, hrr⟩
  obtain ⟨ss, hd, h1, h2, k⟩ := hf
  have st1 := st.fx f1
  have zl : sizeLine = 16777216 := rfl
  have src : ∃ pp, x = .ref pp ∧ (SqL X.K H1 pp (ss.map V.str) ∨ SqT X.K H1 pp (ss.map V.str)) := by
    rcases hd with rfl | rfl
    · obtain ⟨pp, vs, rfl, hp, q1⟩ := r1.lst
      rw [stL_rep q1 (stL_map ss)] at hp
      exact ⟨pp, rfl, .inl (SqL.of hp)⟩
    · cases r1 with
      | rep r1 =>
        obtain ⟨pp, xs, rfl, q1, hs, _⟩ := r1.tupS
        rw [stL_rep q1 (stL_map ss), hK] at hs
        exact ⟨pp, rfl, .inr hs⟩
      | own _ r _ mu => cases r; cases mu
  obtain ⟨pp, rfl, hsq⟩ := src
  refine ⟨M.tb H1 st1.am, pp, ss, rfl, hsq, by omega, fun x hx => by have := h2 x hx; omega, fun H2 zs q e2 t2 pm so hq2 => ?_⟩
  have f2 := M.fx st1.am e2 t2
  exact hq (.lst (zs.map .str)) (.lst (zs.map V.str)) q H2 (f1.trans f2) hq2 (.lst (rep_strs zs)) rfl (k zs pm so)⟩
end
end K0
/-! plain facts that walks over trees ask for -/
namespace Bs
open PySem PySem.Spec PyProof.Rows L2 K0
theorem atI_ok {α : Type} {xs : List α} {r : Int} (h0 : 0 ≤ r) (h1 : r < xs.length) : ∃ v, xs[r.toNat]? = some v ∧ v ∈ xs ∧ atI xs r = some v := by
  obtain ⟨j, rfl⟩ := Int.eq_ofNat_of_zero_le h0
  have hj : j < xs.length := by omega
  have e : xs[j]? = some xs[j] := List.getElem?_eq_getElem hj
  exact ⟨xs[j], by rw [Int.toNat_natCast]; exact e, List.getElem_mem hj, atI_nat e⟩
theorem cut_to {l : List D} {r : Int} (h0 : 0 ≤ r) : cutD l none (some r) = l.take r.toNat := by
  obtain ⟨j, rfl⟩ := Int.eq_ofNat_of_zero_le h0
  unfold cutD
  rw [HT.sIx_none, HT.sIx_nat, Int.toNat_natCast, List.drop_zero, Nat.sub_zero]
  by_cases h : j ≤ l.length
  · rw [Nat.min_eq_left h]
  · rw [Nat.min_eq_right (by omega), List.take_length, List.take_of_length_le (by omega)]
theorem cut_from {l : List D} {r : Int} (h0 : 0 ≤ r) : cutD l (some r) none = l.drop r.toNat := by
  obtain ⟨j, rfl⟩ := Int.eq_ofNat_of_zero_le h0
  unfold cutD
  rw [HT.sIx_none, HT.sIx_nat, Int.toNat_natCast]
  by_cases h : j ≤ l.length
  · rw [Nat.min_eq_left h]
    exact List.take_of_length_le (by rw [List.length_drop]; omega)
  · rw [Nat.min_eq_right (by omega), Nat.sub_self, List.take_zero, List.drop_eq_nil_of_le (by omega)]
theorem most_lt {lim r : Int} (h : r < most lim) : r < 1 ∨ r < lim := by
  unfold most at h
  split at h <;> omega
theorem cps_app (a b : Str) : (a ++ b).cps.toList = a.cps.toList ++ b.cps.toList := by
  show (a.cps ++ b.cps).toList = _
  rw [Array.toList_append]
theorem len_app (a b : Str) : (a ++ b).length = a.length + b.length := by
  rw [len_cps, len_cps, len_cps, cps_app, List.length_append]
theorem len_one (c : Nat) : (one c).length = 1 := rfl
theorem len_snoc (z : Str) (c : Nat) : (z ++ one c).length = z.length + 1 := by rw [len_app, len_one]
theorem isW_iff {z : Str} : isW z = true ↔ ∃ c r, z.cps.toList = c :: r ∧ z.length ≤ 8 ∧ c ∈ alpha.cps.toList ∧ ∀ x ∈ z.cps.toList, x ∈ alnum.cps.toList := by
  unfold isW
  have ln := len_cps z
  cases e : z.cps.toList with
  | nil =>
    constructor
    · intro h; cases h
    · rintro ⟨c, r, h, _⟩; cases h
  | cons c r =>
    rw [wordL_cons, Bool.and_eq_true, Bool.and_eq_true, decide_eq_true_eq, decide_eq_true_eq, List.all_eq_true]
    rw [e] at ln
    constructor
    · rintro ⟨h1, h2, h3⟩
      exact ⟨c, r, rfl, by omega, h2, fun x hx => of_decide_eq_true (h3 x hx)⟩
    · rintro ⟨c', r', h, h1, h2, h3⟩
      cases h
      exact ⟨by omega, h2, fun x hx => decide_eq_true (h3 x hx)⟩
theorem alpha_alnum {c : Nat} (h : c ∈ alpha.cps.toList) : c ∈ alnum.cps.toList := by
  have key : ∀ x ∈ alpha.cps.toList, x ∈ alnum.cps.toList := by decide +kernel
  exact key c h
theorem isW_one {c : Nat} (h : c ∈ alpha.cps.toList) : isW (one c) = true :=
  isW_iff.mpr ⟨c, [], rfl, by rw [len_one]; omega, h, fun x hx => by
    have : x ∈ [c] := hx
    rw [List.mem_singleton.mp this]; exact alpha_alnum h⟩
theorem isW_app {z u : Str} (h : isW z = true) (hl : z.length + u.length ≤ 8) (hu : ∀ x ∈ u.cps.toList, x ∈ alnum.cps.toList) : isW (z ++ u) = true := by
  obtain ⟨c, r, e, h1, h2, h3⟩ := isW_iff.mp h
  refine isW_iff.mpr ⟨c, r ++ u.cps.toList, by rw [cps_app, e]; rfl, by rw [len_app]; omega, h2, fun x hx => ?_⟩
  rw [cps_app] at hx
  rcases List.mem_append.mp hx with hx | hx
  · exact h3 x hx
  · exact hu x hx
theorem isW_snoc {z : Str} {c : Nat} (h : isW z = true) (hl : z.length + 1 ≤ 8) (hc : c ∈ alnum.cps) : isW (z ++ one c) = true :=
  isW_app h (by rw [len_one]; omega) fun x hx => by
    have : x ∈ [c] := hx
    rw [List.mem_singleton.mp this]; simpa using hc
theorem cutS_to {z : Str} {r : Int} (h0 : 0 ≤ r) : (cutS z none (some r)).cps.toList = z.cps.toList.take r.toNat := by
  obtain ⟨j, rfl⟩ := Int.eq_ofNat_of_zero_le h0
  show ((z.cps.toList.drop (HT.sIx z.length 0 none)).take (HT.sIx z.length z.length (some (j : Int)) - HT.sIx z.length 0 none)) = _
  rw [HT.sIx_none, HT.sIx_nat, Int.toNat_natCast, List.drop_zero, Nat.sub_zero]
  have ln := len_cps z
  by_cases h : j ≤ z.length
  · rw [Nat.min_eq_left h]
  · rw [Nat.min_eq_right (by omega), List.take_of_length_le (by omega), List.take_of_length_le (by omega)]
theorem cutS_from {z : Str} {r : Int} (h0 : 0 ≤ r) : (cutS z (some r) none).cps.toList = z.cps.toList.drop r.toNat := by
  obtain ⟨j, rfl⟩ := Int.eq_ofNat_of_zero_le h0
  show ((z.cps.toList.drop (HT.sIx z.length 0 (some (j : Int)))).take (HT.sIx z.length z.length none - HT.sIx z.length 0 (some (j : Int)))) = _
  rw [HT.sIx_none, HT.sIx_nat, Int.toNat_natCast]
  have ln := len_cps z
  by_cases h : j ≤ z.length
  · rw [Nat.min_eq_left h]
    exact List.take_of_length_le (by rw [List.length_drop]; omega)
  · rw [Nat.min_eq_right (by omega), Nat.sub_self, List.take_zero, List.drop_eq_nil_of_le (by omega)]
def txs (l : List Str) : List D := l.map D.str
@[simp] theorem txs_len (l : List Str) : (txs l).length = l.length := List.length_map _
theorem flL_txs : ∀ l : List Str, flL (txs l) = some (l.map V.str)
  | [] => rfl
  | z :: l => by
    show (match fl (D.str z), flL (txs l) with | some p, some ps => some (p :: ps) | _, _ => none) = _
    rw [flL_txs l] <;> rfl
theorem txs_app (a b : List Str) : txs (a ++ b) = txs a ++ txs b := List.map_append
theorem rngD_mem {lo : Int} {n : Nat} {d : D} (h : d ∈ rngD lo n) : ∃ i : Int, d = .int i ∧ lo ≤ i ∧ i < lo + n := by
  obtain ⟨i, hi, rfl⟩ := List.mem_map.mp h
  have := List.mem_range.mp hi
  exact ⟨lo + i, rfl, by omega, by omega⟩
theorem stI_dig : ∀ k : Nat, k < 110 → (∀ x ∈ (Str.ofString (k : Int).repr).cps.toList, x ∈ alnum.cps.toList) ∧ (Str.ofString (k : Int).repr).length ≤ 3 := by
  have key : ∀ k ∈ List.range 110, (∀ x ∈ (Str.ofString ((k : Nat) : Int).repr).cps.toList, x ∈ alnum.cps.toList) ∧ (Str.ofString ((k : Nat) : Int).repr).length ≤ 3 := by decide +kernel
  exact fun k h => key k (List.mem_range.mpr h)
theorem stI_one : ∀ k : Nat, k < 10 → (Str.ofString (k : Int).repr).length = 1 := by
  have key : ∀ k ∈ List.range 10, (Str.ofString ((k : Nat) : Int).repr).length = 1 := by decide +kernel
  exact fun k h => key k (List.mem_range.mpr h)
theorem isW_mk {z : Str} {L : List Nat} (e : z.cps.toList = L) (h0 : L ≠ []) (hl : L.length ≤ 8) (ha : ∀ c, L.head? = some c → c ∈ alpha.cps.toList) (hx : ∀ x ∈ L, x ∈ alnum.cps.toList) : isW z = true := by
  cases L with
  | nil => exact absurd rfl h0
  | cons c r => exact isW_iff.mpr ⟨c, r, e, by rw [len_cps, e]; exact hl, ha c rfl, by rw [e]; exact hx⟩
theorem inV_txs (z : Str) : ∀ l : List Str, inV (V.str z) (l.map V.str) = decide (z ∈ l)
  | [] => rfl
  | y :: l => by
    have h := inV_txs z l
    unfold inV at h ⊢
    rw [List.map_cons, List.any_cons, h]
    have e : eqV (V.str y) (V.str z) = decide (y = z) := by
      show (y == z) = decide (y = z)
      by_cases q : y = z
      · subst q; simp
      · rw [decide_eq_false q]; exact beq_eq_false_iff_ne.mpr q
    rw [e]
    by_cases q : y = z
    · subst q; simp
    · have q2 : ¬ z = y := fun h => q h.symm
      rw [decide_eq_false q, Bool.false_or]
      exact decide_eq_decide.mpr (by simp [q2])
theorem log_small {i : Int} (h0 : 0 ≤ i) (h1 : i < 16777216) : i.natAbs.log2 < 1920 := by
  have h : i.natAbs < 2 ^ 24 := by omega
  rcases Nat.eq_zero_or_pos i.natAbs with e | e
  · rw [e]; decide
  · have := (Nat.log2_lt (by omega)).mpr h
    omega
theorem log_nat {n : Nat} (h1 : n < 16777216) : n.log2 < 1920 := by
  have := log_small (i := (n : Int)) (by omega) (by omega)
  simpa using this
@[simp] theorem atI_c0 {α : Type} (a : α) (l : List α) : atI (a :: l) 0 = some a := atI_zero a l
@[simp] theorem atI_c1 {α : Type} (a b : α) (l : List α) : atI (a :: b :: l) 1 = some b := L2.atI_nat (j := 1) rfl
def unS : D → Str
  | .str z => z
  | _ => Str.empty
theorem perm_txs {l' : List D} {l : List Str} (h : l'.Perm (txs l)) : ∃ m, l' = txs m ∧ m.Perm l := by
  refine ⟨l'.map unS, ?_, ?_⟩
  · have key : ∀ l' : List D, (∀ d ∈ l', d ∈ txs l) → l' = txs (l'.map unS) := by
      intro l'
      induction l' with
      | nil => intro _; rfl
      | cons d r ih =>
        intro hd
        obtain ⟨z, _, e⟩ := List.mem_map.mp (hd d List.mem_cons_self)
        rw [List.map_cons]
        show d :: r = D.str (unS d) :: txs (r.map unS)
        rw [← ih fun e he => hd e (List.mem_cons_of_mem _ he), ← e] <;> rfl
    exact key l' fun d hd => h.mem_iff.mp hd
  · have q := h.map unS
    have e : (txs l).map unS = l := by
      unfold txs
      rw [List.map_map]
      exact List.map_id' l
    rw [e] at q
    exact q
end Bs
/-! more plain facts -/
namespace Bs
open PySem PySem.Spec PyProof.Rows L2 K0
theorem stI_len (n : Nat) (h : n < 2300) : (Str.ofString (n : Int).repr).length ≤ 12 := by
  have key : ((List.range 2300).all fun k => decide ((Str.ofString ((k : Nat) : Int).repr).length ≤ 12)) = true := by decide +kernel
  exact of_decide_eq_true (List.all_eq_true.mp key n (List.mem_range.mpr h))
theorem join_txs {s : Str} {l : List Str} {Q : D → Prop} (h : (l.map (·.length)).sum + l.length * s.length ≤ 16777216) (k : Q (.str (Txt.join s l))) : dJoin (.str s) (.lst (txs l)) Q := ⟨l, stL_map l, h, k⟩
end Bs
namespace K0
open PySem PySem.Spec PyProof.Rows L2 Bs LamX
structure Cs (mg : Str → Option Value) : Prop where
  ALL_SLOTS : ∃ t, mg "ALL_SLOTS" = some (.str abc t)
def ex0 (c : Str) : Exn := ⟨c, []⟩
def szOf : D → Option Nat
  | .int n => if 1 ≤ n ∧ n ≤ 6 then some n.toNat else none
  | _ => none
/-- where a size is written -/
def fSlots : Fd := fun ds Q R => ∃ n : Nat, ds = [.int n] ∧ 1 ≤ n ∧ n ≤ 6 ∧ Q (.str (cutS abc none (some (n : Int))))
abbrev s_slots_below : Stmt := top 20
theorem sc_slots_below : FnScope ["size"] ["size"] (defScope s_slots_below) := ⟨rfl, rfl, rfl, by decide +kernel, rfl, by decide +kernel, by decide +kernel⟩
section
variable {P : Program} {w : World} {K : PySem.W.Frag} {mg : Str → Option Value} {base : Heap} {W : Wd}
theorem v_slots_below {f : Addr} {fd : FuncData} (F : Fun K "slots_below" "slots_below" s_slots_below f fd) (T : Txt K mg) (Cc : Cs mg) (hW : W.K = K) (E_BadLot : ErrV W mg "BadLot") :
    FnOk P w K mg base (L2.CX P w) 1 f fd ["size"] (spV W 1 fSlots) := by
  have sc := sc_slots_below
  let st := s_slots_below
  let N : List Str := ["size"]
  obtain ⟨_, gg_ALL_SLOTS⟩ := Cc.ALL_SLOTS
  refine Fun.okV F sc (by decide) fun cdv Ar outer s H E A hA hz hr => ?_
  have passX : Passes (L2.CX P w) (cxOf (L2.CX P w) P w K mg base ["size"] "slots_below" (defScope s_slots_below) f cdv Ar outer s H E) E := passes_call (takes_of rfl rfl rfl rfl) (fun _ _ _ _ h => h)
  have hK : A.W.K = K := by rw [hA]; exact hW
  have E_BadLot : ErrV A.W mg "BadLot" := by rw [hA]; exact E_BadLot
  have zl : sizeLine = 16777216 := rfl
  refine ⟨_, (vss_cons (vs_if (VW.vt (vw_or (vt hK (v_callB (w_isi hK) (by rfl) T.isinstance boot_isinstance (vb_cons (v_nr 0) (vb_cons (v_tyn (n_bool (by rfl) T.bool)).vr vb_nil))).vr) (vw_or (vt_not (vt hK (v_callB (w_isi hK) (by rfl) T.isinstance boot_isinstance (vb_cons (v_nr 0) (vb_cons (v_tyn (n_int (by rfl) T.int)).vr vb_nil))).vr)) (vw_or1 (vt_not (vt_chain w_le w_le v_int.vr (v_nr 0) v_int.vr)))))) (vss_one (vs_raise E_BadLot hK rfl (takes_of rfl rfl rfl rfl) (by rfl))) vss_nil)
      (vss_one (vs_ret (v_sl hK (VE.const (pe_gS (by rfl) gg_ALL_SLOTS) fun _ _ => .str).vr vo_none (vo (v_nr 0)))))), fun ds Q R hl h => ?_⟩
  obtain ⟨n, rfl, h1, h2, hq⟩ := h
  have la : abc.length = 6 := by decide +kernel
  show (_ : VTS) _ [.sh (.int n)]
  simp
  exact ite2 (fun h1 => ite2 (fun h2 => by exfalso; omega) fun h2 => ⟨by omega, hq⟩) fun h1 => by exfalso; omega
end
end K0
/-! the lots in their order -/
namespace Bs
open PySem PySem.Spec PyProof.Rows L2 K0
/-- what all_lots makes ahead of its order -/
def lotsL : List Nat → List Str → List Str
  | [], l => l
  | c :: cs, l => lotsL cs (l ++ l.map (· ++ one c))
def lots (n : Nat) : List Str := lotsL (abc.cps.toList.take n) [Str.ofString ""]
def insS (x : Str) : List Str → List Str
  | [] => [x]
  | y :: r => if x.cps.toList < y.cps.toList then x :: y :: r else y :: insS x r
def srt (n : Nat) : List Str := (lots n).foldr insS []
/-- the row of all_lots(n) -/
def rows (n : Nat) : List Str := (List.range 7).flatMap fun k => (srt n).filter fun x => x.length == k
theorem ins_perm (x : Str) : ∀ l : List Str, (insS x l).Perm (x :: l)
  | [] => List.Perm.refl _
  | y :: r => by
    unfold insS
    split
    · exact List.Perm.refl _
    · exact ((ins_perm x r).cons y).trans (List.Perm.swap x y r)
theorem ins_ord (x : Str) : ∀ l : List Str, Bs.Ord l → Bs.Ord (insS x l)
  | [], _ => List.pairwise_singleton _ _
  | y :: r, h => by
    unfold insS
    obtain ⟨h1, h2⟩ := List.pairwise_cons.mp h
    split
    · rename_i c
      refine List.pairwise_cons.mpr ⟨fun z hz => ?_, h⟩
      rcases List.mem_cons.mp hz with rfl | hz
      · exact List.lt_asymm c
      · exact fun q => h1 z hz (List.lt_trans q c)
    · rename_i c
      refine List.pairwise_cons.mpr ⟨fun z hz => ?_, ins_ord x r h2⟩
      rcases List.mem_cons.mp ((ins_perm x r).mem_iff.mp hz) with rfl | hz
      · exact c
      · exact h1 z hz
theorem fold_perm : ∀ l : List Str, (l.foldr insS []).Perm l
  | [] => List.Perm.refl _
  | x :: l => (ins_perm x _).trans ((fold_perm l).cons x)
theorem fold_ord : ∀ l : List Str, Bs.Ord (l.foldr insS [])
  | [] => List.Pairwise.nil
  | x :: l => ins_ord x _ (fold_ord l)
theorem cps_inj {x y : Str} (h : x.cps.toList = y.cps.toList) : x = y := PySem.W.str_of_cps h
theorem ord_eq : ∀ {a b : List Str}, a.Perm b → Bs.Ord a → Bs.Ord b → a = b
  | [], b, p, _, _ => (List.Perm.nil_eq p)
  | x :: a, b, p, ha, hb => by
    cases b with
    | nil => exact absurd p.length_eq (by simp)
    | cons y b =>
      obtain ⟨a1, a2⟩ := List.pairwise_cons.mp ha
      obtain ⟨b1, b2⟩ := List.pairwise_cons.mp hb
      have e : x = y := by
        rcases List.mem_cons.mp (p.mem_iff.mp List.mem_cons_self) with e | hx
        · exact e
        · rcases List.mem_cons.mp (p.mem_iff.mpr List.mem_cons_self) with e | hy
          · exact e.symm
          · have h1 := a1 y hy
            have h2 := b1 x hx
            exact cps_inj (List.le_antisymm (List.not_lt.mp h1) (List.not_lt.mp h2))
      subst e
      rw [ord_eq (List.Perm.cons_inv p) a2 b2]
theorem byLen_eq : ∀ {a b : List Str}, a.Perm b → (a.Pairwise fun x y => x.length ≤ y.length) → (b.Pairwise fun x y => x.length ≤ y.length) → (∀ n, a.filter (fun x => x.length == n) = b.filter fun x => x.length == n) → a = b
  | [], b, p, _, _, _ => (List.Perm.nil_eq p)
  | x :: a, b, p, ha, hb, hf => by
    cases b with
    | nil => exact absurd p.length_eq (by simp)
    | cons y b =>
      obtain ⟨a1, a2⟩ := List.pairwise_cons.mp ha
      obtain ⟨b1, b2⟩ := List.pairwise_cons.mp hb
      have l1 : x.length ≤ y.length := by
        rcases List.mem_cons.mp (p.mem_iff.mpr List.mem_cons_self) with e | hy
        · rw [e]; exact Nat.le_refl _
        · exact a1 y hy
      have l2 : y.length ≤ x.length := by
        rcases List.mem_cons.mp (p.mem_iff.mp List.mem_cons_self) with e | hx
        · rw [e]; exact Nat.le_refl _
        · exact b1 x hx
      have le : x.length = y.length := Nat.le_antisymm l1 l2
      have h0 := hf x.length
      rw [List.filter_cons, List.filter_cons, if_pos (by simp), if_pos (by simp [le])] at h0
      have e : x = y := (List.cons.inj h0).1
      subst e
      have hf2 : ∀ n, a.filter (fun x => x.length == n) = b.filter fun x => x.length == n := fun n => by
        have h := hf n
        rw [List.filter_cons, List.filter_cons] at h
        split at h
        · exact (List.cons.inj h).2
        · exact h
      rw [byLen_eq (List.Perm.cons_inv p) a2 b2 hf2]
theorem rows_fact (n : Nat) (h : n ≤ 6) : (lots n).Nodup ∧ (∀ x ∈ lots n, x.length ≤ 6) ∧ (lots n).length = 2 ^ n ∧ (rows n).Perm (srt n) ∧ ((rows n).Pairwise fun x y => x.length ≤ y.length) ∧ (∀ k ∈ List.range 7, (rows n).filter (fun x => x.length == k) = (srt n).filter fun x => x.length == k) := by
  have key : ∀ n ∈ List.range 7, (lots n).Nodup ∧ (∀ x ∈ lots n, x.length ≤ 6) ∧ (lots n).length = 2 ^ n ∧ ((rows n).isPerm (srt n) = true) ∧ ((rows n).Pairwise fun x y => x.length ≤ y.length) ∧ (∀ k ∈ List.range 7, (rows n).filter (fun x => x.length == k) = (srt n).filter fun x => x.length == k) := by decide +kernel
  obtain ⟨h1, h2, h3, h4, h5⟩ := key n (List.mem_range.mpr (by omega))
  exact ⟨h1, h2, h3, List.isPerm_iff.mp h4, h5⟩
/-- the order is one -/
theorem rows_one {n : Nat} (h : n ≤ 6) {zs s ss : List Str} (h1 : ∀ k, k ∈ s ↔ k ∈ lots n) (h2 : s.Nodup) (h3 : ss.Perm s) (h4 : Bs.Ord ss) (h5 : ByLen zs ss) : zs = rows n := by
  obtain ⟨f1, f2, f3, f4, f5, f6⟩ := rows_fact n h
  have p1 : s.Perm (lots n) := (List.perm_ext_iff_of_nodup h2 f1).mpr h1
  have e : ss = srt n := ord_eq (h3.trans (p1.trans (fold_perm _).symm)) h4 (fold_ord _)
  subst e
  refine byLen_eq (h5.perm.trans f4.symm) h5.ord f5 fun k => ?_
  rw [h5.cls k]
  by_cases hk : k < 7
  · exact (f6 k (List.mem_range.mpr hk)).symm
  · have none : ∀ l : List Str, (∀ x ∈ l, x ∈ lots n) → l.filter (fun x => x.length == k) = [] := fun l hl => by
      rw [List.filter_eq_nil_iff]
      intro x hx hx2
      have := f2 x (hl x hx)
      have e := beq_iff_eq.mp hx2
      omega
    have ps : (srt n).Perm (lots n) := fold_perm _
    rw [none _ fun x hx => ps.mem_iff.mp hx, none _ fun x hx => ps.mem_iff.mp (f4.mem_iff.mp hx)]
end Bs
/-! Lots below six: plain. -/
namespace Bs
open PySem
def abcL : List Nat := [97, 98, 99, 100, 101, 102]
theorem abc_cps : abc.cps.toList = abcL := by decide +kernel
def flt (p : Nat → Bool) : Str := tx (abcL.filter p)
def L6 (z : Str) : Bool := decide (z.cps.toList = abcL.filter fun c => decide (c ∈ z.cps.toList))
theorem flt_cps (p : Nat → Bool) : (flt p).cps.toList = abcL.filter p := tx_cps _
theorem L6_cps {z : Str} (h : L6 z = true) : z.cps.toList = abcL.filter fun c => decide (c ∈ z.cps.toList) := of_decide_eq_true h
theorem L6_flt (p : Nat → Bool) : L6 (flt p) = true := by
  unfold L6
  refine decide_eq_true ?_
  rw [flt_cps]
  refine List.filter_congr fun c hc => ?_
  rw [Bool.eq_iff_iff, decide_eq_true_iff, List.mem_filter]
  exact ⟨fun h => ⟨hc, h⟩, fun h => h.2⟩
theorem L6_eq {z : Str} (h : L6 z = true) : z = flt fun c => decide (c ∈ z.cps.toList) := cps_inj ((L6_cps h).trans (flt_cps _).symm)
theorem L6_sub {z : Str} (h : L6 z = true) {c : Nat} (hc : c ∈ z.cps.toList) : c ∈ abcL := by
  rw [L6_cps h, List.mem_filter] at hc
  exact hc.1
theorem L6_len {z : Str} (h : L6 z = true) : z.length ≤ 6 := by
  rw [len_cps, L6_cps h]
  exact List.length_filter_le _ _
abbrev R6 : List Str := rows 6
def sel6 (a b c d e f : Bool) : List Nat := (if a then [97] else []) ++ (if b then [98] else []) ++ (if c then [99] else []) ++ (if d then [100] else []) ++ (if e then [101] else []) ++ (if f then [102] else [])
theorem sel6_mem : ∀ a b c d e f : Bool, tx (sel6 a b c d e f) ∈ R6 := by decide +kernel
theorem filt_sel (p : Nat → Bool) : abcL.filter p = sel6 (p 97) (p 98) (p 99) (p 100) (p 101) (p 102) := by
  unfold abcL sel6
  simp only [List.filter_cons, List.filter_nil]
  cases p 97 <;> cases p 98 <;> cases p 99 <;> cases p 100 <;> cases p 101 <;> cases p 102 <;> rfl
theorem R6_all : ∀ z ∈ R6, L6 z = true := by decide +kernel
theorem mem_R6 {z : Str} : z ∈ R6 ↔ L6 z = true := by
  refine ⟨R6_all z, fun h => ?_⟩
  rw [L6_eq h]
  unfold flt
  rw [filt_sel]
  exact sel6_mem _ _ _ _ _ _
theorem R6_strict : R6.Pairwise fun x y => ltZ x y = true := by decide +kernel
theorem strict_ext {α : Type} {r : α → α → Prop} (as : ∀ x y, r x y → ¬ r y x) : ∀ {a b : List α}, a.Pairwise r → b.Pairwise r → (∀ x, x ∈ a ↔ x ∈ b) → a = b
  | [], [], _, _, _ => rfl
  | [], y :: b, _, _, h => absurd ((h y).mpr List.mem_cons_self) (by simp)
  | x :: a, [], _, _, h => absurd ((h x).mp List.mem_cons_self) (by simp)
  | x :: a, y :: b, pa, pb, h => by
    obtain ⟨a1, a2⟩ := List.pairwise_cons.mp pa
    obtain ⟨b1, b2⟩ := List.pairwise_cons.mp pb
    have e : x = y := by
      rcases List.mem_cons.mp ((h x).mp List.mem_cons_self) with e | hx
      · exact e
      · rcases List.mem_cons.mp ((h y).mpr List.mem_cons_self) with e | hy
        · exact e.symm
        · exact absurd (a1 y hy) (as _ _ (b1 x hx))
    subst e
    congr 1
    refine strict_ext as a2 b2 fun z => ⟨fun hz => ?_, fun hz => ?_⟩
    · rcases List.mem_cons.mp ((h z).mp (List.mem_cons_of_mem _ hz)) with rfl | k
      · exact absurd (a1 z hz) (as _ _ (a1 z hz))
      · exact k
    · rcases List.mem_cons.mp ((h z).mpr (List.mem_cons_of_mem _ hz)) with rfl | k
      · exact absurd (b1 z hz) (as _ _ (b1 z hz))
      · exact k
theorem ltZ_as (x y : Str) (h : ltZ x y = true) : ¬ ltZ y x = true := by rw [ltZ_asym h]; decide
/-- in order, each once -/
def ordZ (l : List Str) : List Str := R6.filter fun x => decide (x ∈ l)
theorem mem_ordZ {l : List Str} (hl : ∀ x ∈ l, L6 x = true) {x : Str} : x ∈ ordZ l ↔ x ∈ l := by
  unfold ordZ
  rw [List.mem_filter, decide_eq_true_iff]
  exact ⟨fun h => h.2, fun h => ⟨mem_R6.mpr (hl x h), h⟩⟩
theorem ordZ_strict (l : List Str) : (ordZ l).Pairwise fun x y => ltZ x y = true := R6_strict.filter _
theorem ord_unique {zs l : List Str} (hl : ∀ x ∈ l, L6 x = true) (h : zs.Pairwise fun x y => ltZ x y = true) (hm : ∀ x, x ∈ zs ↔ x ∈ l) : zs = ordZ l :=
  strict_ext ltZ_as h (ordZ_strict l) fun x => (hm x).trans (mem_ordZ hl).symm
theorem R6_len : R6.length = 64 := by decide +kernel
theorem ordZ_len (l : List Str) : (ordZ l).length ≤ 64 := by
  rw [← R6_len]; exact List.length_filter_le _ _
theorem ordZ_nodup (l : List Str) : (ordZ l).Nodup := (ordZ_strict l).imp fun {x y} h => by
  rintro rfl
  exact ltZ_as _ _ h h
theorem ltZ_same {x y : Str} (h : ltZ x y = true) (e : x.length = y.length) : ¬ y.cps.toList < x.cps.toList := by
  unfold ltZ at h
  rw [if_pos e] at h
  exact fun k => List.lt_asymm (of_decide_eq_true h) k
theorem ltZ_len {x y : Str} (h : ltZ x y = true) : x.length ≤ y.length := by
  unfold ltZ at h
  split at h
  · omega
  · exact Nat.le_of_lt (of_decide_eq_true h)
/-- what the program's two sorts make -/
theorem ord_prog {xs zs s ss : List Str} (hl : ∀ x ∈ xs, L6 x = true) (h1 : ∀ k, k ∈ s ↔ k ∈ xs) (h2 : s.Nodup) (h3 : ss.Perm s) (h4 : Bs.Ord ss) (h5 : ByLen zs ss) : zs = ordZ xs := by
  have pm : (ordZ xs).Perm ss := (List.perm_ext_iff_of_nodup (ordZ_nodup xs) (h3.nodup_iff.mpr h2)).mpr fun x => by
    rw [mem_ordZ hl, h3.mem_iff, h1]
  refine byLen_eq (h5.perm.trans pm.symm) h5.ord ((ordZ_strict xs).imp fun h => ltZ_len h) fun n => ?_
  rw [h5.cls n]
  refine ord_eq (pm.symm.filter _) (h4.sublist List.filter_sublist) ?_
  refine List.Pairwise.imp_of_mem ?_ ((ordZ_strict xs).filter _)
  intro x y hx hy h
  have ex := (List.mem_filter.mp hx).2
  have ey := (List.mem_filter.mp hy).2
  simp only [beq_iff_eq] at ex ey
  exact ltZ_same h (ex.trans ey.symm)
/-- the law's way: sorted, then each that is not as the one before -/
theorem ord_law {row l : List Str} (hl : ∀ x ∈ l, L6 x = true) (pm : row.Perm l) (so : row.Pairwise fun x y => ltZ y x = false) :
    ((List.range row.length).filter fun k => decide (k = 0) || decide (row[k]? ≠ row[k - 1]?)).filterMap (fun k => row[k]?) = ordZ l := by
  have sorted : ∀ i j x y, i < j → row[i]? = some x → row[j]? = some y → ltZ y x = false := fun i j x y hij hi hj => by
    obtain ⟨h1, e1⟩ := List.getElem?_eq_some_iff.mp hi
    obtain ⟨h2, e2⟩ := List.getElem?_eq_some_iff.mp hj
    rw [← e1, ← e2]
    exact List.pairwise_iff_getElem.mp so i j h1 h2 hij
  have tot : ∀ x y : Str, ltZ x y = false → ltZ y x = false → x = y := fun x y h1 h2 => by
    unfold ltZ at h1 h2
    by_cases e : x.length = y.length
    · rw [if_pos e] at h1
      rw [if_pos e.symm] at h2
      have a := List.not_lt.mp (of_decide_eq_false h1)
      have b := List.not_lt.mp (of_decide_eq_false h2)
      exact cps_inj (List.le_antisymm b a)
    · rw [if_neg e] at h1
      rw [if_neg fun z => e z.symm] at h2
      have a := of_decide_eq_false h1
      have b := of_decide_eq_false h2
      omega
  refine ord_unique hl ?_ fun x => ?_
  · rw [List.pairwise_filterMap]
    refine List.Pairwise.imp_of_mem ?_ (List.pairwise_lt_range.filter _)
    intro i j hi hj hij x hx y hy
    have hj2 := (List.mem_filter.mp hj).2
    cases e : ltZ x y with
    | true => rfl
    | false =>
      exfalso
      have exy : x = y := tot x y e (sorted i j x y hij hx hy)
      subst exy
      rw [Bool.or_eq_true, decide_eq_true_iff, decide_eq_true_iff] at hj2
      rcases hj2 with h0 | hne
      · omega
      · refine hne ?_
        rw [hy]
        obtain ⟨hjl, _⟩ := List.getElem?_eq_some_iff.mp hy
        have hl2 : j - 1 < row.length := by omega
        have hz : row[j - 1]? = some row[j - 1] := List.getElem?_eq_getElem hl2
        rw [hz]
        congr 1
        by_cases hji : j - 1 = i
        · have : row[j - 1]? = some x := by rw [hji]; exact hx
          rw [hz] at this
          exact (Option.some.inj this).symm
        · refine (tot _ _ (sorted i (j - 1) x _ (by omega) hx hz) (sorted (j - 1) j _ x (by omega) hz hy)).symm
  · rw [← pm.mem_iff, List.mem_filterMap]
    constructor
    · rintro ⟨k, _, hk⟩
      exact List.mem_of_getElem? hk
    · intro hx
      obtain ⟨n, hn, e⟩ := List.mem_iff_getElem.mp hx
      -- the first place with this value
      have key : ∀ n, ∀ h : n < row.length, row[n] = x → ∃ k, k ≤ n ∧ row[k]? = some x ∧ (k = 0 ∨ row[k - 1]? ≠ some x) := by
        intro n
        induction n with
        | zero => intro h e; exact ⟨0, Nat.le_refl _, by rw [List.getElem?_eq_getElem h, e], .inl rfl⟩
        | succ n ih =>
          intro h e
          by_cases hp : row[n]? = some x
          · obtain ⟨h3, e3⟩ := List.getElem?_eq_some_iff.mp hp
            obtain ⟨k, k1, k2, k3⟩ := ih h3 e3
            exact ⟨k, by omega, k2, k3⟩
          · exact ⟨n + 1, Nat.le_refl _, by rw [List.getElem?_eq_getElem h, e], .inr hp⟩
      obtain ⟨k, k1, k2, k3⟩ := key n hn e
      refine ⟨k, List.mem_filter.mpr ⟨List.mem_range.mpr (by omega), ?_⟩, k2⟩
      rw [Bool.or_eq_true, decide_eq_true_iff, decide_eq_true_iff]
      rcases k3 with h | h
      · exact .inl h
      · exact .inr fun z => h (by rw [← z]; exact k2)
/-! ### tops -/
def subZ (x y : Str) : Bool := x.cps.toList.all fun c => decide (c ∈ y.cps.toList)
theorem sub_len : ∀ x ∈ R6, ∀ y ∈ R6, subZ x y = true → x = y ∨ x.length < y.length := by decide +kernel
theorem sub_refl (x : Str) : subZ x x = true := by
  unfold subZ
  rw [List.all_eq_true]
  exact fun c hc => decide_eq_true hc
theorem sub_trans {x y z : Str} (h1 : subZ x y = true) (h2 : subZ y z = true) : subZ x z = true := by
  unfold subZ at *
  rw [List.all_eq_true] at *
  exact fun c hc => h2 c (of_decide_eq_true (h1 c hc))
def topsZ (l : List Str) : List Str := R6.filter fun x => decide (x ∈ l) && l.all fun y => !subZ x y || decide (x = y)
theorem topsZ_congr {l m : List Str} (h : ∀ x, x ∈ l ↔ x ∈ m) : topsZ l = topsZ m := by
  unfold topsZ
  refine List.filter_congr fun x _ => ?_
  rw [Bool.eq_iff_iff, Bool.and_eq_true, Bool.and_eq_true, decide_eq_true_iff, decide_eq_true_iff, List.all_eq_true, List.all_eq_true, h x]
  exact ⟨fun k => ⟨k.1, fun y hy => k.2 y ((h y).mpr hy)⟩, fun k => ⟨k.1, fun y hy => k.2 y ((h y).mp hy)⟩⟩
theorem topsZ_mem {l : List Str} (hl : ∀ x ∈ l, L6 x = true) {x : Str} : x ∈ topsZ l ↔ x ∈ l ∧ ∀ y ∈ l, subZ x y = true → x = y := by
  unfold topsZ
  rw [List.mem_filter, Bool.and_eq_true, decide_eq_true_iff, List.all_eq_true]
  constructor
  · rintro ⟨_, h1, h2⟩
    refine ⟨h1, fun y hy s => ?_⟩
    have := h2 y hy
    rw [s] at this
    simpa using this
  · rintro ⟨h1, h2⟩
    refine ⟨mem_R6.mpr (hl x h1), h1, fun y hy => ?_⟩
    cases s : subZ x y with
    | false => rfl
    | true => simpa using h2 y hy s
theorem topsZ_L6 {l : List Str} : ∀ x ∈ topsZ l, L6 x = true := fun x hx => R6_all x (List.mem_filter.mp hx).1
theorem topsZ_len (l : List Str) : (topsZ l).length ≤ 64 := by
  rw [← R6_len]; exact List.length_filter_le _ _
theorem tops_prog {l : List Str} (hl : ∀ x ∈ l, L6 x = true) : (ordZ l).filter (fun x => !(ordZ l).any fun y => decide (x.length < y.length) && subZ x y) = topsZ l := by
  refine strict_ext ltZ_as ((ordZ_strict l).filter _) (R6_strict.filter _) fun x => ?_
  show _ ↔ x ∈ topsZ l
  rw [topsZ_mem hl, List.mem_filter, mem_ordZ hl, Bool.not_eq_true', List.any_eq_false]
  refine and_congr_right fun hx => ⟨fun h y hy s => ?_, fun h y hy => ?_⟩
  · rcases sub_len x (mem_R6.mpr (hl x hx)) y (mem_R6.mpr (hl y hy)) s with e | e
    · exact e
    · exact absurd (by rw [decide_eq_true e, s]; rfl) (h y ((mem_ordZ hl).mpr hy))
  · intro k
    rw [Bool.and_eq_true, decide_eq_true_iff] at k
    have e := h y ((mem_ordZ hl).mp hy) k.2
    subst e
    omega
theorem tops_law {l : List Str} (hl : ∀ x ∈ l, L6 x = true) : (ordZ l).filter (fun x => decide (((ordZ l).filter fun y => decide (y ≠ x) && subZ x y).length = 0)) = topsZ l := by
  refine strict_ext ltZ_as ((ordZ_strict l).filter _) (R6_strict.filter _) fun x => ?_
  show _ ↔ x ∈ topsZ l
  rw [topsZ_mem hl, List.mem_filter, mem_ordZ hl, decide_eq_true_iff, List.length_eq_zero_iff, List.filter_eq_nil_iff]
  refine and_congr_right fun hx => ⟨fun h y hy s => ?_, fun h y hy => ?_⟩
  · have := h y ((mem_ordZ hl).mpr hy)
    rw [s, Bool.and_true, decide_eq_true_iff] at this
    exact (Decidable.not_not.mp this).symm
  · intro k
    rw [Bool.and_eq_true, decide_eq_true_iff] at k
    exact k.1 (h y ((mem_ordZ hl).mp hy) k.2).symm
theorem tops_cover {l : List Str} (hl : ∀ x ∈ l, L6 x = true) : ∀ x ∈ l, ∃ y ∈ topsZ l, subZ x y = true := by
  have key : ∀ n, ∀ x ∈ l, 6 - x.length = n → ∃ y ∈ topsZ l, subZ x y = true := by
    intro n
    induction n using Nat.strongRecOn with
    | ind n ih =>
      intro x hx e
      by_cases h : x ∈ topsZ l
      · exact ⟨x, h, sub_refl x⟩
      · rw [topsZ_mem hl] at h
        have : ¬ ∀ y ∈ l, subZ x y = true → x = y := fun k => h ⟨hx, k⟩
        simp only [Classical.not_forall] at this
        obtain ⟨y, hy, s, ne⟩ := this
        have lt : x.length < y.length := (sub_len x (mem_R6.mpr (hl x hx)) y (mem_R6.mpr (hl y hy)) s).resolve_left ne
        have l6 := L6_len (hl y hy)
        obtain ⟨z, hz, sz⟩ := ih (6 - y.length) (by omega) y hy rfl
        exact ⟨z, hz, sub_trans s sz⟩
  exact fun x hx => key _ x hx rfl
/-! ### set operations -/
def unionZ (x y : Str) : Str := flt fun c => decide (c ∈ x.cps.toList) || decide (c ∈ y.cps.toList)
def interZ (x y : Str) : Str := flt fun c => decide (c ∈ x.cps.toList) && decide (c ∈ y.cps.toList)
def minusZ (x y : Str) : Str := flt fun c => decide (c ∈ x.cps.toList) && !decide (c ∈ y.cps.toList)
theorem inter_in {x : Str} (h : L6 x = true) (y : Str) : tx (x.cps.toList.filter fun c => decide (c ∈ y.cps.toList)) = interZ x y := by
  refine cps_inj ?_
  rw [tx_cps]
  unfold interZ
  rw [flt_cps]
  conv => lhs; rw [L6_cps h]
  rw [List.filter_filter]
  refine List.filter_congr fun c _ => ?_
  rw [Bool.and_comm]
theorem minus_in {x : Str} (h : L6 x = true) (y : Str) : tx (x.cps.toList.filter fun c => !decide (c ∈ y.cps.toList)) = minusZ x y := by
  refine cps_inj ?_
  rw [tx_cps]
  unfold minusZ
  rw [flt_cps]
  conv => lhs; rw [L6_cps h]
  rw [List.filter_filter]
  refine List.filter_congr fun c _ => ?_
  rw [Bool.and_comm]
theorem minus_nil {x : Str} (h : L6 x = true) (y : Str) : (minusZ x y = Str.ofString "") ↔ subZ x y = true := by
  have e0 : (Str.ofString "").cps.toList = [] := by decide +kernel
  rw [← minus_in h]
  constructor
  · intro e
    have e : (tx (x.cps.toList.filter fun c => !decide (c ∈ y.cps.toList))).cps.toList = [] := by rw [e, e0]
    rw [tx_cps, List.filter_eq_nil_iff] at e
    unfold subZ
    rw [List.all_eq_true]
    intro c hc
    have := e c hc
    simpa using this
  · intro s
    refine cps_inj ?_
    rw [tx_cps, e0, List.filter_eq_nil_iff]
    unfold subZ at s
    rw [List.all_eq_true] at s
    intro c hc
    simpa using s c hc
/-! ### ascending signs -/
def ascB : Option Nat → List Nat → Bool
  | _, [] => true
  | l, c :: cs => decide (c ∈ abcL) && (match l with | none => true | some d => decide (d < c)) && ascB (some c) cs
theorem asc_pair : ∀ {l : Option Nat} {cs : List Nat}, ascB l cs = true → cs.Pairwise (· < ·) ∧ (∀ c ∈ cs, c ∈ abcL) ∧ ∀ d, l = some d → ∀ c ∈ cs, d < c
  | _, [], _ => ⟨.nil, by simp, by simp⟩
  | l, c :: cs, h => by
    unfold ascB at h
    rw [Bool.and_eq_true, Bool.and_eq_true, decide_eq_true_iff] at h
    obtain ⟨⟨h1, h2⟩, h3⟩ := h
    obtain ⟨p1, p2, p3⟩ := asc_pair h3
    refine ⟨List.pairwise_cons.mpr ⟨p3 c rfl, p1⟩, fun d hd => ?_, fun d e x hx => ?_⟩
    · rcases List.mem_cons.mp hd with rfl | hd
      · exact h1
      · exact p2 d hd
    · subst e
      have h2 : d < c := of_decide_eq_true h2
      rcases List.mem_cons.mp hx with rfl | hx
      · exact h2
      · exact Nat.lt_trans h2 (p3 c rfl x hx)
theorem asc_of : ∀ {cs : List Nat} (l : Option Nat), cs.Pairwise (· < ·) → (∀ c ∈ cs, c ∈ abcL) → (∀ d, l = some d → ∀ c ∈ cs, d < c) → ascB l cs = true
  | [], _, _, _, _ => rfl
  | c :: cs, l, h1, h2, h3 => by
    obtain ⟨p1, p2⟩ := List.pairwise_cons.mp h1
    unfold ascB
    rw [decide_eq_true (h2 c List.mem_cons_self), asc_of (some c) p2 (fun d hd => h2 d (List.mem_cons_of_mem _ hd)) (fun d e x hx => by cases e; exact p1 x hx), Bool.and_true, Bool.true_and]
    cases l with
    | none => rfl
    | some d => exact decide_eq_true (h3 d rfl c List.mem_cons_self)
theorem abcL_asc : abcL.Pairwise (· < ·) := by decide
theorem L6_asc (z : Str) : L6 z = ascB none z.cps.toList := by
  rw [Bool.eq_iff_iff]
  constructor
  · intro h
    refine asc_of none ?_ (fun c hc => L6_sub h hc) (by simp)
    rw [L6_cps h]
    exact abcL_asc.filter _
  · intro h
    obtain ⟨p1, p2, _⟩ := asc_pair h
    unfold L6
    refine decide_eq_true (strict_ext (fun x y a b => by omega) p1 (abcL_asc.filter _) fun c => ?_)
    rw [List.mem_filter, decide_eq_true_iff]
    exact ⟨fun hc => ⟨p2 c hc, hc⟩, fun h => h.2⟩
end Bs
namespace K0
open PySem PySem.Spec PyProof.Rows L2 Bs LamX
def lotD : D → Bool
  | .str z => L6 z
  | _ => false
/-- a value that may be asked for -/
structure Askd (d : D) : Prop where
  ty : (tyD d).isSome = true
  len : ∀ z, d = .str z → z.length ≤ 100000
def fChk : Fd := fun ds Q R => ∃ d, ds = [d, .int 6] ∧ Askd d ∧ (lotD d = true → Q d) ∧ (lotD d = false → R (ex0 "BadLot"))
def lastS : Option Nat → Str
  | none => Str.ofString ""
  | some c => one c
theorem le_last (c : Nat) (l : Option Nat) : ([c] ≤ (lastS l).cps.toList) ↔ (match l with | none => False | some d => c ≤ d) := by
  cases l with
  | none =>
    have e : (lastS none).cps.toList = [] := by decide +kernel
    rw [e]
    simp
  | some d =>
    show [c] ≤ [d] ↔ c ≤ d
    constructor
    · intro h
      exact Nat.le_of_not_lt fun k => List.not_lt.mpr h (List.cons_lt_cons_iff.mpr (.inl k))
    · intro h
      refine List.not_lt.mp fun k => ?_
      rcases List.cons_lt_cons_iff.mp k with k | ⟨_, k⟩
      · omega
      · exact absurd k (List.not_lt_nil _)
theorem notS {d : D} (h : ∀ z, d ≠ .str z) : lotD d = false := by
  cases d with
  | str z => exact absurd rfl (h z)
  | _ => rfl
abbrev s_check_lot : Stmt := top 21
theorem sc_check_lot : FnScope ["lot", "size", "slots", "last", "slot"] ["lot", "size"] (defScope s_check_lot) := ⟨rfl, rfl, rfl, by decide +kernel, rfl, by decide +kernel, by decide +kernel⟩
section
variable {P : Program} {w : World} {K : PySem.W.Frag} {mg : Str → Option Value} {base : Heap} {W : Wd}
theorem v_check_lot {f : Addr} {fd : FuncData} (F : FunD K "check_lot" "check_lot" (defArgs s_check_lot) (defBody s_check_lot) (defScope s_check_lot) [.int 6] [] f fd) (T : Txt K mg) (hW : W.K = K) (E_BadLot : ErrV W mg "BadLot")
    (P_slots_below : FnV P w K mg base 1 "slots_below" ["size"] W fSlots) :
    FnOk P w K mg base (L2.CX P w) 2 f fd ["lot", "size"] (spV W 2 fChk) := by
  have sc := sc_check_lot
  let st := s_check_lot
  let N : List Str := ["lot", "size", "slots", "last", "slot"]
  refine FunD.okV F sc (by decide) fun cdv Ar outer s H E A hA hz hr => ?_
  have passX : Passes (L2.CX P w) (cxOf (L2.CX P w) P w K mg base ["lot", "size", "slots", "last", "slot"] "check_lot" (defScope s_check_lot) f cdv Ar outer s H E) E := passes_call (takes_of rfl rfl rfl rfl) (fun _ _ _ _ h => h)
  have hK : A.W.K = K := by rw [hA]; exact hW
  have E_BadLot : ErrV A.W mg "BadLot" := by rw [hA]; exact E_BadLot
  have zl : sizeLine = 16777216 := rfl
  refine ⟨_, (vss_cons (vs_set (i := 2) sc.nd rfl (Or.inl rfl) (v_fn P_slots_below hA (hr.mono (by decide)) (by rfl) passX (fun _ _ _ _ h => h) (va_cons (v_nm 1) va_nil)))
      (vss_cons (vs_if (vt_not (vt hK (v_callB (w_isi hK) (by rfl) T.isinstance boot_isinstance (vb_cons (v_nr 0) (vb_cons (v_tyn (n_str (by rfl) T.str)).vr vb_nil))).vr)) (vss_one (vs_raise E_BadLot hK rfl (takes_of rfl rfl rfl rfl) (by rfl))) vss_nil)
      (vss_cons (vs_set (i := 3) sc.nd rfl (Or.inl rfl) v_str)
      (vss_cons (vs_for (passes_of rfl) rfl (vi hK (v_nm 0)) (vg_name (i := 4) sc.nd rfl (Or.inl rfl)) (vss_cons (vs_if (VW.vt (vw_or (vt_cmp (w_notIn hK) (v_nr 4) (v_nr 2) (by rfl)) (vw_or1 (vt_cmp w_le (v_nr 4) (v_nr 3) (nomark _))))) (vss_one (vs_raise E_BadLot hK rfl (takes_of rfl rfl rfl rfl) (by rfl))) vss_nil)
      (vss_one (vs_set (i := 3) sc.nd rfl (Or.inl rfl) (v_nm 4)))))
      (vss_one (vs_ret (v_nm 0))))))), fun ds Q R hl h => ?_⟩
  obtain ⟨d, rfl, hd, hq, hx⟩ := h
  have c6 : (cutS abc none (some ((6 : Nat) : Int))) = abc := by decide +kernel
  show (_ : VTS) _ [.sh d, .sh (.int 6), .no, .no, .no]
  by_cases hz : ∃ z, d = .str z
  · obtain ⟨z, rfl⟩ := hz
    have hl := hd.len z rfl
    have lz := len_cps z
    simp [fSlots]
    refine ⟨6, rfl, by omega, by omega, ?_⟩
    rw [c6]
    refine forV_ind (fun rest env => ∃ (l : Option Nat) (cs : List Nat) (x : Sl), rest = cs.map (fun c => D.str (one c)) ∧ env = [.sh (.str z), .sh (.int 6), .sh (.str abc), .sh (.str (lastS l)), x] ∧ L6 z = ascB l cs) ?_ ?_ _ _ ⟨none, z.cps.toList, .no, rfl, rfl, L6_asc z⟩
    · rintro r rest env N ⟨l, cs, x, h1, rfl, h2⟩ hN
      cases cs with
      | nil => cases h1
      | cons c cs =>
        cases h1
        simp
        have e := h2
        unfold ascB at e
        refine ite2 (fun k1 => ?_) fun k1 => hx ?_
        · rw [inS_one, abc_cps, decide_eq_true_iff] at k1
          rw [decide_eq_true k1, Bool.true_and] at e
          refine ite2 (fun k2 => hx ?_) fun k2 => hN _ ⟨some c, cs, _, rfl, rfl, ?_⟩
          · rw [le_last] at k2
            show L6 z = false
            cases l with
            | none => exact k2.elim
            | some d =>
              dsimp only at e k2
              rw [e, decide_eq_false (by omega), Bool.false_and]
          · rw [le_last] at k2
            cases l with
            | none => simpa using e
            | some d =>
              dsimp only at e k2
              rw [e, decide_eq_true (by omega), Bool.true_and]
        · rw [inS_one, abc_cps, decide_eq_true_iff] at k1
          show L6 z = false
          rw [e, decide_eq_false k1]
          rfl
    · rintro env ⟨l, cs, x, h1, rfl, h2⟩
      cases cs with
      | cons c cs => cases h1
      | nil => exact hq h2
  · have k : R (ex0 "BadLot") := hx (notS fun z e => hz ⟨z, e⟩)
    obtain ⟨t, ht⟩ := Option.isSome_iff_exists.mp hd.ty
    have ns := notStr hz ht
    simp [fSlots, ht, ns]
    exact ⟨6, rfl, by omega, by omega, t, ht, by rw [if_neg (by rw [ns]; decide)]; exact k⟩
end
end K0
namespace K0
open PySem PySem.Spec PyProof.Rows L2 Bs LamX
def gShuf : Gd := fun ds Q => ∃ l, ds = [.lst l] ∧ l.length ≤ 100000 ∧ ∀ l', l'.Perm l → Q (.lst l')
def gDoub : Gd := fun ds Q => ∃ l, ds = [.lst l] ∧ l.length ≤ 10000 ∧ ∀ l', (∀ d ∈ l', d ∈ l) → l'.length ≤ l.length + 2 → Q (.lst l')
def sqOf (l : List D) (t : D) : Prop := t = .lst l ∨ t = .tup l
def gSeqn : Gd := fun ds Q => ∃ l, ds = [.lst l] ∧ ∀ t, sqOf l t → Q t
def gIns : Gd := fun ds Q => ∃ l d, ds = [.lst l, d] ∧ l.length ≤ 100000 ∧ ∀ at_, at_ ≤ l.length → Q (.lst (l.take at_ ++ [d] ++ l.drop at_))
def gNo : Gd := fun ds Q => ∃ z, ds = [.str z] ∧ Q (noD z)
def gOf (l : List D) : Gd := fun ds Q => ds = [] ∧ ∀ d ∈ l, Q d
def BQ : List D := [.non, .str "", .str "a", .int 0, .int 1, .bl true, .bl false, .dic [] []]
def gCount : Gd := fun ds Q => ∃ m : Int, ds = [.int m] ∧ 0 ≤ m ∧ m ≤ 1000 ∧ ∀ r : Int, 0 ≤ r → r ≤ m → Q (.int r)
def gLot : Gd := fun ds Q => ∃ n : Nat, ds = [.int n] ∧ 1 ≤ n ∧ n ≤ 6 ∧ ∀ z, L6 z = true → Q (.str z)
def gLots : Gd := fun ds Q => ∃ n m : Nat, ds = [.int n, .int m] ∧ 1 ≤ n ∧ n ≤ 6 ∧ m ≤ 100 ∧ ∀ l : List Str, (∀ z ∈ l, L6 z = true) → l.length ≤ m → Q (.lst (txs l))
abbrev s_pick : Stmt := top 40
theorem sc_pick : FnScope ["store", "things"] ["store", "things"] (defScope s_pick) := ⟨rfl, rfl, rfl, by decide +kernel, rfl, by decide +kernel, by decide +kernel⟩
section
variable {P : Program} {w : World} {K : PySem.W.Frag} {mg : Str → Option Value} {base : Heap} {W : Wd}
theorem v_pick {f : Addr} {fd : FuncData} (F : Fun K "_law_pick" "_law_pick" s_pick f fd) (T : Txt K mg) (hW : W.K = K)
    (G_take : FnD P w K mg base 2 "_law_take" ["store", "limit"] W gTake) :
    FnOk P w K mg base CX0 3 f fd ["store", "things"] (spD W 2 gPick) := by
  have sc := sc_pick
  let st := s_pick
  let N : List Str := ["store", "things"]
  refine Fun.okD F sc (by decide) fun cdv Ar outer s H E A a c hA sA hr => ?_
  have hK : A.W.K = K := by rw [hA]; exact hW
  have zl : sizeLine = 16777216 := rfl
  refine ⟨_, (vss_one (vs_ret (v_ix hK (v_nr 1) (v_draw sA 0 G_take hA (hr.mono (by decide)) (by rfl) (va_cons (v_callB (w_len hK) (by rfl) T.len boot_len (vb_cons (v_nr 1) vb_nil)) va_nil)).vr (fun _ _ => rfl)))), fun ds Q hl h => ?_⟩
  unfold gPick at h
  split at h
  · rename_i z
    obtain ⟨h1, h2, k⟩ := h
    have ln := len_cps z
    show (_ : VTS) _ [.st, .sh (.str z)]
    simp [gTake]
    refine ⟨h2, by omega, fun r r0 r1 => ⟨h2, ?_⟩⟩
    have rl := most_lt r1
    obtain ⟨v, _, hm, e⟩ := atI_ok (xs := z.cps.toList) r0 (by omega)
    exact ⟨v, e, k v hm⟩
  · rename_i l
    obtain ⟨h1, h2, k⟩ := h
    show (_ : VTS) _ [.st, .sh (.lst l)]
    simp [gTake]
    refine ⟨by omega, fun r r0 r1 => ?_⟩
    have rl := most_lt r1
    obtain ⟨v, _, hm, e⟩ := atI_ok (xs := l) r0 (by omega)
    exact ⟨v, e, k v hm⟩
  · rename_i l
    obtain ⟨h1, h2, k⟩ := h
    show (_ : VTS) _ [.st, .sh (.tup l)]
    simp [gTake]
    refine ⟨by omega, fun r r0 r1 => ?_⟩
    have rl := most_lt r1
    obtain ⟨v, _, hm, e⟩ := atI_ok (xs := l) r0 (by omega)
    exact ⟨v, e, k v hm⟩
  · exact h.elim
end
abbrev s_shuffled : Stmt := top 42
theorem sc_shuffled : FnScope ["store", "things", "rest", "row", "k", "at"] ["store", "things"] (defScope s_shuffled) := ⟨rfl, rfl, rfl, by decide +kernel, rfl, by decide +kernel, by decide +kernel⟩
section
variable {P : Program} {w : World} {K : PySem.W.Frag} {mg : Str → Option Value} {base : Heap} {W : Wd}
theorem v_shuffled {f : Addr} {fd : FuncData} (F : Fun K "_law_shuffled" "_law_shuffled" s_shuffled f fd) (T : Txt K mg) (hW : W.K = K)
    (G_take : FnD P w K mg base 2 "_law_take" ["store", "limit"] W gTake) :
    FnOk P w K mg base CX0 3 f fd ["store", "things"] (spD W 2 gShuf) := by
  have sc := sc_shuffled
  let st := s_shuffled
  let N : List Str := ["store", "things", "rest", "row", "k", "at"]
  refine Fun.okD F sc (by decide) fun cdv Ar outer s H E A a c hA sA hr => ?_
  have hK : A.W.K = K := by rw [hA]; exact hW
  have zl : sizeLine = 16777216 := rfl
  refine ⟨_, (vss_cons (vs_set (i := 2) sc.nd rfl (Or.inl rfl) (v_callTy (w_list hK) (by rfl) T.list (by decide +kernel) (vb_cons (v_nr 1) vb_nil)))
      (vss_cons (vs_own (i := 3) sc.nd rfl (Or.inl rfl) (vf_lst va_nil))
      (vss_cons (vs_for PassesOwn.never rfl (vi_rng1 (by rfl) T.range (v_callB (w_len hK) (by rfl) T.len boot_len (vb_cons (v_nr 2) vb_nil)).vr) (vg_name (i := 4) sc.nd rfl (Or.inl rfl)) (vss_cons (vs_set (i := 5) sc.nd rfl (Or.inl rfl) (v_draw sA 0 G_take hA (hr.mono (by decide)) (by rfl) (va_cons (v_callB (w_len hK) (by rfl) T.len boot_len (vb_cons (v_nr 2) vb_nil)) va_nil)))
      (vss_cons (vs_app (i := 3) rfl (Or.inl rfl) (v_ix hK (v_nr 2) (v_nr 5) (fun _ _ => rfl)))
      (vss_one (vs_set (i := 2) sc.nd rfl (Or.inl rfl) (v_op (w_add hK) (v_sl hK (v_nr 2) vo_none (vo (v_nr 5))).vr (v_sl hK (v_nr 2) (vo (v_op (w_add hK) (v_nr 5) v_int.vr).vr) vo_none).vr))))))
      (vss_shr 3 (vss_one (vs_ret (v_nm 3))))))), fun ds Q hl h => ?_⟩
  obtain ⟨l, rfl, h1, k⟩ := h
  show (_ : VTS) _ [.st, .sh (.lst l), .no, .no, .no, .no]
  simp [gTake]
  refine ⟨by omega, ?_⟩
  have hlen := rngD_len 0 l.length
  generalize rngD 0 l.length = L at *
  refine forV_ind (fun rest env => ∃ l1 l2 e1 e2, env = [.st, .sh (.lst l), .sh (.lst l1), .ow (.lst l2), e1, e2] ∧ (l2 ++ l1).Perm l ∧ l1.length = rest.length) ?_ ?_ _ _ ⟨l, [], .no, .no, rfl, List.Perm.refl _, by omega⟩
  · rintro d rest env N ⟨l1, l2, e1, e2, rfl, hp, hl1⟩ hN
    rw [List.length_cons] at hl1
    have hl2 := hp.length_eq
    rw [List.length_append] at hl2
    simp [gTake]
    refine ⟨by omega, fun r r0 r1 => ?_⟩
    have rl := most_lt r1
    obtain ⟨v, e, hm, e'⟩ := atI_ok (xs := l1) r0 (by omega)
    have hr : r.toNat < l1.length := by omega
    rw [cut_to r0, cut_from (by omega : (0 : Int) ≤ r + 1), show (r + 1).toNat = r.toNat + 1 by omega]
    have pm : (v :: (l1.take r.toNat ++ l1.drop (r.toNat + 1))).Perm l1 := by
      rw [List.getElem?_eq_getElem hr] at e
      cases e
      have e2 : l1.take r.toNat ++ (l1[r.toNat] :: l1.drop (r.toNat + 1)) = l1 := by
        rw [← List.drop_eq_getElem_cons hr, List.take_append_drop]
      have h := (List.perm_middle (a := l1[r.toNat]) (l₁ := l1.take r.toNat) (l₂ := l1.drop (r.toNat + 1))).symm
      rw [e2] at h
      exact h
    have pl := pm.length_eq
    rw [List.length_cons, List.length_append] at pl
    refine ⟨v, e', by omega, ?_⟩
    refine ⟨by rw [List.length_take] at pl ⊢; rw [List.length_drop] at pl ⊢; omega, hN _ ⟨_, _, _, _, rfl, ?_, by rw [List.length_append]; omega⟩⟩
    rw [List.append_assoc]
    exact (List.Perm.append_left l2 pm).trans hp
  · rintro env ⟨l1, l2, e1, e2, rfl, hp, hl1⟩
    have : l1 = [] := List.eq_nil_of_length_eq_zero hl1
    subst this
    rw [List.append_nil] at hp
    simp
    exact k l2 hp
end
abbrev s_doubled : Stmt := top 43
theorem sc_doubled : FnScope ["store", "things", "row", "k"] ["store", "things"] (defScope s_doubled) := ⟨rfl, rfl, rfl, by decide +kernel, rfl, by decide +kernel, by decide +kernel⟩
section
variable {P : Program} {w : World} {K : PySem.W.Frag} {mg : Str → Option Value} {base : Heap} {W : Wd}
theorem v_doubled {f : Addr} {fd : FuncData} (F : Fun K "_law_doubled" "_law_doubled" s_doubled f fd) (T : Txt K mg) (hW : W.K = K)
    (G_shuffled : FnD P w K mg base 3 "_law_shuffled" ["store", "things"] W gShuf)
    (G_take : FnD P w K mg base 2 "_law_take" ["store", "limit"] W gTake) :
    FnOk P w K mg base CX0 4 f fd ["store", "things"] (spD W 2 gDoub) := by
  have sc := sc_doubled
  let st := s_doubled
  let N : List Str := ["store", "things", "row", "k"]
  refine Fun.okD F sc (by decide) fun cdv Ar outer s H E A a c hA sA hr => ?_
  have hK : A.W.K = K := by rw [hA]; exact hW
  have zl : sizeLine = 16777216 := rfl
  refine ⟨_, (vss_cons (vs_own (i := 2) sc.nd rfl (Or.inl rfl) (vf_list hK (by rfl) T.list (v_nr 1)))
      (vss_cons (vs_if (vt_cmp w_gt (v_callB (w_len hK) (by rfl) T.len boot_len (vb_cons (v_nr 2) vb_nil)).vr v_int.vr (nomark _)) (vss_one (vs_for PassesOwn.never rfl (vi_rng1 (by rfl) T.range (v_draw sA 0 G_take hA (hr.mono (by decide)) (by rfl) (va_cons v_int va_nil)).vr) (vg_name (i := 3) sc.nd rfl (Or.inl rfl)) (vss_one (vs_app (i := 2) rfl (Or.inl rfl) (v_ix hK (v_nr 2) (v_draw sA 0 G_take hA (hr.mono (by decide)) (by rfl) (va_cons (v_callB (w_len hK) (by rfl) T.len boot_len (vb_cons (v_nr 2) vb_nil)) va_nil)).vr (fun _ _ => rfl)))))) vss_nil)
      (vss_shr 2 (vss_one (vs_ret (v_draw sA 0 G_shuffled hA (hr.mono (by decide)) (by rfl) (va_cons (v_nm 2) va_nil))))))), fun ds Q hl h => ?_⟩
  obtain ⟨l, rfl, h1, k⟩ := h
  show (_ : VTS) _ [.st, .sh (.lst l), .no, .no]
  simp [gTake, gShuf]
  refine ite2 (fun h2 r r0 r1 => ?_) fun h2 => ⟨by omega, fun l' hp => k l' (fun d hd => hp.mem_iff.mp hd) (by rw [hp.length_eq]; omega)⟩
  have r2 := most_lt r1
  have hlen := rngD_len 0 r.toNat
  generalize rngD 0 r.toNat = L at *
  refine ⟨by omega, by omega, ?_⟩
  refine forV_ind (fun rest env => ∃ l1 e, env = [.st, .sh (.lst l), .ow (.lst l1), e] ∧ (∀ d ∈ l1, d ∈ l) ∧ 0 < l1.length ∧ l1.length + rest.length ≤ l.length + 2) ?_ ?_ _ _ ⟨l, .no, rfl, fun d hd => hd, h2, by omega⟩
  · rintro d rest env N ⟨l1, e, rfl, hs, hp, hl⟩ hN
    rw [List.length_cons] at hl
    simp [gTake]
    refine ⟨by omega, fun q q0 q1 => ?_⟩
    have ql := most_lt q1
    obtain ⟨v, _, hm, e'⟩ := atI_ok (xs := l1) q0 (by omega)
    refine ⟨v, e', by omega, hN _ ⟨_, _, rfl, fun d hd => ?_, by simp, by rw [List.length_append, List.length_singleton]; omega⟩⟩
    rcases List.mem_append.mp hd with hd | hd
    · exact hs d hd
    · rw [List.mem_singleton.mp hd]; exact hs v hm
  · rintro env ⟨l1, e, rfl, hs, hp, hl⟩
    simp at hl
    simp [gShuf]
    exact ⟨by omega, fun l' hp => k l' (fun d hd => hs d (hp.mem_iff.mp hd)) (by rw [hp.length_eq]; omega)⟩
end
abbrev s_sequence : Stmt := top 44
theorem sc_sequence : FnScope ["store", "things"] ["store", "things"] (defScope s_sequence) := ⟨rfl, rfl, rfl, by decide +kernel, rfl, by decide +kernel, by decide +kernel⟩
section
variable {P : Program} {w : World} {K : PySem.W.Frag} {mg : Str → Option Value} {base : Heap} {W : Wd}
theorem v_sequence {f : Addr} {fd : FuncData} (F : Fun K "_law_sequence" "_law_sequence" s_sequence f fd) (T : Txt K mg) (hW : W.K = K)
    (G_take : FnD P w K mg base 2 "_law_take" ["store", "limit"] W gTake) :
    FnOk P w K mg base CX0 3 f fd ["store", "things"] (spD W 2 gSeqn) := by
  have sc := sc_sequence
  let st := s_sequence
  let N : List Str := ["store", "things"]
  refine Fun.okD F sc (by decide) fun cdv Ar outer s H E A a c hA sA hr => ?_
  have hK : A.W.K = K := by rw [hA]; exact hW
  have zl : sizeLine = 16777216 := rfl
  refine ⟨_, (vss_cons (vs_if (vt_cmp (w_eq hK hr) (v_draw sA 0 G_take hA (hr.mono (by decide)) (by rfl) (va_cons v_int va_nil)).vr v_int.vr (nomark _)) (vss_one (vs_ret (v_callTy (w_tuple hK) (by rfl) T.tuple (by decide +kernel) (vb_cons (v_nr 1) vb_nil)))) vss_nil)
      (vss_one (vs_ret (v_callTy (w_list hK) (by rfl) T.list (by decide +kernel) (vb_cons (v_nr 1) vb_nil))))), fun ds Q hl h => ?_⟩
  obtain ⟨l, rfl, k⟩ := h
  show (_ : VTS) _ [.st, .sh (.lst l)]
  simp [gTake]
  exact fun r r0 r1 => ite2 (fun _ => k _ (.inr rfl)) fun _ => k _ (.inl rfl)
end
abbrev s_inserted : Stmt := top 45
theorem sc_inserted : FnScope ["store", "row", "thing", "at"] ["store", "row", "thing"] (defScope s_inserted) := ⟨rfl, rfl, rfl, by decide +kernel, rfl, by decide +kernel, by decide +kernel⟩
section
variable {P : Program} {w : World} {K : PySem.W.Frag} {mg : Str → Option Value} {base : Heap} {W : Wd}
theorem v_inserted {f : Addr} {fd : FuncData} (F : Fun K "_law_inserted" "_law_inserted" s_inserted f fd) (T : Txt K mg) (hW : W.K = K)
    (G_take : FnD P w K mg base 2 "_law_take" ["store", "limit"] W gTake) :
    FnOk P w K mg base CX0 3 f fd ["store", "row", "thing"] (spD W 3 gIns) := by
  have sc := sc_inserted
  let st := s_inserted
  let N : List Str := ["store", "row", "thing", "at"]
  refine Fun.okD F sc (by decide) fun cdv Ar outer s H E A a c hA sA hr => ?_
  have hK : A.W.K = K := by rw [hA]; exact hW
  have zl : sizeLine = 16777216 := rfl
  refine ⟨_, (vss_cons (vs_set (i := 3) sc.nd rfl (Or.inl rfl) (v_draw sA 0 G_take hA (hr.mono (by decide)) (by rfl) (va_cons (v_op (w_add hK) (v_callB (w_len hK) (by rfl) T.len boot_len (vb_cons (v_nr 1) vb_nil)).vr v_int.vr) va_nil)))
      (vss_one (vs_ret (v_op (w_add hK) (v_op (w_add hK) (v_callTy (w_list hK) (by rfl) T.list (by decide +kernel) (vb_cons (v_sl hK (v_nr 1) vo_none (vo (v_nr 3))).vr vb_nil)).vr (v_lst (va_cons (v_nm 2) va_nil)).vr).vr (v_callTy (w_list hK) (by rfl) T.list (by decide +kernel) (vb_cons (v_sl hK (v_nr 1) (vo (v_nr 3)) vo_none).vr vb_nil)).vr)))), fun ds Q hl h => ?_⟩
  obtain ⟨l, d, rfl, h1, k⟩ := h
  show (_ : VTS) _ [.st, .sh (.lst l), .sh d, .no]
  simp [gTake]
  refine ⟨by omega, fun r r0 r1 => ?_⟩
  have r2 := most_lt r1
  rw [cut_to r0, cut_from r0]
  have hh := k r.toNat (by omega)
  rw [List.append_assoc, List.singleton_append] at hh
  refine ⟨by omega, ?_, ?_, hh⟩
  · rw [List.length_take]; omega
  · rw [List.length_take, List.length_drop]; omega
end
abbrev s_no : Stmt := top 57
theorem sc_no : FnScope ["name"] ["name"] (defScope s_no) := ⟨rfl, rfl, rfl, by decide +kernel, rfl, by decide +kernel, by decide +kernel⟩
section
variable {P : Program} {w : World} {K : PySem.W.Frag} {mg : Str → Option Value} {base : Heap} {W : Wd}
theorem v_no {f : Addr} {fd : FuncData} (F : Fun K "_law_no" "_law_no" s_no f fd) (T : Txt K mg) (hW : W.K = K) :
    FnOk P w K mg base CX0 1 f fd ["name"] (spV W 1 fun ds Q _ => gNo ds Q) := by
  have sc := sc_no
  let st := s_no
  let N : List Str := ["name"]
  refine Fun.okN F sc (by decide) fun cdv Ar outer s H E A hA hr => ?_
  have hK : A.W.K = K := by rw [hA]; exact hW
  have zl : sizeLine = 16777216 := rfl
  refine ⟨_, (vss_one (vs_ret (v_tup (va_cons v_str (va_cons (v_lst (va_cons (v_nm 0) va_nil)) (va_cons (v_tup va_nil) va_nil)))))), fun ds Q hl h => ?_⟩
  obtain ⟨z, rfl, k⟩ := h
  show (_ : VTS) _ [.sh (.str z)]
  simp
  exact ⟨by omega, by omega, k⟩
end
abbrev s_bad_sequence : Stmt := top 49
theorem sc_bad_sequence : FnScope ["store"] ["store"] (defScope s_bad_sequence) := ⟨rfl, rfl, rfl, by decide +kernel, rfl, by decide +kernel, by decide +kernel⟩
section
variable {P : Program} {w : World} {K : PySem.W.Frag} {mg : Str → Option Value} {base : Heap} {W : Wd}
theorem v_bad_sequence {f : Addr} {fd : FuncData} (F : Fun K "_law_bad_sequence" "_law_bad_sequence" s_bad_sequence f fd) (T : Txt K mg) (hW : W.K = K)
    (G_pick : FnD P w K mg base 3 "_law_pick" ["store", "things"] W gPick) :
    FnOk P w K mg base CX0 4 f fd ["store"] (spD W 1 (gOf BQ)) := by
  have sc := sc_bad_sequence
  let st := s_bad_sequence
  let N : List Str := ["store"]
  refine Fun.okD F sc (by decide) fun cdv Ar outer s H E A a c hA sA hr => ?_
  have hK : A.W.K = K := by rw [hA]; exact hW
  have zl : sizeLine = 16777216 := rfl
  refine ⟨_, (vss_one (vs_ret (v_draw sA 0 G_pick hA (hr.mono (by decide)) (by rfl) (va_cons (v_lst (va_cons v_non (va_cons v_str (va_cons v_str (va_cons v_int (va_cons v_int (va_cons v_bl (va_cons v_bl (va_cons v_dnew va_nil))))))))) va_nil)))), fun ds Q hl h => ?_⟩
  obtain ⟨rfl, k⟩ := h
  show (_ : VTS) _ [.st]
  simp [gPick]
  unfold BQ at k
  simp at k
  exact ⟨by omega, k⟩
end
end K0
namespace K0
open PySem PySem.Spec PyProof.Rows L2 Bs LamX
theorem rngD_succ (lo : Int) (n : Nat) : rngD lo (n + 1) = .int lo :: rngD (lo + 1) n := by
  unfold rngD
  rw [List.range_succ_eq_map, List.map_cons, List.map_map]
  refine congr (congrArg _ (by simp)) (List.map_congr_left fun i _ => ?_)
  show D.int (lo + ((i + 1 : Nat) : Int)) = D.int (lo + 1 + (i : Int))
  congr 1
  omega
/-- a comprehension whose items are told by a property -/
theorem lcV_rel {γ : D → List Sl → (List Sl → Prop) → Prop} {te : TV D} {env0 : List Sl} {Q : D → Prop} (p : D → Prop) : ∀ (ds acc : List D), acc.length + ds.length ≤ sizeLine →
    (∀ d ∈ ds, ∀ (M : D → Prop), (∀ y, p y → M y) → γ d env0 fun env1 => te env1 M fun _ => False) →
    (∀ ys : List D, ys.length = ds.length → (∀ y ∈ ys, p y) → Q (.lst (acc ++ ys))) → lcV γ vYes te env0 ds acc Q
  | [], acc, _, _, q => by
    unfold lcV
    have := q [] rfl (fun _ h => absurd h List.not_mem_nil)
    rwa [List.append_nil] at this
  | d :: ds, acc, hl, h, q => by
    unfold lcV
    rw [List.length_cons] at hl
    have hh := h d List.mem_cons_self (fun y => acc.length < sizeLine ∧ lcV γ vYes te env0 ds (acc ++ [y]) Q) fun y py => ⟨by omega, lcV_rel p ds (acc ++ [y]) (by rw [List.length_append, List.length_singleton]; omega) (fun e he => h e (List.mem_cons_of_mem _ he)) fun ys el ey => by
      rw [List.append_assoc]
      exact q (y :: ys) (by rw [List.length_cons, List.length_cons, el]) fun u hu => by
        rcases List.mem_cons.mp hu with rfl | hu
        · exact py
        · exact ey u hu⟩
    simpa [vYes] using hh
theorem cut6 : ∀ n ∈ [1, 2, 3, 4, 5, 6], cutS (Str.ofString "abcdef") none (some ((n : Nat) : Int)) = tx (abcL.take n) := by decide +kernel
theorem take6 : ∀ n ∈ [1, 2, 3, 4, 5, 6], L6 (tx (abcL.take n)) = true := by decide +kernel
theorem one6 : ∀ c ∈ abcL, L6 (one c) = true := by decide +kernel
theorem sub6 {l : List Nat} {n : Nat} (h : l.Sublist (abcL.take n)) : L6 (tx l) = true := by
  rw [L6_asc, tx_cps]
  have h2 := h.trans (List.take_sublist n abcL)
  exact asc_of none (abcL_asc.sublist h2) (fun c hc => h2.subset hc) (fun d e => by cases e)
theorem cdiv_small {n j : Int} (h0 : 0 ≤ n) (h1 : n < 100) (h2 : 1 ≤ j) (h3 : j ≤ 32) : CDivW n j := by
  have a := (Nat.log2_lt (by omega : j.natAbs ≠ 0)).mpr (by omega : j.natAbs < 2 ^ 6)
  exact ⟨by omega, by omega⟩
theorem len_one1 (c : Nat) : (one c).length = 1 := by rw [len_cps]; rfl
theorem tx_one (l : List Nat) (c : Nat) : tx (l ++ [c]) = tx l ++ one c := cps_inj (by rw [tx_cps, app_cps, tx_cps])
theorem all_txs {p : Str → Prop} : ∀ {ys : List D}, (∀ d ∈ ys, ∃ z, d = .str z ∧ p z) → ∃ zs : List Str, ys = txs zs ∧ ∀ z ∈ zs, p z
  | [], _ => ⟨[], rfl, fun _ h => absurd h List.not_mem_nil⟩
  | y :: ys, h => by
    obtain ⟨z, rfl, hz⟩ := h y List.mem_cons_self
    obtain ⟨zs, rfl, hs⟩ := all_txs fun d hd => h d (List.mem_cons_of_mem _ hd)
    exact ⟨z :: zs, rfl, fun u hu => by
      rcases List.mem_cons.mp hu with rfl | hu
      · exact hz
      · exact hs u hu⟩
theorem take_snoc {n k : Nat} (h : k < n) (h6 : n ≤ 6) : ∃ c, (abcL.take n)[k]? = some c ∧ abcL.take (k + 1) = abcL.take k ++ [c] := by
  have hk : k < abcL.length := by show k < 6; omega
  refine ⟨abcL[k], ?_, by rw [List.take_add_one, List.getElem?_eq_getElem hk]; rfl⟩
  rw [List.getElem?_take, if_pos h, List.getElem?_eq_getElem hk]
abbrev s_count : Stmt := top 41
theorem sc_count : FnScope ["store", "most", "way"] ["store", "most"] (defScope s_count) := ⟨rfl, rfl, rfl, by decide +kernel, rfl, by decide +kernel, by decide +kernel⟩
section
variable {P : Program} {w : World} {K : PySem.W.Frag} {mg : Str → Option Value} {base : Heap} {W : Wd}
theorem v_count {f : Addr} {fd : FuncData} (F : Fun K "_law_count" "_law_count" s_count f fd) (T : Txt K mg) (hW : W.K = K)
    (G_take : FnD P w K mg base 2 "_law_take" ["store", "limit"] W gTake) :
    FnOk P w K mg base CX0 3 f fd ["store", "most"] (spD W 2 gCount) := by
  have sc := sc_count
  let st := s_count
  let N : List Str := ["store", "most", "way"]
  refine Fun.okD F sc (by decide) fun cdv Ar outer s H E A a c hA sA hr => ?_
  have hK : A.W.K = K := by rw [hA]; exact hW
  have zl : sizeLine = 16777216 := rfl
  refine ⟨_, (vss_cons (vs_set (i := 2) sc.nd rfl (Or.inl rfl) (v_draw sA 0 G_take hA (hr.mono (by decide)) (by rfl) (va_cons v_int va_nil)))
      (vss_cons (vs_if (VW.vt (vw_or (vt_cmp (w_eq hK hr) (v_nr 2) v_int.vr (nomark _)) (vw_or1 (vt_cmp w_lt (v_nr 1) v_int.vr (nomark _))))) (vss_one (vs_ret v_int)) vss_nil)
      (vss_cons (vs_if (vt_cmp (w_eq hK hr) (v_nr 2) v_int.vr (nomark _)) (vss_one (vs_ret (v_nm 1))) vss_nil)
      (vss_one (vs_ret (v_op (w_add hK) v_int.vr (v_draw sA 0 G_take hA (hr.mono (by decide)) (by rfl) (va_cons (v_nm 1) va_nil)).vr)))))), fun ds Q hl h => ?_⟩
  obtain ⟨m, rfl, m0, m1, k⟩ := h
  show (_ : VTS) _ [.st, .sh (.int m), .no]
  simp [gTake]
  refine fun r r0 r1 => ite2 (fun _ => k 0 (by omega) m0) fun _ => ite2 (fun _ => k 0 (by omega) m0) fun h => ite2 (fun _ => k m m0 (by omega)) fun _ => ⟨by omega, fun q q0 q1 => ?_⟩
  have := most_lt q1
  exact k _ (by omega) (by omega)
end
abbrev s_lot : Stmt := top 46
theorem sc_lot : FnScope ["store", "size", "letters", "way", "bits", "text", "k"] ["store", "size"] (defScope s_lot) := ⟨rfl, rfl, rfl, by decide +kernel, rfl, by decide +kernel, by decide +kernel⟩
section
variable {P : Program} {w : World} {K : PySem.W.Frag} {mg : Str → Option Value} {base : Heap} {W : Wd}
theorem v_lot {f : Addr} {fd : FuncData} (F : Fun K "_law_lot" "_law_lot" s_lot f fd) (T : Txt K mg) (hW : W.K = K)
    (G_take : FnD P w K mg base 2 "_law_take" ["store", "limit"] W gTake)
    (G_pick : FnD P w K mg base 3 "_law_pick" ["store", "things"] W gPick) :
    FnOk P w K mg base CX0 4 f fd ["store", "size"] (spD W 2 gLot) := by
  have sc := sc_lot
  let st := s_lot
  let N : List Str := ["store", "size", "letters", "way", "bits", "text", "k"]
  refine Fun.okD F sc (by decide) fun cdv Ar outer s H E A a c hA sA hr => ?_
  have hK : A.W.K = K := by rw [hA]; exact hW
  have zl : sizeLine = 16777216 := rfl
  refine ⟨_, (vss_cons (vs_set (i := 2) sc.nd rfl (Or.inl rfl) (v_sl hK v_str.vr vo_none (vo (v_nr 1))))
      (vss_cons (vs_set (i := 3) sc.nd rfl (Or.inl rfl) (v_draw sA 0 G_take hA (hr.mono (by decide)) (by rfl) (va_cons v_int va_nil)))
      (vss_cons (vs_if (vt_cmp (w_eq hK hr) (v_nr 3) v_int.vr (nomark _)) (vss_one (vs_ret v_str)) vss_nil)
      (vss_cons (vs_if (vt_cmp (w_eq hK hr) (v_nr 3) v_int.vr (nomark _)) (vss_one (vs_ret (v_nm 2))) vss_nil)
      (vss_cons (vs_if (vt_cmp (w_eq hK hr) (v_nr 3) v_int.vr (nomark _)) (vss_one (vs_ret (v_draw sA 0 G_pick hA (hr.mono (by decide)) (by rfl) (va_cons (v_nm 2) va_nil)))) vss_nil)
      (vss_cons (vs_set (i := 4) sc.nd rfl (Or.inl rfl) (v_draw sA 0 G_take hA (hr.mono (by decide)) (by rfl) (va_cons v_int va_nil)))
      (vss_cons (vs_set (i := 5) sc.nd rfl (Or.inl rfl) v_str)
      (vss_cons (vs_for PassesOwn.never rfl (vi_rng1 (by rfl) T.range (v_callB (w_len hK) (by rfl) T.len boot_len (vb_cons (v_nr 2) vb_nil)).vr) (vg_name (i := 6) sc.nd rfl (Or.inl rfl)) (vss_one (vs_if (vt_cmp (w_eq hK hr) (v_op w_mod (v_callTy w_int (by rfl) T.int (by decide +kernel) (vb_cons (v_op w_fdiv (v_nr 4) (v_ix hK (v_lst (va_cons v_int (va_cons v_int (va_cons v_int (va_cons v_int (va_cons v_int (va_cons v_int va_nil))))))).vr (v_nr 6) (fun _ _ => rfl)).vr).vr vb_nil)).vr v_int.vr).vr v_int.vr (nomark _)) (vss_one (vs_set (i := 5) sc.nd rfl (Or.inl rfl) (v_op (w_add hK) (v_nr 5) (v_ix hK (v_nr 2) (v_nr 6) (fun _ _ => rfl)).vr))) vss_nil)))
      (vss_one (vs_ret (v_nm 5))))))))))), fun ds Q hl h => ?_⟩
  obtain ⟨n, rfl, n1, n6, k⟩ := h
  have nn : n ∈ [1, 2, 3, 4, 5, 6] := by simp; omega
  have e6 : (Str.ofString "abcdef").length ≤ sizeLine := by decide +kernel
  have tl : (tx (abcL.take n)).length = n := by
    rw [len_cps, tx_cps, List.length_take]
    show min n 6 = n
    omega
  show (_ : VTS) _ [.st, .sh (.int n), .no, .no, .no, .no, .no]
  simp [gTake]
  rw [cut6 n nn]
  refine ⟨e6, fun r r0 r1 => ite2 (fun _ => k _ (by decide +kernel)) fun _ => ite2 (fun _ => k _ (take6 n nn)) fun _ => ite2 (fun _ => ?_) fun _ q q0 q1 => ⟨by omega, by omega, ?_⟩⟩
  · unfold gPick
    refine ⟨by omega, by omega, fun c hc => k _ (one6 c ?_)⟩
    rw [tx_cps] at hc
    exact List.take_subset _ _ hc
  · rw [tl]
    refine forV_ind (fun rest env => ∃ (i : Nat) (l : List Nat) (x : Sl), i ≤ n ∧ rest = rngD (i : Int) (n - i) ∧ env = [.st, .sh (.int n), .sh (.str (tx (abcL.take n))), .sh (.int r), .sh (.int q), .sh (.str (tx l)), x] ∧ l.Sublist (abcL.take i)) ?_ ?_ _ _ ⟨0, [], .no, by omega, rfl, rfl, List.nil_sublist _⟩
    · rintro d rest env N ⟨i, l, x, hi, h1, rfl, h2⟩ hN
      by_cases hin : i = n
      · subst hin
        rw [Nat.sub_self] at h1
        cases h1
      rw [show n - i = (n - (i + 1)) + 1 by omega, rngD_succ] at h1
      cases h1
      obtain ⟨c, ec, et⟩ := take_snoc (show i < n by omega) n6
      have stepS : N [.st, .sh (.int n), .sh (.str (tx (abcL.take n))), .sh (.int r), .sh (.int q), .sh (.str (tx l)), .sh (.int i)] := hN _ ⟨i + 1, l, _, by omega, rfl, rfl, by rw [et]; exact h2.trans (List.sublist_append_left _ _)⟩
      have stepT : N [.st, .sh (.int n), .sh (.str (tx (abcL.take n))), .sh (.int r), .sh (.int q), .sh (.str (tx (l ++ [c]))), .sh (.int i)] := hN _ ⟨i + 1, l ++ [c], _, by omega, rfl, rfl, by rw [et]; exact h2.append (List.Sublist.refl _)⟩
      have ll : l.length ≤ 6 := by
        have := h2.length_le
        rw [List.length_take] at this
        omega
      have q2 := most_lt q1
      have cd : ∀ v ∈ ([.int 1, .int 2, .int 4, .int 8, .int 16, .int 32] : List D), ∃ j : Int, v = .int j ∧ CDivW q j := by
        intro v hv
        simp only [List.mem_cons, List.not_mem_nil, or_false] at hv
        rcases hv with rfl | rfl | rfl | rfl | rfl | rfl <;> exact ⟨_, rfl, cdiv_small q0 (by omega) (by omega) (by omega)⟩
      obtain ⟨v, e1, hm, e2⟩ := atI_ok (xs := ([.int 1, .int 2, .int 4, .int 8, .int 16, .int 32] : List D)) (r := (i : Int)) (by omega) (by show (i : Int) < 6; omega)
      obtain ⟨j, rfl, cj⟩ := cd v hm
      have ec' : (tx (abcL.take n)).cps.toList[i]? = some c := by rw [tx_cps]; exact ec
      have ea : atI (tx (abcL.take n)).cps.toList (i : Int) = some c := L2.atI_nat ec'
      have e7 : (tx (l ++ [c])) = tx l ++ one c := tx_one l c
      rw [e7] at stepT
      have lt : (tx l).length = l.length := by rw [len_cps, tx_cps]
      have lo : (one c).length = 1 := len_one1 c
      simp [e2, ea, ec]
      refine ⟨by omega, cj, ite2 (fun _ => ⟨by omega, by omega, stepT⟩) fun _ => stepS⟩
    · rintro env ⟨i, l, x, hi, h1, rfl, h2⟩
      simp
      exact k _ (sub6 h2)
end
abbrev s_lots : Stmt := top 47
theorem sc_lots : FnScope ["store", "size", "most", "row", "k"] ["store", "size", "most"] (defScope s_lots) := ⟨rfl, rfl, rfl, by decide +kernel, rfl, by decide +kernel, by decide +kernel⟩
section
variable {P : Program} {w : World} {K : PySem.W.Frag} {mg : Str → Option Value} {base : Heap} {W : Wd}
theorem v_lots {f : Addr} {fd : FuncData} (F : Fun K "_law_lots" "_law_lots" s_lots f fd) (T : Txt K mg) (hW : W.K = K)
    (G_lot : FnD P w K mg base 4 "_law_lot" ["store", "size"] W gLot)
    (G_take : FnD P w K mg base 2 "_law_take" ["store", "limit"] W gTake)
    (G_count : FnD P w K mg base 3 "_law_count" ["store", "most"] W gCount) :
    FnOk P w K mg base CX0 5 f fd ["store", "size", "most"] (spD W 3 gLots) := by
  have sc := sc_lots
  let st := s_lots
  let N : List Str := ["store", "size", "most", "row", "k"]
  refine Fun.okD F sc (by decide) fun cdv Ar outer s H E A a c hA sA hr => ?_
  have hK : A.W.K = K := by rw [hA]; exact hW
  have zl : sizeLine = 16777216 := rfl
  refine ⟨_, (vss_cons (vs_ownLc (i := 3) (own := [("k", 4)]) rfl sc.nd rfl rfl (sw_true rfl rfl rfl (by decide +kernel)) (vi_rng1 (by rfl) T.range (v_draw sA 0 G_count hA (hr.mono (by decide)) (by rfl) (va_cons (v_nm 2) va_nil)).vr) (blkOk_by (N := N) (sc := (defScope st)) (by decide +kernel)) (by decide) (gq_name 4) (fun _ _ _ _ _ => (pg_name (i := 4) sc.nd rfl (Or.inl rfl))) (fun _ _ _ _ _ => vts_nil) (fun _ _ _ _ _ => (v_draw sA 0 G_lot hA (hr.mono (by decide)) (by rfl) (va_cons (v_nm 1) va_nil))))
      (vss_cons (vs_if (VW.vt (vw_and (vt_cmp w_gt (v_callB (w_len hK) (by rfl) T.len boot_len (vb_cons (v_nr 3) vb_nil)).vr v_int.vr (nomark _)) (vw_and1 (vt_cmp (w_eq hK hr) (v_draw sA 0 G_take hA (hr.mono (by decide)) (by rfl) (va_cons v_int va_nil)).vr v_int.vr (nomark _))))) (vss_one (vs_put (i := 3) rfl (by first | exact Or.inl rfl | exact Or.inr (Or.inl rfl) | exact Or.inr (Or.inr rfl)) (v_ix hK (v_nr 3) (v_op w_sub (v_callB (w_len hK) (by rfl) T.len boot_len (vb_cons (v_nr 3) vb_nil)).vr v_int.vr).vr (fun _ _ => rfl)) v_int)) vss_nil)
      (vss_shr 3 (vss_one (vs_ret (v_nm 3)))))), fun ds Q hl h => ?_⟩
  obtain ⟨n, m, rfl, n1, n6, hm, k⟩ := h
  show (_ : VTS) _ [.st, .sh (.int n), .sh (.int m), .no, .no]
  simp [gTake, gCount]
  refine ⟨by omega, fun r r0 r1 => ⟨by omega, by omega, ?_⟩⟩
  have hlen := rngD_len 0 r.toNat
  refine lcV_rel (fun d => ∃ z, d = .str z ∧ L6 z = true) _ [] (by rw [hlen, List.length_nil]; omega) (fun d hd M hM => ?_) (fun ys yl yp => ?_)
  · simp [gLot]
    exact ⟨n, rfl, n1, n6, fun z hz => hM _ ⟨z, rfl, hz⟩⟩
  · obtain ⟨zs, rfl, hz⟩ : ∃ zs : List Str, ys = txs zs ∧ ∀ z ∈ zs, L6 z = true := all_txs yp
    have zl' : zs.length ≤ m := by
      unfold txs at yl
      rw [List.length_map, hlen] at yl
      omega
    have kk := k zs hz zl'
    rw [List.nil_append]
    have tl : (txs zs).length = zs.length := by unfold txs; rw [List.length_map]
    simp
    refine ite2 (fun h1 q q0 q1 => ite2 (fun _ => ?_) fun _ => kk) fun _ => kk
    have h0 : 0 < zs.length := by omega
    obtain ⟨v, _, hm, e2⟩ := atI_ok (xs := txs zs) (r := (zs.length : Int) - 1) (by omega) (by rw [tl]; omega)
    obtain ⟨z, hz', rfl⟩ := List.mem_map.mp hm
    refine ⟨_, e2, 0, by unfold ixN; rw [if_pos (by omega), if_pos (by omega)]; rfl, ?_⟩
    have es : (txs zs).set 0 (.str z) = txs (zs.set 0 z) := List.map_set.symm
    rw [es]
    refine k _ (fun y hy => ?_) (by rw [List.length_set]; exact zl')
    rcases List.mem_or_eq_of_mem_set hy with h | h
    · exact hz y h
    · exact h ▸ hz z hz'
end
end K0
namespace K0
open PySem PySem.Spec PyProof.Rows L2 Bs LamX
def BL : List D := [.str (one 103), .str "aa", .str "A", .str " ", .str "-", .str "a ", .str ("a" ++ one 103), .str "a\n", .str "?", .str "abcdefg", .str "0"] ++ [.non, .bl true, .bl false, .int 0, .int 1, .tup [], .tup [.str "a"], .lst [], .lst [.str "a"], .dic [] []] ++ [.str "ba", .str "abb", .str "aab", .str "b a", .tup [.str "a", .str "b"], .lst [.str "a", .str "b"]]
def gBdLot : Gd := fun ds Q => ds = [.int 6] ∧ ∀ d ∈ BL, Q d
abbrev s_bad_lot : Stmt := top 48
theorem sc_bad_lot : FnScope ["store", "size", "beyond", "wrong"] ["store", "size"] (defScope s_bad_lot) := ⟨rfl, rfl, rfl, by decide +kernel, rfl, by decide +kernel, by decide +kernel⟩
section
variable {P : Program} {w : World} {K : PySem.W.Frag} {mg : Str → Option Value} {base : Heap} {W : Wd}
theorem v_bad_lot {f : Addr} {fd : FuncData} (F : Fun K "_law_bad_lot" "_law_bad_lot" s_bad_lot f fd) (T : Txt K mg) (hW : W.K = K)
    (G_pick : FnD P w K mg base 3 "_law_pick" ["store", "things"] W gPick) :
    FnOk P w K mg base CX0 4 f fd ["store", "size"] (spD W 2 gBdLot) := by
  have sc := sc_bad_lot
  let st := s_bad_lot
  let N : List Str := ["store", "size", "beyond", "wrong"]
  refine Fun.okD F sc (by decide) fun cdv Ar outer s H E A a c hA sA hr => ?_
  have hK : A.W.K = K := by rw [hA]; exact hW
  have zl : sizeLine = 16777216 := rfl
  refine ⟨_, (vss_cons (vs_set (i := 2) sc.nd rfl (Or.inl rfl) (v_ix hK v_str.vr (v_nr 1) (fun _ _ => rfl)))
      (vss_cons (vs_set (i := 3) sc.nd rfl (Or.inl rfl) (v_lst (va_cons (v_nm 2) (va_cons v_str (va_cons v_str (va_cons v_str (va_cons v_str (va_cons v_str (va_cons (v_op (w_add hK) v_str.vr (v_nr 2)) (va_cons v_str (va_cons v_str (va_cons v_str (va_cons v_str va_nil)))))))))))))
      (vss_cons (vs_set (i := 3) sc.nd rfl (Or.inl rfl) (v_op (w_add hK) (v_nr 3) (v_lst (va_cons v_non (va_cons v_bl (va_cons v_bl (va_cons v_int (va_cons v_int (va_cons (v_tup va_nil) (va_cons (v_tup (va_cons v_str va_nil)) (va_cons (v_lst va_nil) (va_cons (v_lst (va_cons v_str va_nil)) (va_cons v_dnew va_nil))))))))))).vr))
      (vss_cons (vs_if (vt_cmp w_gt (v_nr 1) v_int.vr (nomark _)) (vss_one (vs_set (i := 3) sc.nd rfl (Or.inl rfl) (v_op (w_add hK) (v_nr 3) (v_lst (va_cons v_str (va_cons v_str (va_cons v_str (va_cons v_str (va_cons (v_tup (va_cons v_str (va_cons v_str va_nil))) (va_cons (v_lst (va_cons v_str (va_cons v_str va_nil))) va_nil))))))).vr))) vss_nil)
      (vss_one (vs_ret (v_draw sA 0 G_pick hA (hr.mono (by decide)) (by rfl) (va_cons (v_nm 3) va_nil)))))))), fun ds Q hl h => ?_⟩
  obtain ⟨rfl, k⟩ := h
  show (_ : VTS) _ [.st, .sh (.int 6), .no, .no]
  have c6 : atI (Str.ofString "abcdefg").cps.toList 6 = some 103 := by decide +kernel
  have l1 : (Str.ofString "abcdefg").length ≤ sizeLine := by decide +kernel
  have l2 : (Str.ofString "a").length + (one 103).length ≤ sizeLine := by decide +kernel
  refine ⟨l1, 103, c6, l2, ?_⟩
  repeat refine ⟨by decide +kernel, ?_⟩
  refine ⟨rfl, ?_⟩
  show gPick [.lst BL] Q
  exact ⟨by decide +kernel, by decide +kernel, k⟩
end
end K0
namespace K0
open PySem PySem.Spec PyProof.Rows L2 Bs LamX
def sqL : D → Option (List D)
  | .lst l => some l
  | .tup l => some l
  | _ => none
/-- a value that may be handed in as a sequence -/
structure AskQ (t : D) : Prop where
  a : Askd t
  len : ∀ l, sqL t = some l → l.length ≤ 100000
  its : ∀ l, sqL t = some l → ∀ u ∈ l, Askd u
def badQ (t : D) : Prop := sqL t = none ∨ ∃ l, sqL t = some l ∧ ∃ u ∈ l, lotD u = false
def okQ (t : D) (l : List Str) : Prop := (t = .lst (txs l) ∨ t = .tup (txs l)) ∧ ∀ u ∈ l, L6 u = true
theorem okQ.sq {t : D} {l : List Str} (h : okQ t l) : sqL t = some (txs l) := by
  rcases h.1 with rfl | rfl <;> rfl
def fChks : Fd := fun ds Q R => ∃ t, ds = [t] ∧ AskQ t ∧ (∀ l, okQ t l → Q (.lst (txs l))) ∧ (badQ t → R (ex0 "BadLot"))
theorem lots_of_D {l : List D} (h : ∀ u ∈ l, lotD u = true) : ∃ m : List Str, l = txs m ∧ ∀ u ∈ m, L6 u = true := by
  induction l with
  | nil => exact ⟨[], rfl, by simp⟩
  | cons d l ih =>
    obtain ⟨m, rfl, hm⟩ := ih fun u hu => h u (List.mem_cons_of_mem _ hu)
    have hd := h d List.mem_cons_self
    cases d with
    | str z => exact ⟨z :: m, rfl, fun u hu => by
        rcases List.mem_cons.mp hu with rfl | hu
        · exact hd
        · exact hm u hu⟩
    | _ => cases hd
/-- the comprehension of checks -/
theorem chk_comp {γ : D → List Sl → (List Sl → Prop) → Prop} {te : TV D} {env0 : List Sl} {Q : D → Prop} {R : Exn → Prop} (ds : List D) (hl : ds.length ≤ 16777216)
    (h : ∀ d ∈ ds, ∀ (M : D → Prop), (lotD d = true → M d) → γ d env0 fun env1 => te env1 M R)
    (hr : ∀ d ∈ ds, lotD d = false → R (ex0 "BadLot")) : ∀ acc : List D, acc.length + ds.length ≤ 16777216 → ((∀ d ∈ ds, lotD d = true) → Q (.lst (acc ++ ds))) → lcVX γ vYes te env0 ds acc Q R := by
  induction ds with
  | nil => intro acc _ q; simpa [lcVX] using q (by simp)
  | cons d ds ih =>
    intro acc hl2 q
    unfold lcVX
    rw [List.length_cons] at hl2 hl
    have := h d List.mem_cons_self (fun y => acc.length < sizeLine ∧ lcVX γ vYes te env0 ds (acc ++ [y]) Q R) fun hd => ⟨by have zl : sizeLine = 16777216 := rfl; omega, ih (by omega) (fun e he => h e (List.mem_cons_of_mem _ he)) (fun e he => hr e (List.mem_cons_of_mem _ he)) (acc ++ [d]) (by rw [List.length_append, List.length_singleton]; omega) fun k => by
      rw [List.append_assoc]
      exact q fun e he => by
        rcases List.mem_cons.mp he with rfl | he
        · exact hd
        · exact k e he⟩
    simpa using this
abbrev s_check_lots : Stmt := top 22
theorem sc_check_lots : FnScope ["lots", "lot"] ["lots"] (defScope s_check_lots) := ⟨rfl, rfl, rfl, by decide +kernel, rfl, by decide +kernel, by decide +kernel⟩
section
variable {P : Program} {w : World} {K : PySem.W.Frag} {mg : Str → Option Value} {base : Heap} {W : Wd}
theorem v_check_lots {f : Addr} {fd : FuncData} (F : Fun K "check_lots" "check_lots" s_check_lots f fd) (T : Txt K mg) (hW : W.K = K) (E_BadLot : ErrV W mg "BadLot")
    (PD_check_lot : FnVD P w K mg base 2 "check_lot" ["lot", "size"] W fChk 1 [.int 6] [.int 6]) :
    FnOk P w K mg base (L2.CX P w) 3 f fd ["lots"] (spV W 1 fChks) := by
  have sc := sc_check_lots
  let st := s_check_lots
  let N : List Str := ["lots", "lot"]
  refine Fun.okV F sc (by decide) fun cdv Ar outer s H E A hA hz hr => ?_
  have passX : Passes (L2.CX P w) (cxOf (L2.CX P w) P w K mg base ["lots", "lot"] "check_lots" (defScope s_check_lots) f cdv Ar outer s H E) E := passes_call (takes_of rfl rfl rfl rfl) (fun _ _ _ _ h => h)
  have hK : A.W.K = K := by rw [hA]; exact hW
  have E_BadLot : ErrV A.W mg "BadLot" := by rw [hA]; exact E_BadLot
  have zl : sizeLine = 16777216 := rfl
  refine ⟨_, (vss_cons (vs_if (vt_not (vt hK (v_isiT hK (by rfl) T.isinstance (v_nm 0) (n_list (by rfl) T.list) (n_tuple (by rfl) T.tuple)).vr)) (vss_one (vs_raise E_BadLot hK rfl (takes_of rfl rfl rfl rfl) (by rfl))) vss_nil)
      (vss_one (vs_ret (vf_lcX (own := [("lot", 1)]) rfl rfl (takes_of rfl rfl rfl rfl) (fun _ _ _ _ h => h) rfl sc.nd (vi hK (v_nm 0)) (blkOk_by (N := N) (sc := (defScope st)) (by decide +kernel)) (by decide) (gq_name 1) (fun _ _ _ _ _ => (pg_name (i := 1) sc.nd rfl (Or.inl rfl))) (fun _ _ _ _ _ _ pB => vts_nil) (fun _ _ _ _ _ _ pB => (v_fnDf PD_check_lot hA (hr.mono (by decide)) (by rfl) pB (fun _ _ _ _ h => h) (va_cons (v_nm 1) va_nil)))).ve))), fun ds Q R hl h => ?_⟩
  obtain ⟨t, rfl, ht, hq, hx⟩ := h
  have one : ∀ (l : List D) (env0 : List Sl), (∀ u ∈ l, Askd u) → l.length ≤ 100000 → (∀ d ∈ l, lotD d = false → R (ex0 "BadLot")) → ∀ Q' : D → Prop, (∀ m : List Str, l = txs m → (∀ u ∈ m, L6 u = true) → Q' (.lst (txs m))) →
      lcVX (gSet 1) vYes (vCallDv 2 fChk [.int 6] (vCons (vNm 1) vNil)) [env0.getD 0 .no, .no] l [] Q' R := fun l env0 ha hl hb Q' hQ => by
    refine chk_comp l (by omega) (fun d hd M hM => ?_) hb [] (by simp; omega) fun k => ?_
    · simp [fChk]
      exact ⟨ha d hd, hM, hb d hd⟩
    · obtain ⟨m, rfl, hm⟩ := lots_of_D k
      exact hQ m rfl hm
  have q1 : isSub "NoneType" "list" = false := by decide
  have q2 : isSub "NoneType" "tuple" = false := by decide
  have q3 : isSub "str" "list" = false := by decide
  have q4 : isSub "str" "tuple" = false := by decide
  have q5 : isSub "bool" "list" = false := by decide
  have q6 : isSub "bool" "tuple" = false := by decide
  have q7 : isSub "int" "list" = false := by decide
  have q8 : isSub "int" "tuple" = false := by decide
  have q9 : isSub "dict" "list" = false := by decide
  have q0 : isSub "dict" "tuple" = false := by decide
  have key : ∀ l, sqL t = some l → lcVX (gSet 1) vYes (vCallDv 2 fChk [.int 6] (vCons (vNm 1) vNil)) [.sh t, .no] l [] Q R := fun l hl =>
    one l [.sh t] (ht.its l hl) (ht.len l hl) (fun d hd h => hx (.inr ⟨l, hl, d, hd, h⟩)) Q fun m e hm => by
      subst e
      refine hq m ⟨?_, hm⟩
      cases t with
      | lst x => exact .inl (congrArg D.lst (Option.some.inj hl))
      | tup x => exact .inr (congrArg D.tup (Option.some.inj hl))
      | _ => cases hl
  have no : sqL t = none → R (ex0 "BadLot") := fun h => hx (.inl h)
  have hty := ht.a.ty
  cases t with
  | lst l =>
    show (_ : VTS) _ [.sh (.lst l), .no]
    have := key l rfl
    simp at this ⊢
    exact this
  | tup l =>
    show (_ : VTS) _ [.sh (.tup l), .no]
    have := key l rfl
    simp at this ⊢
    exact this
  | non =>
    show (_ : VTS) _ [.sh .non, .no]
    simp [q1, q2]
    exact no rfl
  | str z =>
    show (_ : VTS) _ [.sh (.str z), .no]
    simp [q3, q4]
    exact no rfl
  | bl b =>
    show (_ : VTS) _ [.sh (.bl b), .no]
    simp [q5, q6]
    exact no rfl
  | int n =>
    show (_ : VTS) _ [.sh (.int n), .no]
    simp [q7, q8]
    exact no rfl
  | dic k l =>
    show (_ : VTS) _ [.sh (.dic k l), .no]
    simp [q9, q0]
    exact no rfl
  | dit k l =>
    show (_ : VTS) _ [.sh (.dit k l), .no]
    simp [q9, q0]
    exact no rfl
  | _ => cases hty
end
def fOrd6 : Fd := fun ds Q _ => ∃ xs : List Str, ds = [.lst (txs xs)] ∧ xs.length ≤ 4000 ∧ (∀ x ∈ xs, L6 x = true) ∧ Q (.lst (txs (ordZ xs)))
abbrev s_in_order : Stmt := top 23
theorem sc_in_order : FnScope ["lots"] ["lots"] (defScope s_in_order) := ⟨rfl, rfl, rfl, by decide +kernel, rfl, by decide +kernel, by decide +kernel⟩
section
variable {P : Program} {w : World} {K : PySem.W.Frag} {mg : Str → Option Value} {base : Heap} {W : Wd}
theorem v_in_order {f : Addr} {fd : FuncData} (F : Fun K "in_order" "in_order" s_in_order f fd) (T : Txt K mg) (hW : W.K = K) (hWP : W.P = P) (hWw : W.w = w) :
    FnOk P w K mg base (L2.CX P w) 4 f fd ["lots"] (spV W 1 fOrd6) := by
  have sc := sc_in_order
  let st := s_in_order
  let N : List Str := ["lots"]
  refine Fun.okV F sc (by decide) fun cdv Ar outer s H E A hA hz hr => ?_
  have passX : Passes (L2.CX P w) (cxOf (L2.CX P w) P w K mg base ["lots"] "in_order" (defScope s_in_order) f cdv Ar outer s H E) E := passes_call (takes_of rfl rfl rfl rfl) (fun _ _ _ _ h => h)
  have hK : A.W.K = K := by rw [hA]; exact hW
  have hP : A.W.P = P := by rw [hA]; exact hWP
  have hw : A.W.w = w := by rw [hA]; exact hWw
  have zl : sizeLine = 16777216 := rfl
  refine ⟨_, (vss_one (vs_ret (VF.ve (vf_ord hK hP hw rfl (by rfl) T.sorted (by rfl) T.len (by rfl) T.set (v_nr 0))))), fun ds Q R hl h => ?_⟩
  obtain ⟨xs, rfl, h1, h2, k⟩ := h
  show (_ : VTS) _ [.sh (.lst (txs xs))]
  simp
  exact ⟨xs, rfl, by unfold scanBound; omega, fun x hx => by have := L6_len (h2 x hx); omega, fun zs s ss a1 a2 a3 a4 a5 => by rw [ord_prog h2 a1 a2 a3 a4 a5]; exact k⟩
end
def fShared : Fd := fun ds Q _ => ∃ x y : Str, ds = [.str x, .str y] ∧ L6 x = true ∧ L6 y = true ∧ Q (.str (interZ x y))
def fWithin : Fd := fun ds Q _ => ∃ x y : Str, ds = [.str x, .str y] ∧ x.length ≤ 6 ∧ y.length ≤ 6 ∧ Q (.bl (subZ x y))
abbrev s_is_within : Stmt := top 24
theorem sc_is_within : FnScope ["one", "two", "slot"] ["one", "two"] (defScope s_is_within) := ⟨rfl, rfl, rfl, by decide +kernel, rfl, by decide +kernel, by decide +kernel⟩
section
variable {P : Program} {w : World} {K : PySem.W.Frag} {mg : Str → Option Value} {base : Heap} {W : Wd}
theorem v_is_within {f : Addr} {fd : FuncData} (F : Fun K "is_within" "is_within" s_is_within f fd) (T : Txt K mg) (hW : W.K = K) :
    FnOk P w K mg base (L2.CX P w) 1 f fd ["one", "two"] (spV W 2 fWithin) := by
  have sc := sc_is_within
  let st := s_is_within
  let N : List Str := ["one", "two", "slot"]
  refine Fun.okV F sc (by decide) fun cdv Ar outer s H E A hA hz hr => ?_
  have passX : Passes (L2.CX P w) (cxOf (L2.CX P w) P w K mg base ["one", "two", "slot"] "is_within" (defScope s_is_within) f cdv Ar outer s H E) E := passes_call (takes_of rfl rfl rfl rfl) (fun _ _ _ _ h => h)
  have hK : A.W.K = K := by rw [hA]; exact hW
  have zl : sizeLine = 16777216 := rfl
  refine ⟨_, (vss_one (vs_ret (v_callB (w_all hK rfl) (by rfl) T.all boot_all (vb_cons (vf_lc' (own := [("slot", 2)]) rfl sc.nd (vi hK (v_nm 0)) (blkOk_by (N := N) (sc := (defScope st)) (by decide +kernel)) (by decide) (gq_name 2) (fun _ _ _ _ _ => (pg_name (i := 2) sc.nd rfl (Or.inl rfl))) (fun _ _ _ _ _ => vts_nil) (fun _ _ _ _ _ => (v_cmp (w_in hK) (v_nr 2) (v_nr 1) (by rfl)))).ve.vr vb_nil)))), fun ds Q R hl h => ?_⟩
  obtain ⟨x, y, rfl, h1, h2, k⟩ := h
  have lx := len_cps x
  show (_ : VTS) _ [.sh (.str x), .sh (.str y), .no]
  simp
  refine lcV_map (fun d => match d with | .str u => .bl (inS u y) | _ => .non) _ (by rw [List.length_map]; omega) (fun q hq M hM => ?_) ?_
  · obtain ⟨c, hc, rfl⟩ := List.mem_map.mp hq
    simp
    exact hM
  · refine ⟨x.cps.toList.map fun c => inS (one c) y, ?_, ?_⟩
    · rw [List.map_map]
      exact blL_map (fun c => inS (one c) y) x.cps.toList
    · have e : ((x.cps.toList.map fun c => inS (one c) y).all fun b => b) = subZ x y := by
        rw [List.all_map]
        unfold subZ
        congr 1
        funext c
        exact inS_one c y
      rw [e]
      exact k
end
theorem join_flt (p : Nat → Bool) : Txt.join (Str.ofString "") ((abcL.filter p).map one) = flt p := by
  refine cps_inj ?_
  rw [flt_cps, Bs.join_ones (by decide +kernel)] <;> rfl
theorem join_sub (l : List Nat) : Txt.join (Str.ofString "") (l.map one) = tx l := by
  refine cps_inj ?_
  rw [tx_cps, Bs.join_ones (by decide +kernel)] <;> rfl
/-- signs that pass a test -/
theorem lc_flt {γ : D → List Sl → (List Sl → Prop) → Prop} {tt : TV Bool} {te : TV D} {env0 : List Sl} {Q : D → Prop} (p : Nat → Bool) : ∀ (cs : List Nat) (acc : List D), acc.length + cs.length ≤ 1000 →
    (∀ c ∈ cs, ∀ (M : D → Prop) (B : Prop), (p c = true → M (.str (one c))) → (p c = false → B) → γ (.str (one c)) env0 fun env1 => tt env1 (fun b => if b = true then te env1 M (fun _ => False) else B) fun _ => False) →
    Q (.lst (acc ++ txs ((cs.filter p).map one))) → lcV γ tt te env0 (cs.map fun c => .str (one c)) acc Q
  | [], acc, _, _, q => by simpa [lcV, txs] using q
  | c :: cs, acc, hl, h, q => by
    rw [List.map_cons]
    unfold lcV
    rw [List.length_cons] at hl
    refine h c List.mem_cons_self _ _ (fun hp => ⟨by have zl : sizeLine = 16777216 := rfl; omega, ?_⟩) (fun hp => ?_)
    · refine lc_flt p cs _ (by rw [List.length_append, List.length_singleton]; omega) (fun e he => h e (List.mem_cons_of_mem _ he)) ?_
      rw [List.filter_cons, if_pos hp, List.map_cons] at q
      rw [List.append_assoc]
      exact q
    · refine lc_flt p cs acc (by omega) (fun e he => h e (List.mem_cons_of_mem _ he)) ?_
      rw [List.filter_cons, if_neg (by rw [hp]; decide)] at q
      exact q
theorem sum_ones : ∀ l : List Nat, (l.map ((fun z : Str => z.length) ∘ one)).sum = l.length
  | [] => rfl
  | c :: l => by
    rw [List.map_cons, List.sum_cons, List.length_cons, sum_ones l]
    show 1 + _ = _
    omega
theorem join_lc {l : List Nat} {Q : D → Prop} (hl : l.length ≤ 1000) (k : Q (.str (tx l))) : dJoin (.str (Str.ofString "")) (.lst ([] ++ txs (l.map one))) Q := by
  refine join_txs ?_ (by rw [join_sub]; exact k)
  have e0 : (Str.ofString "").length = 0 := by decide +kernel
  rw [List.map_map, e0, Nat.mul_zero]
  have := sum_ones l
  omega
/-- two lots -/
def fTwo (f : Str → Str → D) : Fd := fun ds Q R => ∃ d e, ds = [d, e] ∧ Askd d ∧ Askd e ∧ (∀ x y : Str, d = .str x → e = .str y → L6 x = true → L6 y = true → Q (f x y)) ∧ (lotD d = false ∨ lotD e = false → R (ex0 "BadLot"))
def uniD (x y : Str) : D := .str (unionZ x y)
def comD (x y : Str) : D := .str (interZ x y)
def minD (x y : Str) : D := .str (minusZ x y)
def liesD (x y : Str) : D := .bl (subZ x y)
theorem lotD_str {d : D} (h : lotD d = true) : ∃ z, d = .str z ∧ L6 z = true := by
  cases d with
  | str z => exact ⟨z, rfl, h⟩
  | _ => cases h
abbrev s_union : Stmt := top 25
theorem sc_union : FnScope ["one", "two", "slot"] ["one", "two"] (defScope s_union) := ⟨rfl, rfl, rfl, by decide +kernel, rfl, by decide +kernel, by decide +kernel⟩
section
variable {P : Program} {w : World} {K : PySem.W.Frag} {mg : Str → Option Value} {base : Heap} {W : Wd}
theorem v_union {f : Addr} {fd : FuncData} (F : Fun K "union" "union" s_union f fd) (T : Txt K mg) (Cc : Cs mg) (hW : W.K = K)
    (PD_check_lot : FnVD P w K mg base 2 "check_lot" ["lot", "size"] W fChk 1 [.int 6] [.int 6]) :
    FnOk P w K mg base (L2.CX P w) 3 f fd ["one", "two"] (spV W 2 (fTwo uniD)) := by
  have sc := sc_union
  let st := s_union
  let N : List Str := ["one", "two", "slot"]
  obtain ⟨_, gg_ALL_SLOTS⟩ := Cc.ALL_SLOTS
  refine Fun.okV F sc (by decide) fun cdv Ar outer s H E A hA hz hr => ?_
  have passX : Passes (L2.CX P w) (cxOf (L2.CX P w) P w K mg base ["one", "two", "slot"] "union" (defScope s_union) f cdv Ar outer s H E) E := passes_call (takes_of rfl rfl rfl rfl) (fun _ _ _ _ h => h)
  have hK : A.W.K = K := by rw [hA]; exact hW
  have zl : sizeLine = 16777216 := rfl
  refine ⟨_, (vss_cons (vs_expr (v_fnDf PD_check_lot hA (hr.mono (by decide)) (by rfl) passX (fun _ _ _ _ h => h) (va_cons (v_nm 0) va_nil)))
      (vss_cons (vs_expr (v_fnDf PD_check_lot hA (hr.mono (by decide)) (by rfl) passX (fun _ _ _ _ h => h) (va_cons (v_nm 1) va_nil)))
      (vss_one (vs_ret (v_join hK v_str.vr (vf_lc' (own := [("slot", 2)]) rfl sc.nd (vi hK (VE.const (pe_gS (by rfl) gg_ALL_SLOTS) fun _ _ => .str)) (blkOk_by (N := N) (sc := (defScope st)) (by decide +kernel)) (by decide) (gq_name 2) (fun _ _ _ _ _ => (pg_name (i := 2) sc.nd rfl (Or.inl rfl))) (fun _ _ _ _ _ => (vts_one (VW.vt (vw_or (vt_cmp (w_in hK) (v_nr 2) (v_nr 0) (by rfl)) (vw_or1 (vt_cmp (w_in hK) (v_nr 2) (v_nr 1) (by rfl))))))) (fun _ _ _ _ _ => (v_nm 2))).ve.vr))))), fun ds Q R hl h => ?_⟩
  obtain ⟨d, e, rfl, hd, he, hq, hx⟩ := h
  show (_ : VTS) _ [.sh d, .sh e, .no]
  simp [fChk]
  refine ⟨hd, fun h1 => ⟨he, fun h2 => ?_, fun h2 => hx (.inr h2)⟩, fun h1 => hx (.inl h1)⟩
  obtain ⟨x, rfl, lx⟩ := lotD_str h1
  obtain ⟨y, rfl, ly⟩ := lotD_str h2
  refine lc_flt (fun c => decide (c ∈ x.cps.toList) || decide (c ∈ y.cps.toList)) _ [] (by rw [abc_cps]; decide) (fun c hc M B h1 h2 => ?_) (join_lc (by rw [abc_cps]; exact Nat.le_trans (List.length_filter_le _ _) (by decide)) ?_)
  · simp
    rw [inS_one, inS_one]
    exact ite2 (fun h => h1 (by rw [h]; rfl)) fun h => ite2 (fun h' => h1 (by rw [h', Bool.or_true])) fun h' => h2 (by simp at h h'; simp [h, h'])
  · rw [abc_cps]
    exact hq x y rfl rfl lx ly
end
abbrev s_shared : Stmt := top 26
theorem sc_shared : FnScope ["one", "two", "slot"] ["one", "two"] (defScope s_shared) := ⟨rfl, rfl, rfl, by decide +kernel, rfl, by decide +kernel, by decide +kernel⟩
section
variable {P : Program} {w : World} {K : PySem.W.Frag} {mg : Str → Option Value} {base : Heap} {W : Wd}
theorem v_shared {f : Addr} {fd : FuncData} (F : Fun K "shared" "shared" s_shared f fd) (T : Txt K mg) (hW : W.K = K) :
    FnOk P w K mg base (L2.CX P w) 1 f fd ["one", "two"] (spV W 2 fShared) := by
  have sc := sc_shared
  let st := s_shared
  let N : List Str := ["one", "two", "slot"]
  refine Fun.okV F sc (by decide) fun cdv Ar outer s H E A hA hz hr => ?_
  have passX : Passes (L2.CX P w) (cxOf (L2.CX P w) P w K mg base ["one", "two", "slot"] "shared" (defScope s_shared) f cdv Ar outer s H E) E := passes_call (takes_of rfl rfl rfl rfl) (fun _ _ _ _ h => h)
  have hK : A.W.K = K := by rw [hA]; exact hW
  have zl : sizeLine = 16777216 := rfl
  refine ⟨_, (vss_one (vs_ret (v_join hK v_str.vr (vf_lc' (own := [("slot", 2)]) rfl sc.nd (vi hK (v_nm 0)) (blkOk_by (N := N) (sc := (defScope st)) (by decide +kernel)) (by decide) (gq_name 2) (fun _ _ _ _ _ => (pg_name (i := 2) sc.nd rfl (Or.inl rfl))) (fun _ _ _ _ _ => (vts_one (vt_cmp (w_in hK) (v_nr 2) (v_nr 1) (by rfl)))) (fun _ _ _ _ _ => (v_nm 2))).ve.vr))), fun ds Q R hl h => ?_⟩
  obtain ⟨x, y, rfl, h1, h2, k⟩ := h
  show (_ : VTS) _ [.sh (.str x), .sh (.str y), .no]
  simp
  refine lc_flt (fun c => decide (c ∈ y.cps.toList)) _ [] (by have := L6_len h1; rw [len_cps] at this; rw [List.length_nil]; omega) (fun c hc M B h1 h2 => ?_) (join_lc (Nat.le_trans (List.length_filter_le _ _) (by have := L6_len h1; rw [len_cps] at this; omega)) ?_)
  · simp
    rw [inS_one]
    exact ite2 (fun h => h1 h) fun h => h2 (by simpa using h)
  · rw [inter_in h1]
    exact k
end
end K0
namespace K0
open PySem PySem.Spec PyProof.Rows L2 Bs LamX
abbrev s_common : Stmt := top 27
theorem sc_common : FnScope ["one", "two"] ["one", "two"] (defScope s_common) := ⟨rfl, rfl, rfl, by decide +kernel, rfl, by decide +kernel, by decide +kernel⟩
section
variable {P : Program} {w : World} {K : PySem.W.Frag} {mg : Str → Option Value} {base : Heap} {W : Wd}
theorem v_common {f : Addr} {fd : FuncData} (F : Fun K "common" "common" s_common f fd) (T : Txt K mg) (hW : W.K = K)
    (PD_check_lot : FnVD P w K mg base 2 "check_lot" ["lot", "size"] W fChk 1 [.int 6] [.int 6])
    (P_shared : FnV P w K mg base 1 "shared" ["one", "two"] W fShared) :
    FnOk P w K mg base (L2.CX P w) 3 f fd ["one", "two"] (spV W 2 (fTwo comD)) := by
  have sc := sc_common
  let st := s_common
  let N : List Str := ["one", "two"]
  refine Fun.okV F sc (by decide) fun cdv Ar outer s H E A hA hz hr => ?_
  have passX : Passes (L2.CX P w) (cxOf (L2.CX P w) P w K mg base ["one", "two"] "common" (defScope s_common) f cdv Ar outer s H E) E := passes_call (takes_of rfl rfl rfl rfl) (fun _ _ _ _ h => h)
  have hK : A.W.K = K := by rw [hA]; exact hW
  have zl : sizeLine = 16777216 := rfl
  refine ⟨_, (vss_cons (vs_expr (v_fnDf PD_check_lot hA (hr.mono (by decide)) (by rfl) passX (fun _ _ _ _ h => h) (va_cons (v_nm 0) va_nil)))
      (vss_cons (vs_expr (v_fnDf PD_check_lot hA (hr.mono (by decide)) (by rfl) passX (fun _ _ _ _ h => h) (va_cons (v_nm 1) va_nil)))
      (vss_one (vs_ret (v_fn P_shared hA (hr.mono (by decide)) (by rfl) passX (fun _ _ _ _ h => h) (va_cons (v_nm 0) (va_cons (v_nm 1) va_nil))))))), fun ds Q R hl h => ?_⟩
  obtain ⟨d, e, rfl, hd, he, hq, hx⟩ := h
  show (_ : VTS) _ [.sh d, .sh e]
  simp [fChk]
  refine ⟨hd, fun h1 => ⟨he, fun h2 => ?_, fun h2 => hx (.inr h2)⟩, fun h1 => hx (.inl h1)⟩
  obtain ⟨x, rfl, lx⟩ := lotD_str h1
  obtain ⟨y, rfl, ly⟩ := lotD_str h2
  exact ⟨x, y, rfl, lx, ly, hq x y rfl rfl lx ly⟩
end
abbrev s_minus : Stmt := top 28
theorem sc_minus : FnScope ["one", "two", "slot"] ["one", "two"] (defScope s_minus) := ⟨rfl, rfl, rfl, by decide +kernel, rfl, by decide +kernel, by decide +kernel⟩
section
variable {P : Program} {w : World} {K : PySem.W.Frag} {mg : Str → Option Value} {base : Heap} {W : Wd}
theorem v_minus {f : Addr} {fd : FuncData} (F : Fun K "minus" "minus" s_minus f fd) (T : Txt K mg) (hW : W.K = K)
    (PD_check_lot : FnVD P w K mg base 2 "check_lot" ["lot", "size"] W fChk 1 [.int 6] [.int 6]) :
    FnOk P w K mg base (L2.CX P w) 3 f fd ["one", "two"] (spV W 2 (fTwo minD)) := by
  have sc := sc_minus
  let st := s_minus
  let N : List Str := ["one", "two", "slot"]
  refine Fun.okV F sc (by decide) fun cdv Ar outer s H E A hA hz hr => ?_
  have passX : Passes (L2.CX P w) (cxOf (L2.CX P w) P w K mg base ["one", "two", "slot"] "minus" (defScope s_minus) f cdv Ar outer s H E) E := passes_call (takes_of rfl rfl rfl rfl) (fun _ _ _ _ h => h)
  have hK : A.W.K = K := by rw [hA]; exact hW
  have zl : sizeLine = 16777216 := rfl
  refine ⟨_, (vss_cons (vs_expr (v_fnDf PD_check_lot hA (hr.mono (by decide)) (by rfl) passX (fun _ _ _ _ h => h) (va_cons (v_nm 0) va_nil)))
      (vss_cons (vs_expr (v_fnDf PD_check_lot hA (hr.mono (by decide)) (by rfl) passX (fun _ _ _ _ h => h) (va_cons (v_nm 1) va_nil)))
      (vss_one (vs_ret (v_join hK v_str.vr (vf_lc' (own := [("slot", 2)]) rfl sc.nd (vi hK (v_nm 0)) (blkOk_by (N := N) (sc := (defScope st)) (by decide +kernel)) (by decide) (gq_name 2) (fun _ _ _ _ _ => (pg_name (i := 2) sc.nd rfl (Or.inl rfl))) (fun _ _ _ _ _ => (vts_one (vt_cmp (w_notIn hK) (v_nr 2) (v_nr 1) (by rfl)))) (fun _ _ _ _ _ => (v_nm 2))).ve.vr))))), fun ds Q R hl h => ?_⟩
  obtain ⟨d, e, rfl, hd, he, hq, hx⟩ := h
  show (_ : VTS) _ [.sh d, .sh e, .no]
  simp [fChk]
  refine ⟨hd, fun h1 => ⟨he, fun h2 => ?_, fun h2 => hx (.inr h2)⟩, fun h1 => hx (.inl h1)⟩
  obtain ⟨x, rfl, lx⟩ := lotD_str h1
  obtain ⟨y, rfl, ly⟩ := lotD_str h2
  refine lc_flt (fun c => !decide (c ∈ y.cps.toList)) _ [] (by have := L6_len lx; rw [len_cps] at this; rw [List.length_nil]; omega) (fun c hc M B h1 h2 => ?_) (join_lc (Nat.le_trans (List.length_filter_le _ _) (by have := L6_len lx; rw [len_cps] at this; omega)) ?_)
  · simp
    rw [inS_one]
    exact ite2 (fun h => h2 (by simpa using h)) fun h => h1 (by simpa using h)
  · rw [minus_in lx]
    exact hq x y rfl rfl lx ly
end
abbrev s_lies_in : Stmt := top 29
theorem sc_lies_in : FnScope ["one", "two"] ["one", "two"] (defScope s_lies_in) := ⟨rfl, rfl, rfl, by decide +kernel, rfl, by decide +kernel, by decide +kernel⟩
section
variable {P : Program} {w : World} {K : PySem.W.Frag} {mg : Str → Option Value} {base : Heap} {W : Wd}
theorem v_lies_in {f : Addr} {fd : FuncData} (F : Fun K "lies_in" "lies_in" s_lies_in f fd) (T : Txt K mg) (hW : W.K = K)
    (PD_check_lot : FnVD P w K mg base 2 "check_lot" ["lot", "size"] W fChk 1 [.int 6] [.int 6])
    (P_is_within : FnV P w K mg base 1 "is_within" ["one", "two"] W fWithin) :
    FnOk P w K mg base (L2.CX P w) 3 f fd ["one", "two"] (spV W 2 (fTwo liesD)) := by
  have sc := sc_lies_in
  let st := s_lies_in
  let N : List Str := ["one", "two"]
  refine Fun.okV F sc (by decide) fun cdv Ar outer s H E A hA hz hr => ?_
  have passX : Passes (L2.CX P w) (cxOf (L2.CX P w) P w K mg base ["one", "two"] "lies_in" (defScope s_lies_in) f cdv Ar outer s H E) E := passes_call (takes_of rfl rfl rfl rfl) (fun _ _ _ _ h => h)
  have hK : A.W.K = K := by rw [hA]; exact hW
  have zl : sizeLine = 16777216 := rfl
  refine ⟨_, (vss_cons (vs_expr (v_fnDf PD_check_lot hA (hr.mono (by decide)) (by rfl) passX (fun _ _ _ _ h => h) (va_cons (v_nm 0) va_nil)))
      (vss_cons (vs_expr (v_fnDf PD_check_lot hA (hr.mono (by decide)) (by rfl) passX (fun _ _ _ _ h => h) (va_cons (v_nm 1) va_nil)))
      (vss_one (vs_ret (v_fn P_is_within hA (hr.mono (by decide)) (by rfl) passX (fun _ _ _ _ h => h) (va_cons (v_nm 0) (va_cons (v_nm 1) va_nil))))))), fun ds Q R hl h => ?_⟩
  obtain ⟨d, e, rfl, hd, he, hq, hx⟩ := h
  show (_ : VTS) _ [.sh d, .sh e]
  simp [fChk]
  refine ⟨hd, fun h1 => ⟨he, fun h2 => ?_, fun h2 => hx (.inr h2)⟩, fun h1 => hx (.inl h1)⟩
  obtain ⟨x, rfl, lx⟩ := lotD_str h1
  obtain ⟨y, rfl, ly⟩ := lotD_str h2
  exact ⟨x, y, rfl, L6_len lx, L6_len ly, hq x y rfl rfl lx ly⟩
end
def fGreat : Fd := fun ds Q _ => ∃ xs : List Str, ds = [.lst (txs xs)] ∧ xs.length ≤ 4000 ∧ (∀ x ∈ xs, L6 x = true) ∧ Q (.lst (txs (topsZ xs)))
/-- items that pass a test -/
theorem lc_txs {γ : D → List Sl → (List Sl → Prop) → Prop} {tt : TV Bool} {te : TV D} {env0 : List Sl} {Q : D → Prop} (p : Str → Bool) (f : Str → D) : ∀ (cs : List Str) (acc : List D), acc.length + cs.length ≤ 100000 →
    (∀ c ∈ cs, ∀ (M : D → Prop) (B : Prop), (p c = true → M (f c)) → (p c = false → B) → γ (.str c) env0 fun env1 => tt env1 (fun b => if b = true then te env1 M (fun _ => False) else B) fun _ => False) →
    Q (.lst (acc ++ (cs.filter p).map f)) → lcV γ tt te env0 (txs cs) acc Q
  | [], acc, _, _, q => by simpa [lcV, txs] using q
  | c :: cs, acc, hl, h, q => by
    show lcV γ tt te env0 (.str c :: txs cs) acc Q
    unfold lcV
    rw [List.length_cons] at hl
    refine h c List.mem_cons_self _ _ (fun hp => ⟨by have zl : sizeLine = 16777216 := rfl; omega, ?_⟩) (fun hp => ?_)
    · refine lc_txs p f cs _ (by rw [List.length_append, List.length_singleton]; omega) (fun e he => h e (List.mem_cons_of_mem _ he)) ?_
      rw [List.filter_cons, if_pos hp, List.map_cons] at q
      rw [List.append_assoc]
      exact q
    · refine lc_txs p f cs acc (by omega) (fun e he => h e (List.mem_cons_of_mem _ he)) ?_
      rw [List.filter_cons, if_neg (by rw [hp]; decide)] at q
      exact q
theorem filter_true {α : Type} (l : List α) : l.filter (fun _ => true) = l := List.filter_eq_self.mpr fun _ _ => rfl
abbrev s_greatest : Stmt := top 30
theorem sc_greatest : FnScope ["lots", "once", "lot", "other"] ["lots"] (defScope s_greatest) := ⟨rfl, rfl, rfl, by decide +kernel, rfl, by decide +kernel, by decide +kernel⟩
section
variable {P : Program} {w : World} {K : PySem.W.Frag} {mg : Str → Option Value} {base : Heap} {W : Wd}
theorem v_greatest {f : Addr} {fd : FuncData} (F : Fun K "greatest" "greatest" s_greatest f fd) (T : Txt K mg) (hW : W.K = K)
    (P_in_order : FnV P w K mg base 4 "in_order" ["lots"] W fOrd6)
    (P_is_within : FnV P w K mg base 1 "is_within" ["one", "two"] W fWithin) :
    FnOk P w K mg base (L2.CX P w) 5 f fd ["lots"] (spF W 1 fGreat) := by
  have sc := sc_greatest
  let st := s_greatest
  let N : List Str := ["lots", "once", "lot", "other"]
  refine Fun.okF F sc (by decide) fun cdv Ar outer s H E A hA hz hr => ?_
  have passX : Passes (L2.CX P w) (cxOf (L2.CX P w) P w K mg base ["lots", "once", "lot", "other"] "greatest" (defScope s_greatest) f cdv Ar outer s H E) E := passes_call (takes_of rfl rfl rfl rfl) (fun _ _ _ _ h => h)
  have hK : A.W.K = K := by rw [hA]; exact hW
  have zl : sizeLine = 16777216 := rfl
  refine ⟨_, (vss_cons (vs_set (i := 1) sc.nd rfl (Or.inr rfl) (v_fn P_in_order hA (hr.mono (by decide)) (by rfl) passX (fun _ _ _ _ h => h) (va_cons (v_nm 0) va_nil)))
      (vss_one (vs_retF (vf_lc' (own := [("lot", 2)]) rfl sc.nd (vi hK (v_nm 1)) (blkOk_by (N := N) (sc := (defScope st)) (by decide +kernel)) (by decide) (gq_name 2) (fun _ _ _ _ _ => (pg_name (i := 2) sc.nd rfl (Or.inr rfl))) (fun _ _ _ _ _ => (vts_one (vt_not (vt hK (v_callB (w_any hK rfl) (by rfl) T.any boot_any (vb_cons (vf_lc' (own := [("other", 3)]) rfl sc.nd (vi hK (v_nm 1)) (blkOk_by (N := N) (sc := (relS _ (defScope st))) (by decide +kernel)) (by decide) (gq_name 3) (fun _ _ _ _ _ => (pg_name (i := 3) sc.nd rfl (Or.inl rfl))) (fun _ _ _ _ _ => vts_nil) (fun _ _ _ _ _ => (v_And hK (v_cmp w_gt (v_callB (w_len hK) (by rfl) T.len boot_len (vb_cons (v_nr 3) vb_nil)).vr (v_callB (w_len hK) (by rfl) T.len boot_len (vb_cons (v_nr 2) vb_nil)).vr (nomark _)) (v_One (v_fn P_is_within hA (hr.mono (by decide)) (by rfl) passNo (fun _ _ _ _ h => h) (va_cons (v_nm 2) (va_cons (v_nm 3) va_nil))))))).ve.vr vb_nil)).vr)))) (fun _ _ _ _ _ => (v_nm 2)))))), fun ds Q R hl h => ?_⟩
  obtain ⟨xs, rfl, h1, h2, k⟩ := h
  have o1 := ordZ_len xs
  have o2 : ∀ x ∈ ordZ xs, L6 x = true := fun x hx => h2 x ((mem_ordZ h2).mp hx)
  show (_ : VTS) _ [.sh (.lst (txs xs)), .no, .no, .no]
  simp [fOrd6]
  refine ⟨xs, rfl, h1, h2, ?_⟩
  refine lc_txs (fun x => !(ordZ xs).any fun y => decide (x.length < y.length) && subZ x y) .str _ [] (by simp; omega) (fun c hc M B h1 h2 => ?_) ?_
  · have lc := L6_len (o2 c hc)
    simp
    refine lc_txs (fun _ => true) (fun y => .bl (decide (c.length < y.length) && subZ c y)) _ [] (by simp; omega) (fun y hy M' B' k1 k2 => ?_) ?_
    · have ly := L6_len (o2 y hy)
      simp [fWithin]
      refine ⟨by omega, by omega, ?_⟩
      have k1 := k1 rfl
      split
      · rename_i hlt
        rw [decide_eq_true hlt, Bool.true_and] at k1
        exact ⟨c, y, ⟨rfl, rfl⟩, lc, ly, k1⟩
      · rename_i hlt
        rw [decide_eq_false hlt, Bool.false_and] at k1
        rw [decide_eq_false hlt]
        exact k1
    · rw [filter_true, List.nil_append]
      refine ⟨(ordZ xs).map fun y => decide (c.length < y.length) && subZ c y, blL_map _ _, ?_⟩
      have e : (true ∈ (ordZ xs).map fun y => decide (c.length < y.length) && subZ c y) ↔ ((ordZ xs).any fun y => decide (c.length < y.length) && subZ c y) = true := by
        rw [List.mem_map, List.any_eq_true]
      split
      · rename_i ht
        refine h2 ?_
        rw [e.mp ht]
        rfl
      · rename_i ht
        refine h1 ?_
        rw [Bool.not_eq_true', Bool.eq_false_iff]
        exact fun z => ht (e.mpr z)
  · show Q (.lst ([] ++ txs _))
    rw [tops_prog h2]
    exact k
end
def fTops : Fd := fun ds Q R => ∃ t, ds = [t] ∧ AskQ t ∧ (∀ l, okQ t l → l.length ≤ 2000 ∧ Q (.lst (txs (topsZ l)))) ∧ (badQ t → R (ex0 "BadLot"))
abbrev s_tops : Stmt := top 31
theorem sc_tops : FnScope ["lots"] ["lots"] (defScope s_tops) := ⟨rfl, rfl, rfl, by decide +kernel, rfl, by decide +kernel, by decide +kernel⟩
section
variable {P : Program} {w : World} {K : PySem.W.Frag} {mg : Str → Option Value} {base : Heap} {W : Wd}
theorem v_tops {f : Addr} {fd : FuncData} (F : Fun K "tops" "tops" s_tops f fd) (T : Txt K mg) (hW : W.K = K)
    (P_greatest : FnF P w K mg base 5 "greatest" ["lots"] W fGreat)
    (P_check_lots : FnV P w K mg base 3 "check_lots" ["lots"] W fChks) :
    FnOk P w K mg base (L2.CX P w) 6 f fd ["lots"] (spF W 1 fTops) := by
  have sc := sc_tops
  let st := s_tops
  let N : List Str := ["lots"]
  refine Fun.okF F sc (by decide) fun cdv Ar outer s H E A hA hz hr => ?_
  have passX : Passes (L2.CX P w) (cxOf (L2.CX P w) P w K mg base ["lots"] "tops" (defScope s_tops) f cdv Ar outer s H E) E := passes_call (takes_of rfl rfl rfl rfl) (fun _ _ _ _ h => h)
  have hK : A.W.K = K := by rw [hA]; exact hW
  have zl : sizeLine = 16777216 := rfl
  refine ⟨_, (vss_one (vs_retF (vf_fn P_greatest hA (hr.mono (by decide)) (by rfl) passX (fun _ _ _ _ h => h) (va_cons (v_fn P_check_lots hA (hr.mono (by decide)) (by rfl) passX (fun _ _ _ _ h => h) (va_cons (v_nm 0) va_nil)) va_nil)))), fun ds Q R hl h => ?_⟩
  obtain ⟨t, rfl, ht, hq, hx⟩ := h
  show (_ : VTS) _ [.sh t]
  simp [fChks]
  refine ⟨ht, fun l hl => ?_, hx⟩
  obtain ⟨h1, h2⟩ := hq l hl
  exact ⟨l, rfl, by omega, hl.2, h2⟩
end
def fTwoQ (res : List Str → List Str → List Str) (b1 b2 : Nat) : Fd := fun ds Q R => ∃ t u, ds = [t, u] ∧ AskQ t ∧ AskQ u ∧ (∀ l m, okQ t l → okQ u m → l.length ≤ b1 ∧ m.length ≤ b2 ∧ Q (.lst (txs (res l m)))) ∧ (badQ t ∨ badQ u → R (ex0 "BadLot"))
def joinR (l m : List Str) : List Str := topsZ (l ++ m)
abbrev s_joined : Stmt := top 32
theorem sc_joined : FnScope ["ones", "twos"] ["ones", "twos"] (defScope s_joined) := ⟨rfl, rfl, rfl, by decide +kernel, rfl, by decide +kernel, by decide +kernel⟩
section
variable {P : Program} {w : World} {K : PySem.W.Frag} {mg : Str → Option Value} {base : Heap} {W : Wd}
theorem v_joined {f : Addr} {fd : FuncData} (F : Fun K "joined" "joined" s_joined f fd) (T : Txt K mg) (hW : W.K = K)
    (P_greatest : FnF P w K mg base 5 "greatest" ["lots"] W fGreat)
    (P_check_lots : FnV P w K mg base 3 "check_lots" ["lots"] W fChks) :
    FnOk P w K mg base (L2.CX P w) 6 f fd ["ones", "twos"] (spF W 2 (fTwoQ joinR 2000 2000)) := by
  have sc := sc_joined
  let st := s_joined
  let N : List Str := ["ones", "twos"]
  refine Fun.okF F sc (by decide) fun cdv Ar outer s H E A hA hz hr => ?_
  have passX : Passes (L2.CX P w) (cxOf (L2.CX P w) P w K mg base ["ones", "twos"] "joined" (defScope s_joined) f cdv Ar outer s H E) E := passes_call (takes_of rfl rfl rfl rfl) (fun _ _ _ _ h => h)
  have hK : A.W.K = K := by rw [hA]; exact hW
  have zl : sizeLine = 16777216 := rfl
  refine ⟨_, (vss_one (vs_retF (vf_fn P_greatest hA (hr.mono (by decide)) (by rfl) passX (fun _ _ _ _ h => h) (va_cons (v_op (w_add hK) (v_fn P_check_lots hA (hr.mono (by decide)) (by rfl) passX (fun _ _ _ _ h => h) (va_cons (v_nm 0) va_nil)).vr (v_fn P_check_lots hA (hr.mono (by decide)) (by rfl) passX (fun _ _ _ _ h => h) (va_cons (v_nm 1) va_nil)).vr) va_nil)))), fun ds Q R hl h => ?_⟩
  obtain ⟨t, u, rfl, ht, hu, hq, hx⟩ := h
  show (_ : VTS) _ [.sh t, .sh u]
  simp [fChks]
  refine ⟨ht, fun l hl => ⟨hu, fun m hm => ?_, fun hb => hx (.inr hb)⟩, fun hb => hx (.inl hb)⟩
  obtain ⟨h1, h2, h3⟩ := hq l m hl hm
  exact ⟨by omega, l ++ m, by rw [txs_app], by rw [List.length_append]; omega, fun x hx => (List.mem_append.mp hx).elim (hl.2 x) (hm.2 x), h3⟩
end
def fCov : Fd := fun ds Q R => ∃ d t, ds = [d, t] ∧ Askd d ∧ AskQ t ∧ (∀ x l, d = .str x → L6 x = true → okQ t l → Q (.bl (l.any fun y => subZ x y))) ∧ (lotD d = false ∨ badQ t → R (ex0 "BadLot"))
abbrev s_is_covered : Stmt := top 34
theorem sc_is_covered : FnScope ["lot", "lots", "other"] ["lot", "lots"] (defScope s_is_covered) := ⟨rfl, rfl, rfl, by decide +kernel, rfl, by decide +kernel, by decide +kernel⟩
section
variable {P : Program} {w : World} {K : PySem.W.Frag} {mg : Str → Option Value} {base : Heap} {W : Wd}
theorem v_is_covered {f : Addr} {fd : FuncData} (F : Fun K "is_covered" "is_covered" s_is_covered f fd) (T : Txt K mg) (hW : W.K = K)
    (PD_check_lot : FnVD P w K mg base 2 "check_lot" ["lot", "size"] W fChk 1 [.int 6] [.int 6])
    (P_is_within : FnV P w K mg base 1 "is_within" ["one", "two"] W fWithin)
    (P_check_lots : FnV P w K mg base 3 "check_lots" ["lots"] W fChks) :
    FnOk P w K mg base (L2.CX P w) 4 f fd ["lot", "lots"] (spV W 2 fCov) := by
  have sc := sc_is_covered
  let st := s_is_covered
  let N : List Str := ["lot", "lots", "other"]
  refine Fun.okV F sc (by decide) fun cdv Ar outer s H E A hA hz hr => ?_
  have passX : Passes (L2.CX P w) (cxOf (L2.CX P w) P w K mg base ["lot", "lots", "other"] "is_covered" (defScope s_is_covered) f cdv Ar outer s H E) E := passes_call (takes_of rfl rfl rfl rfl) (fun _ _ _ _ h => h)
  have hK : A.W.K = K := by rw [hA]; exact hW
  have zl : sizeLine = 16777216 := rfl
  refine ⟨_, (vss_cons (vs_expr (v_fnDf PD_check_lot hA (hr.mono (by decide)) (by rfl) passX (fun _ _ _ _ h => h) (va_cons (v_nm 0) va_nil)))
      (vss_one (vs_ret (v_callB (w_any hK rfl) (by rfl) T.any boot_any (vb_cons (vf_lc' (own := [("other", 2)]) rfl sc.nd (vi hK (v_fn P_check_lots hA (hr.mono (by decide)) (by rfl) passX (fun _ _ _ _ h => h) (va_cons (v_nm 1) va_nil))) (blkOk_by (N := N) (sc := (defScope st)) (by decide +kernel)) (by decide) (gq_name 2) (fun _ _ _ _ _ => (pg_name (i := 2) sc.nd rfl (Or.inl rfl))) (fun _ _ _ _ _ => vts_nil) (fun _ _ _ _ _ => (v_fn P_is_within hA (hr.mono (by decide)) (by rfl) passNo (fun _ _ _ _ h => h) (va_cons (v_nm 0) (va_cons (v_nm 2) va_nil))))).ve.vr vb_nil))))), fun ds Q R hl h => ?_⟩
  obtain ⟨d, t, rfl, hd, ht, hq, hx⟩ := h
  show (_ : VTS) _ [.sh d, .sh t, .no]
  simp [fChk]
  refine ⟨hd, fun h1 => ?_, fun h1 => hx (.inl h1)⟩
  obtain ⟨x, rfl, lx⟩ := lotD_str h1
  simp [fChks]
  refine ⟨ht, fun l hl => ?_, fun hb => hx (.inr hb)⟩
  have len : l.length ≤ 100000 := by
    have := ht.len _ hl.sq
    rwa [txs_len] at this
  refine lc_txs (fun _ => true) (fun y => .bl (subZ x y)) _ [] (by simpa using len) (fun y hy M B k1 k2 => ?_) ?_
  · simp [fWithin]
    exact ⟨x, y, ⟨rfl, rfl⟩, L6_len lx, L6_len (hl.2 y hy), k1 rfl⟩
  · rw [filter_true, List.nil_append]
    refine ⟨l.map fun y => subZ x y, blL_map _ _, ?_⟩
    have e : ((l.map fun y => subZ x y).any fun b => b) = l.any fun y => subZ x y := by
      rw [List.any_map]
      rfl
    rw [e]
    exact hq x l rfl lx hl
end
theorem nodup_len' {α : Type} [DecidableEq α] : ∀ (l m : List α), l.Nodup → (∀ x ∈ l, x ∈ m) → l.length ≤ m.length
  | [], _, _, _ => Nat.zero_le _
  | x :: l, m, nd, h => by
    obtain ⟨n1, n2⟩ := List.nodup_cons.mp nd
    have hx := h x List.mem_cons_self
    have := nodup_len' l (m.erase x) n2 fun y hy => (List.mem_erase_of_ne (by rintro rfl; exact n1 hy)).mpr (h y (List.mem_cons_of_mem _ hy))
    rw [List.length_erase_of_mem hx] at this
    have pos := List.length_pos_of_mem hx
    rw [List.length_cons]
    omega
theorem ordZ_le {l : List Str} (hl : ∀ x ∈ l, L6 x = true) : (ordZ l).length ≤ l.length := by
  refine nodup_len' (ordZ l) l (ordZ_nodup l) fun x hx => (mem_ordZ hl).mp hx
theorem lcIn_map {γ : D → List Sl → (List Sl → Prop) → Prop} {te : TV D} {env0 : List Sl} (f : Str → D) : ∀ (ms : List Str) (acc : List D) (K : List D → Prop), acc.length + ms.length ≤ 100000 →
    (∀ y ∈ ms, ∀ (M : D → Prop), M (f y) → γ (.str y) env0 fun env1 => te env1 M fun _ => False) → K (acc ++ ms.map f) → lcIn γ vYes te env0 (txs ms) acc K
  | [], acc, K, _, _, q => by simpa [lcIn, txs] using q
  | y :: ms, acc, K, hl, h, q => by
    show lcIn γ vYes te env0 (.str y :: txs ms) acc K
    unfold lcIn
    rw [List.length_cons] at hl
    have := h y List.mem_cons_self (fun d => acc.length < sizeLine ∧ lcIn γ vYes te env0 (txs ms) (acc ++ [d]) K) ⟨by have zl : sizeLine = 16777216 := rfl; omega, lcIn_map f ms _ K (by rw [List.length_append, List.length_singleton]; omega) (fun z hz => h z (List.mem_cons_of_mem _ hz)) (by rw [List.append_assoc]; exact q)⟩
    simpa using this
theorem lc2_all {γ γ1 : D → List Sl → (List Sl → Prop) → Prop} {τi1 : TV (List D)} {te : TV D} {vs1 : List Nat} {env0 : List Sl} {Q : D → Prop} (f : Str → Str → D) (ms : List Str) : ∀ (cs : List Str) (acc : List D), acc.length + cs.length * ms.length ≤ 100000 →
    (∀ c ∈ cs, ∀ (acc : List D) (K : List D → Prop), acc.length + ms.length ≤ 100000 → K (acc ++ ms.map (f c)) → γ (.str c) env0 fun env1 => τi1 env1 (fun es => noOwn env1 = true ∧ lcIn γ1 vYes te (wipeS env1 vs1) es acc K) fun _ => False) →
    Q (.lst (acc ++ cs.flatMap fun c => ms.map (f c))) → lcV2 γ vYes τi1 γ1 vYes te vs1 env0 (txs cs) acc Q
  | [], acc, _, _, q => by simpa [lcV2, txs] using q
  | c :: cs, acc, hl, h, q => by
    show lcV2 γ vYes τi1 γ1 vYes te vs1 env0 (.str c :: txs cs) acc Q
    unfold lcV2
    rw [List.length_cons, Nat.add_mul, Nat.one_mul] at hl
    have := h c List.mem_cons_self acc (fun acc' => lcV2 γ vYes τi1 γ1 vYes te vs1 env0 (txs cs) acc' Q) (by omega) (lc2_all f ms cs _ (by rw [List.length_append, List.length_map]; omega) (fun e he => h e (List.mem_cons_of_mem _ he)) (by rw [List.append_assoc]; rw [List.flatMap_cons] at q; exact q))
    simpa using this
def metR (l m : List Str) : List Str := topsZ ((ordZ l).flatMap fun x => (ordZ m).map fun y => interZ x y)
def fMet : Fd := fun ds Q R => ∃ t u, ds = [t, u] ∧ AskQ t ∧ AskQ u ∧ (∀ l, okQ t l → l.length ≤ 4000) ∧ (∀ m, okQ u m → m.length ≤ 4000) ∧ (∀ l m, okQ t l → okQ u m → (ordZ l).length * (ordZ m).length ≤ 4000 ∧ Q (.lst (txs (metR l m)))) ∧ (badQ t ∨ badQ u → R (ex0 "BadLot"))
theorem flat_txs (l m : List Str) : ((ordZ l).flatMap fun x => (ordZ m).map fun y => D.str (interZ x y)) = txs ((ordZ l).flatMap fun x => (ordZ m).map fun y => interZ x y) := by
  unfold txs
  rw [List.map_flatMap]
  congr 1
  funext x
  rw [List.map_map]
  rfl
abbrev s_met : Stmt := top 33
theorem sc_met : FnScope ["ones", "twos", "firsts", "seconds", "one", "two"] ["ones", "twos"] (defScope s_met) := ⟨rfl, rfl, rfl, by decide +kernel, rfl, by decide +kernel, by decide +kernel⟩
section
variable {P : Program} {w : World} {K : PySem.W.Frag} {mg : Str → Option Value} {base : Heap} {W : Wd}
theorem v_met {f : Addr} {fd : FuncData} (F : Fun K "met" "met" s_met f fd) (T : Txt K mg) (hW : W.K = K)
    (P_in_order : FnV P w K mg base 4 "in_order" ["lots"] W fOrd6)
    (P_greatest : FnF P w K mg base 5 "greatest" ["lots"] W fGreat)
    (P_check_lots : FnV P w K mg base 3 "check_lots" ["lots"] W fChks)
    (P_shared : FnV P w K mg base 1 "shared" ["one", "two"] W fShared) :
    FnOk P w K mg base (L2.CX P w) 6 f fd ["ones", "twos"] (spF W 2 fMet) := by
  have sc := sc_met
  let st := s_met
  let N : List Str := ["ones", "twos", "firsts", "seconds", "one", "two"]
  refine Fun.okF F sc (by decide) fun cdv Ar outer s H E A hA hz hr => ?_
  have passX : Passes (L2.CX P w) (cxOf (L2.CX P w) P w K mg base ["ones", "twos", "firsts", "seconds", "one", "two"] "met" (defScope s_met) f cdv Ar outer s H E) E := passes_call (takes_of rfl rfl rfl rfl) (fun _ _ _ _ h => h)
  have hK : A.W.K = K := by rw [hA]; exact hW
  have zl : sizeLine = 16777216 := rfl
  refine ⟨_, (vss_cons (vs_set (i := 2) sc.nd rfl (Or.inl rfl) (v_fn P_in_order hA (hr.mono (by decide)) (by rfl) passX (fun _ _ _ _ h => h) (va_cons (v_fn P_check_lots hA (hr.mono (by decide)) (by rfl) passX (fun _ _ _ _ h => h) (va_cons (v_nm 0) va_nil)) va_nil)))
      (vss_cons (vs_set (i := 3) sc.nd rfl (Or.inr rfl) (v_fn P_in_order hA (hr.mono (by decide)) (by rfl) passX (fun _ _ _ _ h => h) (va_cons (v_fn P_check_lots hA (hr.mono (by decide)) (by rfl) passX (fun _ _ _ _ h => h) (va_cons (v_nm 1) va_nil)) va_nil)))
      (vss_one (vs_retF (vf_fn P_greatest hA (hr.mono (by decide)) (by rfl) passX (fun _ _ _ _ h => h) (va_cons (vf_lc2 (own := [("one", 4), ("two", 5)]) (vs1 := [5]) rfl sc.nd (vi hK (v_nm 2)) (blkOk_by (N := N) (sc := (defScope st)) (by decide +kernel)) (by decide) (gq_name 4) (by decide) (gq_name 5) (by decide) (fun _ _ _ _ _ => (pg_name (i := 4) sc.nd rfl (Or.inl rfl))) (fun _ _ _ _ _ => vts_nil) (fun _ _ _ _ _ => (vi hK (v_nm 3))) (fun _ _ _ _ _ => (pg_name (i := 5) sc.nd rfl (Or.inl rfl))) (fun _ _ _ _ _ => vts_nil) (fun _ _ _ _ _ => (v_fn P_shared hA (hr.mono (by decide)) (by rfl) passNo (fun _ _ _ _ h => h) (va_cons (v_nm 4) (va_cons (v_nm 5) va_nil))))).ve va_nil)))))), fun ds Q R hl h => ?_⟩
  obtain ⟨t, u, rfl, ht, hu, b1, b2, hq, hx⟩ := h
  show (_ : VTS) _ [.sh t, .sh u, .no, .no, .no, .no]
  simp [fChks]
  refine ⟨ht, fun l hl => ⟨l, rfl, b1 l hl, hl.2, hu, fun m hm => ⟨m, rfl, b2 m hm, hm.2, ?_⟩, fun hb => hx (.inr hb)⟩, fun hb => hx (.inl hb)⟩
  obtain ⟨h1, h2⟩ := hq l m hl hm
  have o1 : ∀ x ∈ ordZ l, L6 x = true := fun x hx => R6_all x (List.mem_filter.mp hx).1
  have o2 : ∀ x ∈ ordZ m, L6 x = true := fun x hx => R6_all x (List.mem_filter.mp hx).1
  have p1 := ordZ_len l
  have p2 := ordZ_len m
  refine lc2_all (fun x y => .str (interZ x y)) (ordZ m) (ordZ l) [] (by rw [List.length_nil]; omega) (fun c hc acc K hl2 hk => ?_) ?_
  · simp
    refine lcIn_map (fun y => .str (interZ c y)) (ordZ m) acc K hl2 (fun y hy M hM => ?_) hk
    simp
    exact ⟨c, y, rfl, o1 c hc, o2 y hy, hM⟩
  · rw [List.nil_append, flat_txs]
    refine ⟨_, rfl, ?_, fun x hx => ?_, h2⟩
    · rw [List.length_flatMap]
      simp only [List.length_map]
      rw [List.map_const', List.sum_replicate_nat]
      exact h1
    · obtain ⟨a, _, hx⟩ := List.mem_flatMap.mp hx
      obtain ⟨b, _, rfl⟩ := List.mem_map.mp hx
      exact L6_flt _
end
end K0
namespace K0
open PySem PySem.Spec PyProof.Rows L2 Bs LamX
/-- a comprehension over told things -/
theorem lc_gen {α : Type} {γ : D → List Sl → (List Sl → Prop) → Prop} {tt : TV Bool} {te : TV D} {env0 : List Sl} {Q : D → Prop} (emb : α → D) (p : α → Bool) (f : α → D) : ∀ (cs : List α) (acc : List D), acc.length + cs.length ≤ sizeLine →
    (∀ c ∈ cs, ∀ (M : D → Prop) (B : Prop), (p c = true → M (f c)) → (p c = false → B) → γ (emb c) env0 fun env1 => tt env1 (fun b => if b = true then te env1 M (fun _ => False) else B) fun _ => False) →
    Q (.lst (acc ++ (cs.filter p).map f)) → lcV γ tt te env0 (cs.map emb) acc Q
  | [], acc, _, _, q => by
    unfold List.map lcV
    rwa [List.filter_nil, List.map_nil, List.append_nil] at q
  | c :: cs, acc, hl, h, q => by
    rw [List.map_cons]
    unfold lcV
    rw [List.length_cons] at hl
    refine h c List.mem_cons_self _ _ (fun hp => ⟨by omega, ?_⟩) (fun hp => ?_)
    · refine lc_gen emb p f cs _ (by rw [List.length_append, List.length_singleton]; omega) (fun e he => h e (List.mem_cons_of_mem _ he)) ?_
      rw [List.filter_cons, if_pos hp, List.map_cons] at q
      rw [List.append_assoc]
      exact q
    · refine lc_gen emb p f cs acc (by omega) (fun e he => h e (List.mem_cons_of_mem _ he)) ?_
      rw [List.filter_cons, if_neg (by rw [hp]; decide)] at q
      exact q
theorem pick_at (row : List Str) : ∀ l : List Nat, (∀ i ∈ l, i < row.length) → l.map (fun i => D.str (row[i]?.getD (Str.ofString ""))) = txs (l.filterMap fun i => row[i]?)
  | [], _ => rfl
  | i :: l, h => by
    have hi := h i List.mem_cons_self
    rw [List.map_cons, List.filterMap_cons, List.getElem?_eq_getElem hi, pick_at row l fun j hj => h j (List.mem_cons_of_mem _ hj)]
    rfl
theorem atI_tx {row : List Str} {i : Nat} (h : i < row.length) : atI (txs row) (i : Int) = some (.str (row[i]?.getD (Str.ofString ""))) := by
  refine L2.atI_nat ?_
  unfold txs
  rw [List.getElem?_map, List.getElem?_eq_getElem h]
  rfl
def seqR (res : List Str → List Str) : Gd := fun ds Q => ∃ xs : List Str, (ds = [.lst (txs xs)] ∨ ds = [.tup (txs xs)]) ∧ xs.length ≤ 4000 ∧ (∀ x ∈ xs, L6 x = true) ∧ Q (.lst (txs (res xs)))
def gLies : Gd := fun ds Q => ∃ x y : Str, ds = [.str x, .str y] ∧ x.length ≤ 6 ∧ y.length ≤ 6 ∧ Q (.bl (subZ x y))
def gEvery : Gd := fun ds Q => ds = [.int 6] ∧ ∀ l : List Str, (∀ z ∈ l, L6 z = true) → l.length = 64 → Q (.lst (txs l))
theorem lies_dec {x y : Str} : decide (([] : List D) ++ txs ((x.cps.toList.filter fun c => !decide (c ∈ y.cps.toList)).map one) = []) = subZ x y := by
  rw [Bool.eq_iff_iff, decide_eq_true_iff, List.nil_append]
  unfold txs subZ
  rw [List.map_eq_nil_iff, List.map_eq_nil_iff, List.filter_eq_nil_iff, List.all_eq_true]
  refine forall_congr' fun c => forall_congr' fun _ => ?_
  cases decide (c ∈ y.cps.toList) <;> decide
abbrev s_lies : Stmt := top 50
theorem sc_lies : FnScope ["one", "two", "letter"] ["one", "two"] (defScope s_lies) := ⟨rfl, rfl, rfl, by decide +kernel, rfl, by decide +kernel, by decide +kernel⟩
section
variable {P : Program} {w : World} {K : PySem.W.Frag} {mg : Str → Option Value} {base : Heap} {W : Wd}
theorem v_lies {f : Addr} {fd : FuncData} (F : Fun K "_law_lies" "_law_lies" s_lies f fd) (T : Txt K mg) (hW : W.K = K) :
    FnOk P w K mg base CX0 1 f fd ["one", "two"] (spV W 2 fun ds Q _ => gLies ds Q) := by
  have sc := sc_lies
  let st := s_lies
  let N : List Str := ["one", "two", "letter"]
  refine Fun.okN F sc (by decide) fun cdv Ar outer s H E A hA hr => ?_
  have hK : A.W.K = K := by rw [hA]; exact hW
  have zl : sizeLine = 16777216 := rfl
  refine ⟨_, (vss_one (vs_ret (v_cmp (w_eq hK hr) (v_callB (w_len hK) (by rfl) T.len boot_len (vb_cons (vf_lc' (own := [("letter", 2)]) rfl sc.nd (vi hK (v_nm 0)) (blkOk_by (N := N) (sc := (defScope st)) (by decide +kernel)) (by decide) (gq_name 2) (fun _ _ _ _ _ => (pg_name (i := 2) sc.nd rfl (Or.inl rfl))) (fun _ _ _ _ _ => (vts_one (vt_cmp (w_notIn hK) (v_nr 2) (v_nr 1) (by rfl)))) (fun _ _ _ _ _ => (v_nm 2))).ve.vr vb_nil)).vr v_int.vr (nomark _)))), fun ds Q hl h => ?_⟩
  obtain ⟨x, y, rfl, lx, ly, k⟩ := h
  show (_ : VTS) _ [.sh (.str x), .sh (.str y), .no]
  simp
  refine lc_flt (fun c => !decide (c ∈ y.cps.toList)) _ [] (by rw [len_cps] at lx; rw [List.length_nil]; omega) (fun c hc M B h1 h2 => ?_) ?_
  · simp
    rw [inS_one]
    exact ite2 (fun h => h2 (by simpa using h)) fun h => h1 (by simpa using h)
  · show Q (.bl (decide (_ = [])))
    rw [lies_dec]
    exact k
end
abbrev s_ordered : Stmt := top 51
theorem sc_ordered : FnScope ["lots", "row", "k"] ["lots"] (defScope s_ordered) := ⟨rfl, rfl, rfl, by decide +kernel, rfl, by decide +kernel, by decide +kernel⟩
section
variable {P : Program} {w : World} {K : PySem.W.Frag} {mg : Str → Option Value} {base : Heap} {W : Wd}
theorem v_ordered {f c0 : Addr} {fd : FuncData} {TL : List (Addr × Str)} {Pt : Addr} (F : FunC K "_law_ordered" "_law_ordered" s_ordered f fd c0) (T : Txt K mg) (hW : W.K = K) (hWP : W.P = P) (hWw : W.w = w) (Mk : Mkr base mg TL "_law_ordered" c0 Pt) :
    FnOk P w K mg base CX0 4 f fd ["lots"] (spM W TL 1 (seqR ordZ)) := by
  have sc := sc_ordered
  let st := s_ordered
  let N : List Str := ["lots", "row", "k"]
  refine FunC.okM F sc (by decide) fun Ar outer s H E A hA M hr => ?_
  have hK : A.W.K = K := by rw [hA]; exact hW
  have hP : A.W.P = P := by rw [hA]; exact hWP
  have hw : A.W.w = w := by rw [hA]; exact hWw
  have zl : sizeLine = 16777216 := rfl
  refine ⟨_, (vss_cons (vs_set (i := 1) sc.nd rfl (Or.inr rfl) (VF.ve (vf_sortKey (par := "lot") hK M (by rfl) T.sorted Mk.tb rfl Mk.mem Mk.un (hr.mono (by decide)) (lamP_by (by rfl)) (v_nr 0) (fun _ _ _ _ _ _ _ => pe_tup (pa_cons (pe_callB (show CallR _ (.builtin "len") (uLen K) from b_len) (by rfl) T.len boot_len (pa_cons (nm 0) pa_nil)) (pa_cons (nm 0) pa_nil))) (fun z H Q hz k => ⟨hz, (show 2 ≤ 16777216 from by decide), k⟩))))
      (vss_one (vs_ret (vf_lc' (own := [("k", 2)]) rfl sc.nd (vi_rng1 (by rfl) T.range (v_callB (w_len hK) (by rfl) T.len boot_len (vb_cons (v_nr 1) vb_nil)).vr) (blkOk_by (N := N) (sc := (defScope st)) (by decide +kernel)) (by decide) (gq_name 2) (fun _ _ _ _ _ => (pg_name (i := 2) sc.nd rfl (Or.inl rfl))) (fun _ _ _ _ _ => (vts_one (VW.vt (vw_or (vt_cmp (w_eq hK hr) (v_nr 2) v_int.vr (nomark _)) (vw_or1 (vt_cmp (w_ne hK hr) (v_ix hK (v_nr 1) (v_nr 2) (fun _ _ => rfl)).vr (v_ix hK (v_nr 1) (v_op w_sub (v_nr 2) v_int.vr).vr (fun _ _ => rfl)).vr (nomark _))))))) (fun _ _ _ _ _ => (v_ix hK (v_nr 1) (v_nr 2) (fun _ _ => rfl)))).ve))), fun ds Q hl h => ?_⟩
  obtain ⟨xs, hd, hl', h6, k⟩ := h
  have main : ∀ zs : List Str, zs.Perm xs → zs.Pairwise (fun x y => ltZ y x = false) → ∀ s1 s2, lcV (gSet 2) (vOrT (vOpT dEq (vNr 2) (vC (D.int 0))) (vOpT dNe (vOp dIx (vNr 1) (vNr 2)) (vOp dIx (vNr 1) (vOp (dI0 fun i j => D.int (i - j)) (vNr 2) (vC (D.int 1)))))) (vOp dIx (vNr 1) (vNr 2)) [s1, .sh (.lst (txs zs)), s2] (rngD 0 zs.length) [] Q := by
    intro zs pm so s1 s2
    have zl' := pm.length_eq
    refine lc_gen (fun (i : Nat) => D.int (0 + (i : Int))) (fun k => decide (k = 0) || decide (zs[k]? ≠ zs[k - 1]?)) (fun i => D.str (zs[i]?.getD (Str.ofString ""))) (List.range zs.length) [] (by rw [List.length_nil, List.length_range]; omega) (fun i hi M B h1 h2 => ?_) ?_
    · have hi := List.mem_range.mp hi
      have e0 : (0 : Int) + (i : Int) = (i : Int) := by omega
      have a1 := atI_tx hi
      rw [e0]
      by_cases hz : i = 0
      · subst hz
        have h1 := h1 (by rfl)
        simp
        exact ⟨_, a1, h1⟩
      · have a2 := atI_tx (show i - 1 < zs.length by omega)
        rw [show ((i - 1 : Nat) : Int) = (i : Int) - 1 by omega] at a2
        simp [a1, a2]
        rw [if_neg hz]
        have g1 := List.getElem?_eq_getElem hi
        have g2 := List.getElem?_eq_getElem (show i - 1 < zs.length by omega)
        rw [g1, g2] at h1 h2 ⊢
        refine ite2 (fun e => h2 ?_) fun e => h1 ?_
        · have e : zs[i] = zs[i - 1] := e
          rw [e, decide_eq_false hz]
          simp
        · have e : ¬ zs[i] = zs[i - 1] := e
          rw [decide_eq_false hz, Bool.false_or, decide_eq_true_iff]
          exact fun z => e (Option.some.inj z)
    · rw [pick_at, ord_law h6 pm so]
      · exact k
      · exact fun i hi => List.mem_range.mp (List.mem_filter.mp hi).1
  rcases hd with rfl | rfl
  · show (_ : VTS) _ [.sh (.lst (txs xs)), .no, .no]
    simp
    refine ⟨xs, rfl, by omega, fun x hx => by have := L6_len (h6 x hx); omega, fun zs pm so => ⟨by have := pm.length_eq; omega, main zs pm so _ _⟩⟩
  · show (_ : VTS) _ [.sh (.tup (txs xs)), .no, .no]
    simp
    refine ⟨xs, rfl, by omega, fun x hx => by have := L6_len (h6 x hx); omega, fun zs pm so => ⟨by have := pm.length_eq; omega, main zs pm so _ _⟩⟩
end
abbrev s_Ltops : Stmt := top 52
theorem sc_Ltops : FnScope ["lots", "row", "lot", "more"] ["lots"] (defScope s_Ltops) := ⟨rfl, rfl, rfl, by decide +kernel, rfl, by decide +kernel, by decide +kernel⟩
section
variable {P : Program} {w : World} {K : PySem.W.Frag} {mg : Str → Option Value} {base : Heap} {W : Wd}
theorem v_Ltops {f c0 : Addr} {fd : FuncData} {TL : List (Addr × Str)} (F : FunC K "_law_tops" "_law_tops" s_Ltops f fd c0) (T : Txt K mg) (hW : W.K = K)
    (G_ordered : FnM P w K mg base 4 "_law_ordered" ["lots"] W TL (seqR ordZ))
    (G_lies : FnN P w K mg base 1 "_law_lies" ["one", "two"] W gLies) :
    FnOk P w K mg base CX0 5 f fd ["lots"] (spM W TL 1 (seqR topsZ)) := by
  have sc := sc_Ltops
  let st := s_Ltops
  let N : List Str := ["lots", "row", "lot", "more"]
  refine FunC.okM F sc (by decide) fun Ar outer s H E A hA M hr => ?_
  have hK : A.W.K = K := by rw [hA]; exact hW
  have zl : sizeLine = 16777216 := rfl
  refine ⟨_, (vss_cons (vs_set (i := 1) sc.nd rfl (Or.inr rfl) (v_fnM M G_ordered hA (hr.mono (by decide)) (by rfl) (va_cons (v_nm 0) va_nil)))
      (vss_one (vs_ret (vf_lc' (own := [("lot", 2)]) rfl sc.nd (vi hK (v_nm 1)) (blkOk_by (N := N) (sc := (defScope st)) (by decide +kernel)) (by decide) (gq_name 2) (fun _ _ _ _ _ => (pg_name (i := 2) sc.nd rfl (Or.inr rfl))) (fun _ _ _ _ _ => (vts_one (vt_cmp (w_eq hK hr) (v_callB (w_len hK) (by rfl) T.len boot_len (vb_cons (vf_lc' (own := [("more", 3)]) rfl sc.nd (vi hK (v_nm 1)) (blkOk_by (N := N) (sc := (relS _ (defScope st))) (by decide +kernel)) (by decide) (gq_name 3) (fun _ _ _ _ _ => (pg_name (i := 3) sc.nd rfl (Or.inl rfl))) (fun _ _ _ _ _ => (vts_one (VW.vt (vw_and (vt_cmp (w_ne hK hr) (v_nr 3) (v_nr 2) (nomark _)) (vw_and1 (vt hK (v_fnN G_lies hA (hr.mono (by decide)) (by rfl) (va_cons (v_nm 2) (va_cons (v_nm 3) va_nil))).vr)))))) (fun _ _ _ _ _ => (v_nm 3))).ve.vr vb_nil)).vr v_int.vr (nomark _)))) (fun _ _ _ _ _ => (v_nm 2))).ve))), fun ds Q hl h => ?_⟩
  obtain ⟨xs, hd, hl', h6, k⟩ := h
  have o1 := ordZ_len xs
  have o2 : ∀ x ∈ ordZ xs, L6 x = true := fun x hx => h6 x ((mem_ordZ h6).mp hx)
  have main : ∀ s1, lcV (gSet 2) (vOpT dEq (vCB gLen (vCons (vLc (vIter (vNm 1)) (gSet 3) (vAndT (vOpT dNe (vNr 3) (vNr 2)) (vT (vCallN gLies (vCons (vNm 2) (vCons (vNm 3) vNil))))) (vNm 3) [3]) vNil)) (vC (.int 0))) (vNm 2) [s1, .sh (.lst (txs (ordZ xs))), .no, .no] (txs (ordZ xs)) [] Q := by
    intro s1
    refine lc_txs (fun x => decide (((ordZ xs).filter fun y => decide (y ≠ x) && subZ x y).length = 0)) .str _ [] (by simp; omega) (fun c hc M B h1 h2 => ?_) ?_
    · have lc := L6_len (o2 c hc)
      simp
      refine lc_txs (fun y => decide (y ≠ c) && subZ c y) .str _ [] (by simp; omega) (fun y hy M' B' k1 k2 => ?_) ?_
      · have ly := L6_len (o2 y hy)
        simp [gLies]
        refine ite2 (fun e => k2 (by rw [e]; simp)) fun e => ⟨c, y, ⟨rfl, rfl⟩, lc, ly, ite2 (fun z => k1 ?_) fun z => k2 ?_⟩
        · rw [z, Bool.and_true, decide_eq_true_iff]
          exact e
        · rw [Bool.not_eq_true] at z
          rw [z, Bool.and_false]
      · show if ([] : List D) ++ _ = [] then _ else _
        rw [List.nil_append]
        refine ite2 (fun z => h1 ?_) fun z => h2 ?_
        · rw [List.map_eq_nil_iff] at z
          rw [z]
          rfl
        · rw [decide_eq_false_iff_not]
          intro q
          exact z (by rw [List.eq_nil_of_length_eq_zero q]; rfl)
    · show Q (.lst ([] ++ txs _))
      rw [tops_law h6]
      exact k
  rcases hd with rfl | rfl
  · show (_ : VTS) _ [.sh (.lst (txs xs)), .no, .no, .no]
    exact ⟨xs, .inl rfl, hl', h6, main _⟩
  · show (_ : VTS) _ [.sh (.tup (txs xs)), .no, .no, .no]
    exact ⟨xs, .inr rfl, hl', h6, main _⟩
end
def evr (l : List Nat) : List Str := l.foldl (fun r c => r ++ r.map (· ++ one c)) [Str.ofString ""]
theorem evr_snoc (l : List Nat) (c : Nat) : evr (l ++ [c]) = evr l ++ (evr l).map (· ++ one c) := by unfold evr; rw [List.foldl_append]; rfl
theorem evr_all : (∀ x ∈ evr abcL, L6 x = true) ∧ ordZ (evr abcL) = R6 := by decide +kernel
theorem evr_len : ∀ k ≤ 6, (evr (abcL.take k)).length ≤ 64 ∧ ∀ x ∈ evr (abcL.take k), x.length ≤ 6 := by
  have key : ∀ k ∈ List.range 7, (evr (abcL.take k)).length ≤ 64 ∧ ∀ x ∈ evr (abcL.take k), x.length ≤ 6 := by decide +kernel
  exact fun k h => key k (List.mem_range.mpr (by omega))
abbrev s_every_lot : Stmt := top 53
theorem sc_every_lot : FnScope ["size", "row", "letter", "lot"] ["size"] (defScope s_every_lot) := ⟨rfl, rfl, rfl, by decide +kernel, rfl, by decide +kernel, by decide +kernel⟩
section
variable {P : Program} {w : World} {K : PySem.W.Frag} {mg : Str → Option Value} {base : Heap} {W : Wd}
theorem v_every_lot {f c0 : Addr} {fd : FuncData} {TL : List (Addr × Str)} (F : FunC K "_law_every_lot" "_law_every_lot" s_every_lot f fd c0) (T : Txt K mg) (hW : W.K = K)
    (G_ordered : FnM P w K mg base 4 "_law_ordered" ["lots"] W TL (seqR ordZ)) :
    FnOk P w K mg base CX0 5 f fd ["size"] (spM W TL 1 gEvery) := by
  have sc := sc_every_lot
  let st := s_every_lot
  let N : List Str := ["size", "row", "letter", "lot"]
  refine FunC.okM F sc (by decide) fun Ar outer s H E A hA M hr => ?_
  have hK : A.W.K = K := by rw [hA]; exact hW
  have zl : sizeLine = 16777216 := rfl
  refine ⟨_, (vss_cons (vs_set (i := 1) sc.nd rfl (Or.inl rfl) (v_lst (va_cons v_str va_nil)))
      (vss_cons (vs_for PassesOwn.never rfl (vi hK (v_sl hK v_str.vr vo_none (vo (v_nr 0)))) (vg_name (i := 2) sc.nd rfl (Or.inr rfl)) (vss_one (vs_set (i := 1) sc.nd rfl (Or.inl rfl) (v_op (w_add hK) (v_nr 1) (vf_lc' (own := [("lot", 3)]) rfl sc.nd (vi hK (v_nm 1)) (blkOk_by (N := N) (sc := (defScope st)) (by decide +kernel)) (by decide) (gq_name 3) (fun _ _ _ _ _ => (pg_name (i := 3) sc.nd rfl (Or.inl rfl))) (fun _ _ _ _ _ => vts_nil) (fun _ _ _ _ _ => (v_op (w_add hK) (v_nr 3) (v_nr 2)))).ve.vr))))
      (vss_one (vs_ret (v_fnM M G_ordered hA (hr.mono (by decide)) (by rfl) (va_cons (v_nm 1) va_nil)))))), fun ds Q hl h => ?_⟩
  obtain ⟨rfl, k⟩ := h
  have e6 : (cutS (Str.ofString "abcdef") none (some 6)).cps.toList = abcL := by decide +kernel
  show (_ : VTS) _ [.sh (.int 6), .no, .no, .no]
  simp
  rw [e6]
  refine ⟨by omega, by decide +kernel, ?_⟩
  refine forV_ind (fun rest env => ∃ (i : Nat) (x y : Sl), i ≤ 6 ∧ rest = (abcL.drop i).map (fun c => D.str (one c)) ∧ env = [.sh (.int 6), .sh (.lst (txs (evr (abcL.take i)))), x, y]) ?_ ?_ _ _ ⟨0, .no, .no, by omega, rfl, rfl⟩
  · rintro d rest env N ⟨i, x, y, hi, h1, rfl⟩ hN
    obtain ⟨l1, l2⟩ := evr_len i hi
    by_cases h6 : i = 6
    · subst h6
      cases h1
    have hlt : i < abcL.length := by show i < 6; omega
    rw [List.drop_eq_getElem_cons hlt] at h1
    cases h1
    have hn := hN [.sh (.int 6), .sh (.lst (txs (evr (abcL.take (i + 1))))), .sh (.str (one abcL[i])), y] ⟨i + 1, _, _, by omega, rfl, rfl⟩
    rw [List.take_add_one, List.getElem?_eq_getElem hlt] at hn
    have hn : N [.sh (.int 6), .sh (.lst (txs (evr (abcL.take i ++ [abcL[i]])))), .sh (.str (one abcL[i])), y] := hn
    rw [evr_snoc] at hn
    simp
    refine lc_gen D.str (fun _ => true) (fun z => D.str (z ++ one abcL[i])) (evr (abcL.take i)) [] (by rw [List.length_nil]; omega) (fun z hz M B k1 k2 => ?_) ?_
    · have := l2 z hz
      simp
      exact ⟨by rw [len_one1]; omega, k1 rfl⟩
    · rw [filter_true]
      refine ⟨?_, ?_⟩
      · rw [txs_len, List.nil_append, List.length_map]
        omega
      · have em : ([] : List D) ++ (evr (abcL.take i)).map (fun z => D.str (z ++ one abcL[i])) = txs ((evr (abcL.take i)).map (· ++ one abcL[i])) := by
          unfold txs
          rw [List.map_map]
          rfl
        rw [em, ← txs_app]
        exact hn
  · rintro env ⟨i, x, y, hi, h1, rfl⟩
    have : i = 6 := by
      have := congrArg List.length h1
      rw [List.length_nil, List.length_map, List.length_drop] at this
      have : 0 = 6 - i := this
      omega
    subst this
    simp [seqR]
    refine ⟨evr abcL, rfl, by decide +kernel, evr_all.1, ?_⟩
    exact k _ (fun z hz => R6_all z (evr_all.2 ▸ hz)) (by rw [evr_all.2]; exact R6_len)
end
end K0
namespace K0
open PySem PySem.Spec PyProof.Rows L2 Bs LamX
def spoil (l : List Str) (b t : D) : Prop := ∃ i, i ≤ l.length ∧ sqOf ((txs l).take i ++ b :: (txs l).drop i) t
def gGroup : Gd := fun ds Q => ds = [] ∧ ∀ l : List Str, (∀ z ∈ l, L6 z = true) → l.length ≤ 80 → Q (.lst (txs l))
def gDrawn : Gd := fun ds Q => ds = [] ∧ ∀ (x y : Str) (l1 l2 : List Str) (t1 t2 b bq s1 s2 : D), L6 x = true → L6 y = true → (∀ z ∈ l1, L6 z = true) → l1.length ≤ 80 → (∀ z ∈ l2, L6 z = true) → l2.length ≤ 80 → sqOf (txs l1) t1 → sqOf (txs l2) t2 → b ∈ BL → bq ∈ BQ → spoil l1 b s1 → spoil l2 b s2 →
  Q (.lst [.lst [.str x, .str y], t1, t2, .lst [b, bq], .lst [s1, s2]])
theorem all_of {p : Str → Prop} {ys : List Str} {l : List D} (h : ∀ d ∈ l, d ∈ txs ys) (hy : ∀ z ∈ ys, p z) : ∃ zs : List Str, l = txs zs ∧ ∀ z ∈ zs, p z :=
  all_txs fun d hd => by
    obtain ⟨z, hz, rfl⟩ := List.mem_map.mp (h d hd)
    exact ⟨z, rfl, hy z hz⟩
theorem six_len {z : Str} (h : L6 z = true) : z.length ≤ 6 := L6_len h
abbrev s_group : Stmt := top 58
theorem sc_group : FnScope ["store", "way", "every", "k", "length", "lot"] ["store"] (defScope s_group) := ⟨rfl, rfl, rfl, by decide +kernel, rfl, by decide +kernel, by decide +kernel⟩
section
variable {P : Program} {w : World} {K : PySem.W.Frag} {mg : Str → Option Value} {base : Heap} {W : Wd}
theorem v_group {f c0 : Addr} {fd : FuncData} {TL : List (Addr × Str)} (F : FunC K "_law_group" "_law_group" s_group f fd c0) (T : Txt K mg) (hW : W.K = K)
    (G_take : FnD P w K mg base 2 "_law_take" ["store", "limit"] W gTake)
    (G_lots : FnD P w K mg base 5 "_law_lots" ["store", "size", "most"] W gLots)
    (G_every_lot : FnM P w K mg base 5 "_law_every_lot" ["size"] W TL gEvery)
    (G_doubled : FnD P w K mg base 4 "_law_doubled" ["store", "things"] W gDoub)
    (G_pick : FnD P w K mg base 3 "_law_pick" ["store", "things"] W gPick) :
    FnOk P w K mg base CX0 6 f fd ["store"] (spDM W TL 1 gGroup) := by
  have sc := sc_group
  let st := s_group
  let N : List Str := ["store", "way", "every", "k", "length", "lot"]
  refine FunC.okDM F sc (by decide) fun Ar outer s H E A a c hA dm hr => ?_
  have sA := dm.s
  have M := dm.m
  have hK : A.W.K = K := by rw [hA]; exact hW
  have zl : sizeLine = 16777216 := rfl
  refine ⟨_, (vss_cons (vs_set (i := 1) sc.nd rfl (Or.inl rfl) (v_draw sA 0 G_take hA (hr.mono (by decide)) (by rfl) (va_cons v_int va_nil)))
      (vss_cons (vs_if (vt_cmp (w_eq hK hr) (v_nr 1) v_int.vr (nomark _)) (vss_cons (vs_set (i := 2) sc.nd rfl (Or.inr rfl) (v_fnM M G_every_lot hA (hr.mono (by decide)) (by rfl) (va_cons v_int va_nil)))
      (vss_one (vs_ret (vf_lc' (own := [("k", 3)]) rfl sc.nd (vi_rng1 (by rfl) T.range v_int.vr) (blkOk_by (N := N) (sc := (defScope st)) (by decide +kernel)) (by decide) (gq_name 3) (fun _ _ _ _ _ => (pg_name (i := 3) sc.nd rfl (Or.inl rfl))) (fun _ _ _ _ _ => vts_nil) (fun _ _ _ _ _ => (v_draw sA 0 G_pick hA (hr.mono (by decide)) (by rfl) (va_cons (v_nm 2) va_nil)))).ve))) vss_nil)
      (vss_cons (vs_if (vt_cmp w_lt (v_nr 1) v_int.vr (nomark _)) (vss_cons (vs_set (i := 4) sc.nd rfl (Or.inr rfl) (v_draw sA 0 G_take hA (hr.mono (by decide)) (by rfl) (va_cons v_int va_nil)))
      (vss_one (vs_ret (v_draw sA 0 G_doubled hA (hr.mono (by decide)) (by rfl) (va_cons (vf_lc' (own := [("lot", 5)]) rfl sc.nd (vi hK (v_fnM M G_every_lot hA (hr.mono (by decide)) (by rfl) (va_cons v_int va_nil))) (blkOk_by (N := N) (sc := (defScope st)) (by decide +kernel)) (by decide) (gq_name 5) (fun _ _ _ _ _ => (pg_name (i := 5) sc.nd rfl (Or.inl rfl))) (fun _ _ _ _ _ => (vts_one (vt_cmp (w_eq hK hr) (v_callB (w_len hK) (by rfl) T.len boot_len (vb_cons (v_nr 5) vb_nil)).vr (v_nr 4) (nomark _)))) (fun _ _ _ _ _ => (v_nm 5))).ve va_nil))))) vss_nil)
      (vss_one (vs_ret (v_draw sA 0 G_lots hA (hr.mono (by decide)) (by rfl) (va_cons (v_op (w_add hK) v_int.vr (v_draw sA 0 G_take hA (hr.mono (by decide)) (by rfl) (va_cons v_int va_nil)).vr) (va_cons v_int va_nil)))))))), fun ds Q hl h => ?_⟩
  obtain ⟨rfl, k⟩ := h
  show (_ : VTS) _ [.st, .no, .no, .no, .no, .no]
  simp [gTake, gEvery]
  refine fun r r0 r1 => ite2 (fun _ l hl ll => ?_) fun _ => ite2 (fun _ q q0 q1 l hl ll => ?_) fun _ q q0 q1 => ?_
  · refine lcV_rel (fun d => d ∈ txs l) _ [] (by rw [rngD_len, List.length_nil]; exact Nat.le_of_ble_eq_true rfl) (fun d hd M hM => ?_) (fun ys yl yp => ?_)
    · simp [gPick]
      exact ⟨by omega, by omega, hM⟩
    · obtain ⟨zs, rfl, hz⟩ := all_of (p := fun z => L6 z = true) yp hl
      rw [rngD_len, txs_len] at yl
      rw [List.nil_append]
      exact k zs hz (by rw [yl]; exact Nat.le_of_ble_eq_true rfl)
  · refine lc_txs (fun z => decide ((z.length : Int) = q)) .str _ [] (by rw [List.length_nil, ll]; omega) (fun c hc M B h1 h2 => ?_) ?_
    · have lc := L6_len (hl c hc)
      simp
      exact ⟨by omega, ite2 (fun h => h1 (decide_eq_true h)) fun h => h2 (decide_eq_false h)⟩
    · have fl := List.length_filter_le (fun z : Str => decide ((z.length : Int) = q)) l
      have fm : ∀ z ∈ l.filter (fun z : Str => decide ((z.length : Int) = q)), L6 z = true := fun z hz => hl z (List.mem_filter.mp hz).1
      generalize l.filter (fun z : Str => decide ((z.length : Int) = q)) = m at *
      refine ⟨_, rfl, ?_, fun l' h1 h2 => ?_⟩
      · show ([] ++ txs m).length ≤ _
        rw [List.nil_append, txs_len]
        omega
      · have h1 : ∀ d ∈ l', d ∈ txs m := h1
        have h2 : l'.length ≤ ([] ++ txs m).length + 2 := h2
        rw [List.nil_append, txs_len] at h2
        obtain ⟨zs, rfl, hz⟩ := all_of (p := fun z => L6 z = true) h1 fm
        rw [txs_len] at h2
        exact k zs hz (by omega)
  · have q2 := most_lt q1
    simp [gLots]
    refine ⟨(1 + q).toNat, 9, ⟨by omega, rfl⟩, by omega, by omega, by omega, fun l h1 h2 => k l h1 (by omega)⟩
end
abbrev s_drawn : Stmt := top 59
theorem sc_drawn : FnScope ["store", "pair", "ones", "twos", "bads", "spoilt", "k"] ["store"] (defScope s_drawn) := ⟨rfl, rfl, rfl, by decide +kernel, rfl, by decide +kernel, by decide +kernel⟩
section
variable {P : Program} {w : World} {K : PySem.W.Frag} {mg : Str → Option Value} {base : Heap} {W : Wd}
theorem v_drawn {f c0 : Addr} {fd : FuncData} {TL : List (Addr × Str)} (F : FunC K "_law_drawn" "_law_drawn" s_drawn f fd c0) (T : Txt K mg) (hW : W.K = K)
    (G_group : FnDM P w K mg base 6 "_law_group" ["store"] W TL gGroup)
    (G_lot : FnD P w K mg base 4 "_law_lot" ["store", "size"] W gLot)
    (G_bad_lot : FnD P w K mg base 4 "_law_bad_lot" ["store", "size"] W gBdLot)
    (G_bad_sequence : FnD P w K mg base 4 "_law_bad_sequence" ["store"] W (gOf BQ))
    (G_inserted : FnD P w K mg base 3 "_law_inserted" ["store", "row", "thing"] W gIns)
    (G_sequence : FnD P w K mg base 3 "_law_sequence" ["store", "things"] W gSeqn) :
    FnOk P w K mg base CX0 7 f fd ["store"] (spDM W TL 1 gDrawn) := by
  have sc := sc_drawn
  let st := s_drawn
  let N : List Str := ["store", "pair", "ones", "twos", "bads", "spoilt", "k"]
  refine FunC.okDM F sc (by decide) fun Ar outer s H E A a c hA dm hr => ?_
  have sA := dm.s
  have M := dm.m
  have hK : A.W.K = K := by rw [hA]; exact hW
  have zl : sizeLine = 16777216 := rfl
  refine ⟨_, (vss_cons (vs_set (i := 1) sc.nd rfl (Or.inl rfl) (v_lst (va_cons (v_draw sA 0 G_lot hA (hr.mono (by decide)) (by rfl) (va_cons v_int va_nil)) (va_cons (v_draw sA 0 G_lot hA (hr.mono (by decide)) (by rfl) (va_cons v_int va_nil)) va_nil))))
      (vss_cons (vs_set (i := 2) sc.nd rfl (Or.inl rfl) (v_drawM dm 0 G_group hA (hr.mono (by decide)) (by rfl) va_nil))
      (vss_cons (vs_set (i := 3) sc.nd rfl (Or.inl rfl) (v_drawM dm 0 G_group hA (hr.mono (by decide)) (by rfl) va_nil))
      (vss_cons (vs_set (i := 4) sc.nd rfl (Or.inl rfl) (v_lst (va_cons (v_draw sA 0 G_bad_lot hA (hr.mono (by decide)) (by rfl) (va_cons v_int va_nil)) (va_cons (v_draw sA 0 G_bad_sequence hA (hr.mono (by decide)) (by rfl) va_nil) va_nil))))
      (vss_cons (vs_own (i := 5) sc.nd rfl (Or.inl rfl) (vf_lst (va_cons (v_draw sA 0 G_inserted hA (hr.mono (by decide)) (by rfl) (va_cons (v_nm 2) (va_cons (v_ix hK (v_nr 4) v_int.vr (fun _ _ => rfl)) va_nil))) (va_cons (v_draw sA 0 G_inserted hA (hr.mono (by decide)) (by rfl) (va_cons (v_nm 3) (va_cons (v_ix hK (v_nr 4) v_int.vr (fun _ _ => rfl)) va_nil))) va_nil))))
      (vss_cons (vs_for PassesOwn.never rfl (vi_rng1 (by rfl) T.range v_int.vr) (vg_name (i := 6) sc.nd rfl (Or.inl rfl)) (vss_one (vs_put (i := 5) rfl (by first | exact Or.inl rfl | exact Or.inr (Or.inl rfl) | exact Or.inr (Or.inr rfl)) (v_draw sA 0 G_sequence hA (hr.mono (by decide)) (by rfl) (va_cons (v_ix hK (v_nr 5) (v_nr 6) (fun _ _ => rfl)) va_nil)) (v_nm 6))))
      (vss_shr 5 (vss_one (vs_ret (v_lst (va_cons (v_nm 1) (va_cons (v_draw sA 0 G_sequence hA (hr.mono (by decide)) (by rfl) (va_cons (v_nm 2) va_nil)) (va_cons (v_draw sA 0 G_sequence hA (hr.mono (by decide)) (by rfl) (va_cons (v_nm 3) va_nil)) (va_cons (v_nm 4) (va_cons (v_nm 5) va_nil))))))))))))))), fun ds Q hl h => ?_⟩
  obtain ⟨rfl, k⟩ := h
  show (_ : VTS) _ [.st, .no, .no, .no, .no, .no, .no]
  simp [gLot, gGroup, gBdLot, gOf, gIns, gSeqn]
  refine ⟨6, rfl, by omega, by omega, fun x hx => ⟨6, rfl, by omega, by omega, fun y hy => ⟨by omega, fun l1 h1 n1 l2 h2 n2 b hb bq hbq => ⟨by omega, ?_⟩⟩⟩⟩
  refine ⟨_, _, ⟨rfl, rfl⟩, by rw [txs_len]; omega, fun i hi => ⟨_, _, ⟨rfl, rfl⟩, by rw [txs_len]; omega, fun j hj => ⟨by omega, ?_⟩⟩⟩
  rw [txs_len] at hi hj
  rw [show rngD 0 2 = [.int 0, .int 1] from rfl]
  have i0 : ixN 2 0 = some 0 := rfl
  have i1 : ixN 2 1 = some 1 := rfl
  simp [forV, gSeqn, i0, i1]
  exact fun s1 e1 s2 e2 t1 e3 t2 e4 => ⟨by omega, k x y l1 l2 t1 t2 b bq s1 s2 hx hy h1 n1 h2 n2 e3 e4 hb hbq ⟨i, hi, e1⟩ ⟨j, hj, e2⟩⟩
end
end K0
namespace K0
open PySem PySem.Spec PyProof.Rows L2 Bs LamX
theorem askd6 {x : Str} (h : L6 x = true) : Askd (.str x) := ⟨rfl, fun z e => by cases e; have := L6_len h; omega⟩
theorem okQ.ask {t : D} {l : List Str} (h : okQ t l) (hl : l.length ≤ 100000) : AskQ t := by
  have e := h.sq
  refine ⟨⟨?_, fun z e => ?_⟩, fun m hm => ?_, fun m hm u hu => ?_⟩
  · rcases h.1 with rfl | rfl <;> rfl
  · rcases h.1 with rfl | rfl <;> cases e
  · rw [e] at hm
    cases hm
    rw [txs_len]
    exact hl
  · rw [e] at hm
    cases hm
    obtain ⟨z, hz, rfl⟩ := List.mem_map.mp hu
    exact askd6 (h.2 z hz)
theorem txs_inj' : ∀ {a b : List Str}, txs a = txs b → a = b
  | [], [], _ => rfl
  | [], _ :: _, h => by cases h
  | _ :: _, [], h => by cases h
  | x :: a, y :: b, h => by
    obtain ⟨h1, h2⟩ := List.cons.inj h
    cases h1
    rw [txs_inj' h2]
theorem okQ.eq {t : D} {l m : List Str} (h : okQ t l) (h2 : okQ t m) : l = m := txs_inj' (Option.some.inj (h.sq.symm.trans h2.sq))
theorem okQ.bad {t : D} {l : List Str} (h : okQ t l) (b : badQ t) : False := by
  rcases b with b | ⟨m, hm, u, hu, hb⟩
  · rw [h.sq] at b
    cases b
  · rw [h.sq] at hm
    cases hm
    obtain ⟨z, hz, rfl⟩ := List.mem_map.mp hu
    have : L6 z = false := hb
    rw [h.2 z hz] at this
    cases this
theorem fTwo_i {f : Str → Str → D} {x y : Str} {Q : D → Prop} {R : Exn → Prop} (hx : L6 x = true) (hy : L6 y = true) (k : Q (f x y)) : fTwo f [.str x, .str y] Q R :=
  ⟨_, _, rfl, askd6 hx, askd6 hy, fun x' y' e1 e2 _ _ => by cases e1; cases e2; exact k, fun h => by
    rcases h with h | h
    · have h : L6 x = false := h; rw [hx] at h; cases h
    · have h : L6 y = false := h; rw [hy] at h; cases h⟩
theorem fTwo_b {f : Str → Str → D} {d e : D} {Q : D → Prop} {R : Exn → Prop} (hd : Askd d) (he : Askd e) (hb : lotD d = false ∨ lotD e = false) (k : R (ex0 "BadLot")) : fTwo f [d, e] Q R := by
  refine ⟨_, _, rfl, hd, he, fun x y e1 e2 lx ly => ?_, fun _ => k⟩
  subst e1
  subst e2
  rcases hb with h | h
  · have h : L6 x = false := h
    rw [lx] at h
    cases h
  · have h : L6 y = false := h
    rw [ly] at h
    cases h
theorem and_if {a b : Bool} {M B : Prop} (h1 : (a && b) = true → M) (h2 : (a && b) = false → B) : if a = true then if b = true then M else B else B := by cases a <;> cases b <;> simp_all
theorem or_if {a b : Bool} {M B : Prop} (h1 : (a || b) = true → M) (h2 : (a || b) = false → B) : if a = true then M else if b = true then M else B := by cases a <;> cases b <;> simp_all
theorem andn_if {a b : Bool} {M B : Prop} (h1 : (a && !b) = true → M) (h2 : (a && !b) = false → B) : if a = true then if b = true then B else M else B := by cases a <;> cases b <;> simp_all
theorem fCov_i {x : Str} {t : D} {l : List Str} {Q : D → Prop} {R : Exn → Prop} (hx : L6 x = true) (ht : okQ t l) (hl : l.length ≤ 100000) (k : Q (.bl (l.any fun y => subZ x y))) : fCov [.str x, t] Q R :=
  ⟨_, _, rfl, askd6 hx, ht.ask hl, fun x' l' e1 _ h => by cases e1; rw [← ht.eq h]; exact k, fun h => by
    rcases h with h | h
    · have h : L6 x = false := h; rw [hx] at h; cases h
    · exact (ht.bad h).elim⟩
theorem fCov_b {d t : D} {Q : D → Prop} {R : Exn → Prop} (hd : Askd d) (ht : AskQ t) (hb : lotD d = false ∨ badQ t) (k : R (ex0 "BadLot")) : fCov [d, t] Q R :=
  ⟨_, _, rfl, hd, ht, fun x l e1 lx h => by
    subst e1
    rcases hb with b | b
    · have b : L6 x = false := b; rw [lx] at b; cases b
    · exact (h.bad b).elim, fun _ => k⟩
theorem fTops_i {t : D} {l : List Str} {Q : D → Prop} {R : Exn → Prop} (ht : okQ t l) (hl : l.length ≤ 2000) (k : Q (.lst (txs (topsZ l)))) : fTops [t] Q R :=
  ⟨_, rfl, ht.ask (by omega), fun m h => by rw [← ht.eq h]; exact ⟨hl, k⟩, fun h => (ht.bad h).elim⟩
theorem fTops_b {t : D} {Q : D → Prop} {R : Exn → Prop} (ht : AskQ t) (hb : badQ t) (k : R (ex0 "BadLot")) : fTops [t] Q R :=
  ⟨_, rfl, ht, fun m h => (h.bad hb).elim, fun h => k⟩
theorem fJoin_i {t u : D} {l m : List Str} {Q : D → Prop} {R : Exn → Prop} (ht : okQ t l) (hu : okQ u m) (hl : l.length ≤ 2000) (hm : m.length ≤ 2000) (k : Q (.lst (txs (topsZ (l ++ m))))) : fTwoQ joinR 2000 2000 [t, u] Q R :=
  ⟨_, _, rfl, ht.ask (by omega), hu.ask (by omega), fun l' m' h1 h2 => by rw [← ht.eq h1, ← hu.eq h2]; exact ⟨hl, hm, k⟩, fun h => h.elim (fun h => (ht.bad h).elim) fun h => (hu.bad h).elim⟩
theorem fJoin_b {t u : D} {Q : D → Prop} {R : Exn → Prop} (ht : AskQ t) (hu : AskQ u) (hb : badQ t ∨ badQ u) (k : R (ex0 "BadLot")) : fTwoQ joinR 2000 2000 [t, u] Q R :=
  ⟨_, _, rfl, ht, hu, fun l' m' h1 h2 => (hb.elim h1.bad h2.bad).elim, fun h => k⟩
def meetL (l m : List Str) : List Str := l.flatMap fun x => m.map fun y => interZ x y
theorem met_eq {l m : List Str} (hl : ∀ x ∈ l, L6 x = true) (hm : ∀ x ∈ m, L6 x = true) : metR l m = topsZ (meetL l m) := topsZ_congr fun x => by
  unfold meetL
  rw [List.mem_flatMap, List.mem_flatMap]
  constructor
  · rintro ⟨y, hy, h⟩
    obtain ⟨z, hz, e⟩ := List.mem_map.mp h
    exact ⟨y, (mem_ordZ hl).mp hy, List.mem_map.mpr ⟨z, (mem_ordZ hm).mp hz, e⟩⟩
  · rintro ⟨y, hy, h⟩
    obtain ⟨z, hz, e⟩ := List.mem_map.mp h
    exact ⟨y, (mem_ordZ hl).mpr hy, List.mem_map.mpr ⟨z, (mem_ordZ hm).mpr hz, e⟩⟩
theorem fMet_i {t u : D} {l m : List Str} {Q : D → Prop} {R : Exn → Prop} (ht : okQ t l) (hu : okQ u m) (hl : l.length ≤ 4000) (hm : m.length ≤ 4000) (hp : l.length ≤ 62 ∨ m.length ≤ 62) (k : Q (.lst (txs (topsZ (meetL l m))))) : fMet [t, u] Q R :=
  ⟨_, _, rfl, ht.ask (by omega), hu.ask (by omega), fun l' h => by rw [← ht.eq h]; exact hl, fun l' h => by rw [← hu.eq h]; exact hm, fun l' m' h1 h2 => by
    rw [← ht.eq h1, ← hu.eq h2, met_eq ht.2 hu.2]
    refine ⟨?_, k⟩
    have a := ordZ_le ht.2
    have b := ordZ_le hu.2
    have c := ordZ_len l
    have d := ordZ_len m
    rcases hp with hp | hp
    · exact Nat.le_trans (Nat.mul_le_mul (show _ ≤ 62 by omega) d) (by decide)
    · exact Nat.le_trans (Nat.mul_le_mul c (show _ ≤ 62 by omega)) (by decide), fun h => h.elim (fun h => (ht.bad h).elim) fun h => (hu.bad h).elim⟩
theorem fMet_b {t u : D} {Q : D → Prop} {R : Exn → Prop} (ht : AskQ t) (hu : AskQ u) (nt : ∀ l, okQ t l → l.length ≤ 4000) (nu : ∀ l, okQ u l → l.length ≤ 4000) (hb : badQ t ∨ badQ u) (k : R (ex0 "BadLot")) : fMet [t, u] Q R :=
  ⟨_, _, rfl, ht, hu, nt, nu, fun l' m' h1 h2 => (hb.elim h1.bad h2.bad).elim, fun h => k⟩
theorem plain_tx : ∀ l : List Str, plainL (txs l) = true
  | [] => rfl
  | _ :: l => by
    show (true && plainL (txs l)) = true
    rw [plain_tx l]
    rfl
theorem sz_tx : ∀ l : List Str, szL (txs l) = l.length
  | [] => rfl
  | z :: l => by
    show szD (.str z) + szL (txs l) = _
    rw [sz_tx l, List.length_cons]
    show 1 + _ = _
    omega
theorem pl_t (l : List Str) : plainD (.tup [.str "told", .lst (txs l)]) = true := by simp [plainD, plainL, plain_tx]
theorem sz_t (l : List Str) (h : l.length ≤ 100000) : szD (.tup [.str "told", .lst (txs l)]) < 400000 := by simp [szD, szL, sz_tx]; omega
theorem meetL_len (m : List Str) : ∀ a : List Str, (meetL a m).length = a.length * m.length
  | [] => by rw [List.length_nil, Nat.zero_mul]; rfl
  | x :: a => by
    show ((m.map fun y => interZ x y) ++ meetL a m).length = _
    rw [List.length_append, List.length_map, meetL_len m a, List.length_cons, Nat.succ_mul]
    omega
theorem meetL_6 {a m : List Str} : ∀ x ∈ meetL a m, L6 x = true := fun x hx => by
  obtain ⟨y, _, h⟩ := List.mem_flatMap.mp hx
  obtain ⟨z, _, rfl⟩ := List.mem_map.mp h
  exact L6_flt _
def gCovered : Gd := fun ds Q => ∃ (x : Str) (t : D) (l : List Str), ds = [.str x, t] ∧ L6 x = true ∧ okQ t l ∧ l.length ≤ 4000 ∧ Q (.tup [.str "told", .bl (l.any fun y => subZ x y)])
def gMeeting : Gd := fun ds Q => ∃ (t u : D) (l m : List Str), ds = [t, u] ∧ okQ t l ∧ okQ u m ∧ l.length ≤ 12 ∧ m.length ≤ 12 ∧ Q (.lst (txs (topsZ (meetL l m))))
def gPair : Gd := fun ds Q => ∃ x y : Str, ds = [.str x, .str y] ∧ L6 x = true ∧ L6 y = true ∧ Q (.bl true)
abbrev s_covered : Stmt := top 62
theorem sc_covered : FnScope ["lot", "lots", "more"] ["lot", "lots"] (defScope s_covered) := ⟨rfl, rfl, rfl, by decide +kernel, rfl, by decide +kernel, by decide +kernel⟩
section
variable {P : Program} {w : World} {K : PySem.W.Frag} {mg : Str → Option Value} {base : Heap} {W : Wd}
theorem v_covered {f : Addr} {fd : FuncData} (F : Fun K "_law_covered" "_law_covered" s_covered f fd) (T : Txt K mg) (hW : W.K = K)
    (G_lies : FnN P w K mg base 1 "_law_lies" ["one", "two"] W gLies) :
    FnOk P w K mg base CX0 2 f fd ["lot", "lots"] (spV W 2 fun ds Q _ => gCovered ds Q) := by
  have sc := sc_covered
  let st := s_covered
  let N : List Str := ["lot", "lots", "more"]
  refine Fun.okN F sc (by decide) fun cdv Ar outer s H E A hA hr => ?_
  have hK : A.W.K = K := by rw [hA]; exact hW
  have zl : sizeLine = 16777216 := rfl
  refine ⟨_, (vss_one (vs_ret (v_tup (va_cons v_str (va_cons (v_cmp w_gt (v_callB (w_len hK) (by rfl) T.len boot_len (vb_cons (vf_lc' (own := [("more", 2)]) rfl sc.nd (vi hK (v_nm 1)) (blkOk_by (N := N) (sc := (defScope st)) (by decide +kernel)) (by decide) (gq_name 2) (fun _ _ _ _ _ => (pg_name (i := 2) sc.nd rfl (Or.inl rfl))) (fun _ _ _ _ _ => (vts_one (vt hK (v_fnN G_lies hA (hr.mono (by decide)) (by rfl) (va_cons (v_nm 0) (va_cons (v_nm 2) va_nil))).vr))) (fun _ _ _ _ _ => (v_nm 2))).ve.vr vb_nil)).vr v_int.vr (nomark _)) va_nil))))), fun ds Q hl h => ?_⟩
  obtain ⟨x, t, l, rfl, hx, ht, hl', k⟩ := h
  have lx := L6_len hx
  have main : ∀ (t' : D) (Q' : D → Prop), Q' (.lst ([] ++ txs (l.filter fun y => subZ x y))) → lcV (gSet 2) (vT (vCallN gLies (vCons (vNm 0) (vCons (vNm 2) vNil)))) (vNm 2) [.sh (.str x), .sh t', .no] (txs l) [] Q' := by
    intro t' Q' q
    refine lc_txs (fun y => subZ x y) .str _ [] (by rw [List.length_nil]; omega) (fun c hc M B h1 h2 => ?_) q
    have lc := L6_len (ht.2 c hc)
    simp [gLies]
    exact ⟨x, c, ⟨rfl, rfl⟩, lx, lc, ite2 h1 fun z => h2 (by rwa [Bool.not_eq_true] at z)⟩
  have fin : decide (0 < ([] ++ txs (l.filter fun y => subZ x y)).length) = l.any fun y => subZ x y := by
    rw [Bool.eq_iff_iff, decide_eq_true_iff, List.nil_append, txs_len, List.length_pos_iff_exists_mem, List.any_eq_true]
    refine exists_congr fun y => ?_
    rw [List.mem_filter]
  rcases ht.1 with rfl | rfl
  · show (_ : VTS) _ [.sh (.str x), .sh (.lst (txs l)), .no]
    simp
    refine main _ _ ⟨by omega, ?_⟩
    have fin' := fin
    have k' := k
    rw [← fin] at k'
    simpa using k'
  · show (_ : VTS) _ [.sh (.str x), .sh (.tup (txs l)), .no]
    simp
    refine main _ _ ⟨by omega, ?_⟩
    have k' := k
    rw [← fin] at k'
    simpa using k'
end
theorem lc_abc {γ : D → List Sl → (List Sl → Prop) → Prop} {tt : TV Bool} {te : TV D} {env0 : List Sl} {Q : D → Prop} (p : Nat → Bool) {v : Str} (hv : flt p = v)
    (h : ∀ c ∈ abcL, ∀ (M : D → Prop) (B : Prop), (p c = true → M (.str (one c))) → (p c = false → B) → γ (.str (one c)) env0 fun env1 => tt env1 (fun b => if b = true then te env1 M (fun _ => False) else B) fun _ => False)
    (q : Q (.str v)) : lcV γ tt te env0 ((Str.ofString "abcdef").cps.toList.map fun c => .str (one c)) [] fun e => dJoin (.str (Str.ofString "")) e Q := by
  have e6 : (Str.ofString "abcdef").cps.toList = abcL := by decide +kernel
  rw [e6]
  exact lc_flt p abcL [] (by decide) h (join_lc (Nat.le_trans (List.length_filter_le _ _) (by decide)) (by rw [← hv] at q; exact q))
abbrev s_meeting : Stmt := top 61
theorem sc_meeting : FnScope ["ones", "twos", "row", "one", "letter", "two"] ["ones", "twos"] (defScope s_meeting) := ⟨rfl, rfl, rfl, by decide +kernel, rfl, by decide +kernel, by decide +kernel⟩
section
variable {P : Program} {w : World} {K : PySem.W.Frag} {mg : Str → Option Value} {base : Heap} {W : Wd}
theorem v_meeting {f c0 : Addr} {fd : FuncData} {TL : List (Addr × Str)} (F : FunC K "_law_meeting" "_law_meeting" s_meeting f fd c0) (T : Txt K mg) (hW : W.K = K)
    (G_tops : FnM P w K mg base 5 "_law_tops" ["lots"] W TL (seqR topsZ)) :
    FnOk P w K mg base CX0 6 f fd ["ones", "twos"] (spM W TL 2 gMeeting) := by
  have sc := sc_meeting
  let st := s_meeting
  let N : List Str := ["ones", "twos", "row", "one", "letter", "two"]
  refine FunC.okM F sc (by decide) fun Ar outer s H E A hA M hr => ?_
  have hK : A.W.K = K := by rw [hA]; exact hW
  have zl : sizeLine = 16777216 := rfl
  refine ⟨_, (vss_cons (vs_own (i := 2) sc.nd rfl (Or.inl rfl) (vf_lst va_nil))
      (vss_cons (vs_for PassesOwn.never rfl (vi hK (v_nm 0)) (vg_name (i := 3) sc.nd rfl (Or.inr rfl)) (vss_one (vs_ext (i := 2) rfl (Or.inl rfl) (vf_lc' (own := [("two", 5)]) rfl sc.nd (vi hK (v_nm 1)) (blkOk_by (N := N) (sc := (defScope st)) (by decide +kernel)) (by decide) (gq_name 5) (fun _ _ _ _ _ => (pg_name (i := 5) sc.nd rfl (Or.inr rfl))) (fun _ _ _ _ _ => vts_nil) (fun _ _ _ _ _ => (v_join hK v_str.vr (vf_lc' (own := [("letter", 4)]) rfl sc.nd (vi hK v_str) (blkOk_by (N := N) (sc := (relS _ (defScope st))) (by decide +kernel)) (by decide) (gq_name 4) (fun _ _ _ _ _ => (pg_name (i := 4) sc.nd rfl (Or.inl rfl))) (fun _ _ _ _ _ => (vts_one (VW.vt (vw_and (vt_cmp (w_in hK) (v_nr 4) (v_nr 3) (by rfl)) (vw_and1 (vt_cmp (w_in hK) (v_nr 4) (v_nr 5) (by rfl))))))) (fun _ _ _ _ _ => (v_nm 4))).ve.vr))).ve)))
      (vss_shr 2 (vss_one (vs_ret (v_fnM M G_tops hA (hr.mono (by decide)) (by rfl) (va_cons (v_nm 2) va_nil))))))), fun ds Q hl h => ?_⟩
  obtain ⟨t, u, l, m, rfl, ht, hu, hl', hm, k⟩ := h
  have main : ∀ T, forV (gSet 3) (vExt 2 (vLc (vIter (vNm 1)) (gSet 5) vYes (vJoin (vC (.str (Str.ofString ""))) (vLc (vIter (vC (.str (Str.ofString "abcdef")))) (gSet 4) (vAndT (vOpT (dIn false) (vNr 4) (vNr 3)) (vOpT (dIn false) (vNr 4) (vNr 5))) (vNm 4) [4])) [5])) (txs l)
      { nx := vShr 2 (vRet (vCallN (seqR topsZ) (vCons (vNm 2) vNil))) { nx := fun _ => Q .non, rt := Q, ex := fun _ => False }, rt := Q, ex := fun _ => False } [.sh T, .sh u, .ow (.lst []), .no, .no, .no] := by
    intro T
    refine forV_ind (fun rest env => ∃ (a b : List Str) (s3 s4 s5 : Sl), l = a ++ b ∧ rest = txs b ∧ env = [.sh T, .sh u, .ow (.lst (txs (meetL a m))), s3, s4, s5]) ?_ ?_ _ _ ⟨[], l, .no, .no, .no, rfl, rfl, rfl⟩
    · rintro d rest env N ⟨a, b, s3, s4, s5, e, h1, rfl⟩ hN
      cases b with
      | nil => cases h1
      | cons c b =>
        cases h1
        have hn := hN [.sh T, .sh u, .ow (.lst (txs (meetL (a ++ [c]) m))), .sh (.str c), s4, s5] ⟨a ++ [c], b, _, _, _, by rw [e, List.append_assoc]; rfl, rfl, rfl⟩
        have em : meetL (a ++ [c]) m = meetL a m ++ m.map fun y => interZ c y := by
          unfold meetL
          rw [List.flatMap_append]
          simp
        have la : a.length ≤ 12 := by rw [e, List.length_append] at hl'; omega
        have lm : (meetL a m).length ≤ 144 := by
          rw [meetL_len]
          exact Nat.le_trans (Nat.mul_le_mul la hm) (by decide)
        rw [em, txs_app] at hn
        have comp : ∀ (Q' : D → Prop), Q' (.lst (txs (m.map fun y => interZ c y))) → lcV (gSet 5) vYes (vJoin (vC (.str (Str.ofString ""))) (vLc (vIter (vC (.str (Str.ofString "abcdef")))) (gSet 4) (vAndT (vOpT (dIn false) (vNr 4) (vNr 3)) (vOpT (dIn false) (vNr 4) (vNr 5))) (vNm 4) [4])) [.sh T, .sh u, .ow (.lst (txs (meetL a m))), .sh (.str c), s4, .no] (txs m) [] Q' := by
          intro Q' q
          refine lc_txs (fun _ => true) (fun y => .str (interZ c y)) _ [] (by rw [List.length_nil]; omega) (fun y hy M B h1 h2 => ?_) ?_
          · simp
            refine lc_abc (fun k => decide (k ∈ c.cps.toList) && decide (k ∈ y.cps.toList)) rfl (fun k hk M' B' k1 k2 => ?_) (h1 rfl)
            simp
            rw [inS_one, inS_one]
            exact and_if k1 k2
          · rw [filter_true]
            have e : ([] : List D) ++ m.map (fun y => D.str (interZ c y)) = txs (m.map fun y => interZ c y) := by
              unfold txs
              rw [List.map_map]
              rfl
            rw [e]
            exact q
        rcases hu.1 with rfl | rfl
        · simp
          exact comp _ ⟨by rw [txs_len, List.length_map]; omega, hn⟩
        · simp
          exact comp _ ⟨by rw [txs_len, List.length_map]; omega, hn⟩
    · rintro env ⟨a, b, s3, s4, s5, e, h1, rfl⟩
      cases b with
      | cons c b => cases h1
      | nil =>
        rw [List.append_nil] at e
        subst e
        simp [seqR]
        exact ⟨meetL l m, rfl, by rw [meetL_len]; exact Nat.le_trans (Nat.mul_le_mul hl' hm) (by decide), meetL_6, k⟩
  rcases ht.1 with rfl | rfl
  · show (_ : VTS) _ [.sh (.lst (txs l)), .sh u, .no, .no, .no, .no]
    simp
    exact main _
  · show (_ : VTS) _ [.sh (.tup (txs l)), .sh u, .no, .no, .no, .no]
    simp
    exact main _
end
abbrev s_pair_asked : Stmt := top 60
theorem sc_pair_asked : FnScope ["one", "two", "both", "letter", "shared_v", "rest", "lies"] ["one", "two"] (defScope s_pair_asked) := ⟨rfl, rfl, rfl, by decide +kernel, rfl, by decide +kernel, by decide +kernel⟩
section
variable {P : Program} {w : World} {K : PySem.W.Frag} {mg : Str → Option Value} {base : Heap} {W : Wd}
theorem v_pair_asked {f c0 : Addr} {fd : FuncData} {TL : List (Addr × Str)} {ea : ErrA} {gt gi : Addr} {fdt fdi : FuncData} {Pt : Addr} (F : FunC K "_law_pair_asked" "_law_pair_asked" s_pair_asked f fd c0) (T : Txt K mg) (hW : W.K = K) (Wa : Asks P w K mg base W ea gt gi fdt fdi) (hEt : ErrT K W ea) (Mk : Mkr base mg TL "_law_pair_asked" c0 Pt)
    (P_union : FnV P w K mg base 3 "union" ["one", "two"] W (fTwo uniD))
    (PK_union_0_two_one : FnVK P w K mg base 3 "union" ["one", "two"] W (fTwo uniD) 0 ["two", "one"] (fun _ zs => permL [1, 0] zs))
    (P_common : FnV P w K mg base 3 "common" ["one", "two"] W (fTwo comD))
    (PK_common_0_two_one : FnVK P w K mg base 3 "common" ["one", "two"] W (fTwo comD) 0 ["two", "one"] (fun _ zs => permL [1, 0] zs))
    (P_minus : FnV P w K mg base 3 "minus" ["one", "two"] W (fTwo minD))
    (PK_minus_0_two_one : FnVK P w K mg base 3 "minus" ["one", "two"] W (fTwo minD) 0 ["two", "one"] (fun _ zs => permL [1, 0] zs))
    (P_lies_in : FnV P w K mg base 3 "lies_in" ["one", "two"] W (fTwo liesD))
    (PK_lies_in_0_two_one : FnVK P w K mg base 3 "lies_in" ["one", "two"] W (fTwo liesD) 0 ["two", "one"] (fun _ zs => permL [1, 0] zs)) :
    FnOk P w K mg base CX0 10 f fd ["one", "two"] (spM W TL 2 gPair) := by
  have sc := sc_pair_asked
  let st := s_pair_asked
  let N : List Str := ["one", "two", "both", "letter", "shared_v", "rest", "lies"]
  refine FunC.okM F sc (by decide) fun Ar outer s H E A hA M hr => ?_
  have hK : A.W.K = K := by rw [hA]; exact hW
  have Wa : Asks P w K mg base A.W ea gt gi fdt fdi := by rw [hA]; exact Wa
  have hE : ErrT K A.W ea := by rw [hA]; exact hEt
  have zl : sizeLine = 16777216 := rfl
  refine ⟨_, (vss_cons (vs_set (i := 2) sc.nd rfl (Or.inl rfl) (v_tup (va_cons v_str (va_cons (v_join hK v_str.vr (vf_lc' (own := [("letter", 3)]) rfl sc.nd (vi hK v_str) (blkOk_by (N := N) (sc := (defScope st)) (by decide +kernel)) (by decide) (gq_name 3) (fun _ _ _ _ _ => (pg_name (i := 3) sc.nd rfl (Or.inl rfl))) (fun _ _ _ _ _ => (vts_one (VW.vt (vw_or (vt_cmp (w_in hK) (v_nr 3) (v_nr 0) (by rfl)) (vw_or1 (vt_cmp (w_in hK) (v_nr 3) (v_nr 1) (by rfl))))))) (fun _ _ _ _ _ => (v_nm 3))).ve.vr) va_nil))))
      (vss_cons (vs_set (i := 4) sc.nd rfl (Or.inl rfl) (v_tup (va_cons v_str (va_cons (v_join hK v_str.vr (vf_lc' (own := [("letter", 3)]) rfl sc.nd (vi hK v_str) (blkOk_by (N := N) (sc := (defScope st)) (by decide +kernel)) (by decide) (gq_name 3) (fun _ _ _ _ _ => (pg_name (i := 3) sc.nd rfl (Or.inl rfl))) (fun _ _ _ _ _ => (vts_one (VW.vt (vw_and (vt_cmp (w_in hK) (v_nr 3) (v_nr 0) (by rfl)) (vw_and1 (vt_cmp (w_in hK) (v_nr 3) (v_nr 1) (by rfl))))))) (fun _ _ _ _ _ => (v_nm 3))).ve.vr) va_nil))))
      (vss_cons (vs_set (i := 5) sc.nd rfl (Or.inl rfl) (v_tup (va_cons v_str (va_cons (v_join hK v_str.vr (vf_lc' (own := [("letter", 3)]) rfl sc.nd (vi hK v_str) (blkOk_by (N := N) (sc := (defScope st)) (by decide +kernel)) (by decide) (gq_name 3) (fun _ _ _ _ _ => (pg_name (i := 3) sc.nd rfl (Or.inl rfl))) (fun _ _ _ _ _ => (vts_one (VW.vt (vw_and (vt_cmp (w_in hK) (v_nr 3) (v_nr 0) (by rfl)) (vw_and1 (vt_cmp (w_notIn hK) (v_nr 3) (v_nr 1) (by rfl))))))) (fun _ _ _ _ _ => (v_nm 3))).ve.vr) va_nil))))
      (vss_cons (vs_set (i := 6) sc.nd rfl (Or.inl rfl) (v_tup (va_cons v_str (va_cons (v_cmp (w_eq hK hr) (v_ix hK (v_nr 5) v_int.vr (fun _ _ => rfl)).vr v_str.vr (nomark _)) va_nil))))
      (vss_one (vs_ret (v_callB (w_all hK rfl) (by rfl) T.all boot_all (vb_cons (VE.vr (v_lst (va_cons (v_islam (k := 6) Wa M hK hE Mk.tb rfl Mk.mem Mk.un (hr.mono (by decide)) (by rfl) (lamS_by (by rfl)) (fun Ar outer s H E f c2 hr2 => (v_fn P_union hA (hr2.mono (by decide)) (by rfl) lamV (fun _ _ _ _ h => h) (va_cons (v_nm 0) (va_cons (v_nm 1) va_nil)))) (v_nm 2)) (va_cons (v_islam (k := 6) Wa M hK hE Mk.tb rfl Mk.mem Mk.un (hr.mono (by decide)) (by rfl) (lamS_by (by rfl)) (fun Ar outer s H E f c2 hr2 => (v_fnK0 PK_union_0_two_one hA (hr2.mono (by decide)) (by rfl) lamV (fun _ _ _ _ h => h) (vk_cons (v_nm 1) (vk_cons (v_nm 0) vk_nil)))) (v_nm 2)) (va_cons (v_islam (k := 6) Wa M hK hE Mk.tb rfl Mk.mem Mk.un (hr.mono (by decide)) (by rfl) (lamS_by (by rfl)) (fun Ar outer s H E f c2 hr2 => (v_fn P_common hA (hr2.mono (by decide)) (by rfl) lamV (fun _ _ _ _ h => h) (va_cons (v_nm 0) (va_cons (v_nm 1) va_nil)))) (v_nm 4)) (va_cons (v_islam (k := 6) Wa M hK hE Mk.tb rfl Mk.mem Mk.un (hr.mono (by decide)) (by rfl) (lamS_by (by rfl)) (fun Ar outer s H E f c2 hr2 => (v_fnK0 PK_common_0_two_one hA (hr2.mono (by decide)) (by rfl) lamV (fun _ _ _ _ h => h) (vk_cons (v_nm 1) (vk_cons (v_nm 0) vk_nil)))) (v_nm 4)) (va_cons (v_islam (k := 6) Wa M hK hE Mk.tb rfl Mk.mem Mk.un (hr.mono (by decide)) (by rfl) (lamS_by (by rfl)) (fun Ar outer s H E f c2 hr2 => (v_fn P_minus hA (hr2.mono (by decide)) (by rfl) lamV (fun _ _ _ _ h => h) (va_cons (v_nm 0) (va_cons (v_nm 1) va_nil)))) (v_nm 5)) (va_cons (v_islam (k := 6) Wa M hK hE Mk.tb rfl Mk.mem Mk.un (hr.mono (by decide)) (by rfl) (lamS_by (by rfl)) (fun Ar outer s H E f c2 hr2 => (v_fnK0 PK_minus_0_two_one hA (hr2.mono (by decide)) (by rfl) lamV (fun _ _ _ _ h => h) (vk_cons (v_nm 1) (vk_cons (v_nm 0) vk_nil)))) (v_nm 5)) (va_cons (v_islam (k := 6) Wa M hK hE Mk.tb rfl Mk.mem Mk.un (hr.mono (by decide)) (by rfl) (lamS_by (by rfl)) (fun Ar outer s H E f c2 hr2 => (v_fn P_lies_in hA (hr2.mono (by decide)) (by rfl) lamV (fun _ _ _ _ h => h) (va_cons (v_nm 0) (va_cons (v_nm 1) va_nil)))) (v_nm 6)) (va_cons (v_islam (k := 6) Wa M hK hE Mk.tb rfl Mk.mem Mk.un (hr.mono (by decide)) (by rfl) (lamS_by (by rfl)) (fun Ar outer s H E f c2 hr2 => (v_fnK0 PK_lies_in_0_two_one hA (hr2.mono (by decide)) (by rfl) lamV (fun _ _ _ _ h => h) (vk_cons (v_nm 1) (vk_cons (v_nm 0) vk_nil)))) (v_nm 6)) va_nil)))))))))) vb_nil)))))))), fun ds Q hl h => ?_⟩
  obtain ⟨x, y, rfl, hx, hy, k⟩ := h
  show (_ : VTS) _ [.sh (.str x), .sh (.str y), .no, .no, .no, .no, .no]
  simp
  refine lc_abc (fun k => decide (k ∈ x.cps.toList) || decide (k ∈ y.cps.toList)) (v := unionZ x y) rfl (fun k hk M' B' k1 k2 => ?_) ⟨by omega, ?_⟩
  · simp
    rw [inS_one, inS_one]
    exact or_if k1 k2
  refine lc_abc (fun k => decide (k ∈ x.cps.toList) && decide (k ∈ y.cps.toList)) (v := interZ x y) rfl (fun k hk M' B' k1 k2 => ?_) ⟨by omega, ?_⟩
  · simp
    rw [inS_one, inS_one]
    exact and_if k1 k2
  refine lc_abc (fun k => decide (k ∈ x.cps.toList) && !decide (k ∈ y.cps.toList)) (v := minusZ x y) rfl (fun k hk M' B' k1 k2 => ?_) ⟨by omega, ?_⟩
  · simp
    rw [inS_one, inS_one]
    exact andn_if k1 k2
  have pb : ∀ d : D, plainD d = true → szD d < 10 → plainD (.tup [.str (Str.ofString "told"), d]) = true ∧ szD (.tup [.str (Str.ofString "told"), d]) < 400000 := fun d h1 h2 => by simp [plainD, plainL, szD, szL, h1]; omega
  have ps : ∀ z : Str, plainD (.tup [.str (Str.ofString "told"), .str z]) = true ∧ szD (.tup [.str (Str.ofString "told"), .str z]) < 400000 := fun z => pb _ rfl (show 1 < 10 by decide)
  have pq : ∀ z : Bool, plainD (.tup [.str (Str.ofString "told"), .bl z]) = true ∧ szD (.tup [.str (Str.ofString "told"), .bl z]) < 400000 := fun z => pb _ rfl (show 1 < 10 by decide)
  have mn : decide (minusZ x y = Str.ofString "") = subZ x y := by rw [Bool.eq_iff_iff, decide_eq_true_iff]; exact minus_nil hx y
  simp
  refine ⟨by omega, fTwo_i hx hy ⟨rfl, (ps _).1, (ps _).2, rfl, fTwo_i hx hy ⟨rfl, (ps _).1, (ps _).2, fTwo_i hx hy ⟨rfl, (ps _).1, (ps _).2, rfl, fTwo_i hx hy ⟨rfl, (ps _).1, (ps _).2, fTwo_i hx hy ⟨rfl, (ps _).1, (ps _).2, rfl, fTwo_i hx hy ⟨rfl, (ps _).1, (ps _).2, fTwo_i hx hy ?_⟩⟩⟩⟩⟩⟩⟩
  rw [mn]
  exact ⟨rfl, (pq _).1, (pq _).2, rfl, fTwo_i hx hy ⟨rfl, (pq _).1, (pq _).2, by omega, _, rfl, k⟩⟩
end
theorem seqR_i {res : List Str → List Str} {t : D} {l : List Str} {Q : D → Prop} (ht : okQ t l) (hl : l.length ≤ 4000) (k : Q (.lst (txs (res l)))) : seqR res [t] Q := by
  refine ⟨l, ?_, hl, ht.2, k⟩
  rcases ht.1 with rfl | rfl
  · exact .inl rfl
  · exact .inr rfl
theorem cov_i {x : Str} {t : D} {l : List Str} {Q : D → Prop} (hx : L6 x = true) (ht : okQ t l) (hl : l.length ≤ 4000) (k : Q (.tup [.str "told", .bl (l.any fun y => subZ x y)])) : gCovered [.str x, t] Q := ⟨x, t, l, rfl, hx, ht, hl, k⟩
theorem cut_tx (n : Nat) (l : List Str) : Bs.cutD (txs l) none (some (n : Int)) = txs (l.take n) := by
  rw [cut_to (by omega)]
  unfold txs
  rw [List.map_take]
  rfl
theorem okQ.app {l m : List Str} (hl : ∀ u ∈ l, L6 u = true) (hm : ∀ u ∈ m, L6 u = true) : okQ (.lst (txs (l ++ m))) (l ++ m) := ⟨.inl rfl, fun z hz => (List.mem_append.mp hz).elim (hl z) (hm z)⟩
theorem tops_nil : topsZ [] = [] := by decide +kernel
theorem meet_nil : ∀ l : List Str, meetL l [] = []
  | [] => rfl
  | _ :: l => meet_nil l
theorem same_i {d : D} {Q : D → Prop} (h1 : plainD d = true) (h2 : szD d < 400000) (k : Q (.bl true)) : gSame [d, d] Q := ⟨d, rfl, h1, h2, k⟩
theorem no_in {Q : Prop} (q : Q) : (ex0 "BadLot").fs = [] ∧ (ex0 "BadLot").c ∈ plainN ∧ noD (ex0 "BadLot").c = noD "BadLot" ∧ Q := ⟨rfl, by decide +kernel, rfl, q⟩
theorem okQ.nil : okQ (.lst []) [] := ⟨.inl rfl, fun _ h => absurd h List.not_mem_nil⟩
theorem pl_b (b : Bool) : plainD (.tup [.str "told", .bl b]) = true := by simp [plainD, plainL]
theorem sz_b (b : Bool) : szD (.tup [.str "told", .bl b]) < 400000 := by simp [szD, szL]
end K0
namespace K0
open PySem PySem.Spec PyProof.Rows L2 Bs LamX
def gLotR : Gd := fun ds Q => ∃ (x : Str) (b : D), ds = [.str x, b] ∧ L6 x = true ∧ Askd b ∧ lotD b = false ∧ Q (.bl true)
def gRowR : Gd := fun ds Q => ∃ (x : Str) (t b : D) (l : List Str), ds = [.str x, t, b] ∧ L6 x = true ∧ okQ t l ∧ l.length ≤ 200 ∧ AskQ b ∧ badQ b ∧ Q (.bl true)
abbrev s_lot_refusals : Stmt := top 65
theorem sc_lot_refusals : FnScope ["lot", "bad", "no"] ["lot", "bad"] (defScope s_lot_refusals) := ⟨rfl, rfl, rfl, by decide +kernel, rfl, by decide +kernel, by decide +kernel⟩
section
variable {P : Program} {w : World} {K : PySem.W.Frag} {mg : Str → Option Value} {base : Heap} {W : Wd}
theorem v_lot_refusals {f c0 : Addr} {fd : FuncData} {TL : List (Addr × Str)} {ea : ErrA} {gt gi : Addr} {fdt fdi : FuncData} {Pt : Addr} (F : FunC K "_law_lot_refusals" "_law_lot_refusals" s_lot_refusals f fd c0) (T : Txt K mg) (hW : W.K = K) (Wa : Asks P w K mg base W ea gt gi fdt fdi) (hEt : ErrT K W ea) (Mk : Mkr base mg TL "_law_lot_refusals" c0 Pt)
    (G_no : FnN P w K mg base 1 "_law_no" ["name"] W gNo)
    (P_union : FnV P w K mg base 3 "union" ["one", "two"] W (fTwo uniD))
    (P_common : FnV P w K mg base 3 "common" ["one", "two"] W (fTwo comD))
    (P_minus : FnV P w K mg base 3 "minus" ["one", "two"] W (fTwo minD))
    (P_lies_in : FnV P w K mg base 3 "lies_in" ["one", "two"] W (fTwo liesD))
    (P_is_covered : FnV P w K mg base 4 "is_covered" ["lot", "lots"] W fCov) :
    FnOk P w K mg base CX0 10 f fd ["lot", "bad"] (spM W TL 2 gLotR) := by
  have sc := sc_lot_refusals
  let st := s_lot_refusals
  let N : List Str := ["lot", "bad", "no"]
  refine FunC.okM F sc (by decide) fun Ar outer s H E A hA M hr => ?_
  have hK : A.W.K = K := by rw [hA]; exact hW
  have Wa : Asks P w K mg base A.W ea gt gi fdt fdi := by rw [hA]; exact Wa
  have hE : ErrT K A.W ea := by rw [hA]; exact hEt
  have zl : sizeLine = 16777216 := rfl
  refine ⟨_, (vss_cons (vs_set (i := 2) sc.nd rfl (Or.inl rfl) (v_fnN G_no hA (hr.mono (by decide)) (by rfl) (va_cons v_str va_nil)))
      (vss_one (vs_ret (v_callB (w_all hK rfl) (by rfl) T.all boot_all (vb_cons (VE.vr (v_lst (va_cons (v_islam (k := 6) Wa M hK hE Mk.tb rfl Mk.mem Mk.un (hr.mono (by decide)) (by rfl) (lamS_by (by rfl)) (fun Ar outer s H E f c2 hr2 => (v_fn P_union hA (hr2.mono (by decide)) (by rfl) lamV (fun _ _ _ _ h => h) (va_cons (v_nm 1) (va_cons (v_nm 0) va_nil)))) (v_nm 2)) (va_cons (v_islam (k := 6) Wa M hK hE Mk.tb rfl Mk.mem Mk.un (hr.mono (by decide)) (by rfl) (lamS_by (by rfl)) (fun Ar outer s H E f c2 hr2 => (v_fn P_union hA (hr2.mono (by decide)) (by rfl) lamV (fun _ _ _ _ h => h) (va_cons (v_nm 0) (va_cons (v_nm 1) va_nil)))) (v_nm 2)) (va_cons (v_islam (k := 6) Wa M hK hE Mk.tb rfl Mk.mem Mk.un (hr.mono (by decide)) (by rfl) (lamS_by (by rfl)) (fun Ar outer s H E f c2 hr2 => (v_fn P_common hA (hr2.mono (by decide)) (by rfl) lamV (fun _ _ _ _ h => h) (va_cons (v_nm 1) (va_cons (v_nm 0) va_nil)))) (v_nm 2)) (va_cons (v_islam (k := 6) Wa M hK hE Mk.tb rfl Mk.mem Mk.un (hr.mono (by decide)) (by rfl) (lamS_by (by rfl)) (fun Ar outer s H E f c2 hr2 => (v_fn P_common hA (hr2.mono (by decide)) (by rfl) lamV (fun _ _ _ _ h => h) (va_cons (v_nm 0) (va_cons (v_nm 1) va_nil)))) (v_nm 2)) (va_cons (v_islam (k := 6) Wa M hK hE Mk.tb rfl Mk.mem Mk.un (hr.mono (by decide)) (by rfl) (lamS_by (by rfl)) (fun Ar outer s H E f c2 hr2 => (v_fn P_common hA (hr2.mono (by decide)) (by rfl) lamV (fun _ _ _ _ h => h) (va_cons v_str (va_cons (v_nm 1) va_nil)))) (v_nm 2)) (va_cons (v_islam (k := 6) Wa M hK hE Mk.tb rfl Mk.mem Mk.un (hr.mono (by decide)) (by rfl) (lamS_by (by rfl)) (fun Ar outer s H E f c2 hr2 => (v_fn P_minus hA (hr2.mono (by decide)) (by rfl) lamV (fun _ _ _ _ h => h) (va_cons (v_nm 1) (va_cons (v_nm 0) va_nil)))) (v_nm 2)) (va_cons (v_islam (k := 6) Wa M hK hE Mk.tb rfl Mk.mem Mk.un (hr.mono (by decide)) (by rfl) (lamS_by (by rfl)) (fun Ar outer s H E f c2 hr2 => (v_fn P_minus hA (hr2.mono (by decide)) (by rfl) lamV (fun _ _ _ _ h => h) (va_cons (v_nm 0) (va_cons (v_nm 1) va_nil)))) (v_nm 2)) (va_cons (v_islam (k := 6) Wa M hK hE Mk.tb rfl Mk.mem Mk.un (hr.mono (by decide)) (by rfl) (lamS_by (by rfl)) (fun Ar outer s H E f c2 hr2 => (v_fn P_lies_in hA (hr2.mono (by decide)) (by rfl) lamV (fun _ _ _ _ h => h) (va_cons (v_nm 1) (va_cons (v_nm 0) va_nil)))) (v_nm 2)) (va_cons (v_islam (k := 6) Wa M hK hE Mk.tb rfl Mk.mem Mk.un (hr.mono (by decide)) (by rfl) (lamS_by (by rfl)) (fun Ar outer s H E f c2 hr2 => (v_fn P_lies_in hA (hr2.mono (by decide)) (by rfl) lamV (fun _ _ _ _ h => h) (va_cons (v_nm 0) (va_cons (v_nm 1) va_nil)))) (v_nm 2)) (va_cons (v_islam (k := 6) Wa M hK hE Mk.tb rfl Mk.mem Mk.un (hr.mono (by decide)) (by rfl) (lamS_by (by rfl)) (fun Ar outer s H E f c2 hr2 => (v_fn P_lies_in hA (hr2.mono (by decide)) (by rfl) lamV (fun _ _ _ _ h => h) (va_cons v_str (va_cons (v_nm 1) va_nil)))) (v_nm 2)) (va_cons (v_islam (k := 6) Wa M hK hE Mk.tb rfl Mk.mem Mk.un (hr.mono (by decide)) (by rfl) (lamS_by (by rfl)) (fun Ar outer s H E f c2 hr2 => (v_fn P_is_covered hA (hr2.mono (by decide)) (by rfl) lamV (fun _ _ _ _ h => h) (va_cons (v_nm 1) (va_cons (v_lst (va_cons (v_nm 0) va_nil)) va_nil)))) (v_nm 2)) (va_cons (v_islam (k := 6) Wa M hK hE Mk.tb rfl Mk.mem Mk.un (hr.mono (by decide)) (by rfl) (lamS_by (by rfl)) (fun Ar outer s H E f c2 hr2 => (v_fn P_is_covered hA (hr2.mono (by decide)) (by rfl) lamV (fun _ _ _ _ h => h) (va_cons (v_nm 1) (va_cons (v_lst va_nil) va_nil)))) (v_nm 2)) (va_cons (v_islam (k := 6) Wa M hK hE Mk.tb rfl Mk.mem Mk.un (hr.mono (by decide)) (by rfl) (lamS_by (by rfl)) (fun Ar outer s H E f c2 hr2 => (v_fn P_union hA (hr2.mono (by decide)) (by rfl) lamV (fun _ _ _ _ h => h) (va_cons (v_nm 0) (va_cons (v_nm 0) va_nil)))) (v_tup (va_cons v_str (va_cons (v_nm 0) va_nil)))) va_nil))))))))))))))) vb_nil))))), fun ds Q hl h => ?_⟩
  obtain ⟨x, b, rfl, hx, hb, nb, k⟩ := h
  have ax := askd6 hx
  have e6 : L6 (Str.ofString "") = true := by decide +kernel
  have a0 := askd6 e6
  have o1 : okQ (.lst [.str x]) [x] := ⟨.inl rfl, fun u hu => by rw [List.mem_singleton.mp hu]; exact hx⟩
  have q1 := o1.ask (show 1 ≤ 100000 by decide)
  have q0 := okQ.nil.ask (show 0 ≤ 100000 by decide)
  have ux : unionZ x x = x := by
    conv => rhs; rw [L6_eq hx]
    unfold unionZ
    simp
  show (_ : VTS) _ [.sh (.str x), .sh b, .no]
  simp [gNo]
  refine fTwo_b hb ax (.inl nb) (no_in (fTwo_b ax hb (.inr nb) (no_in (fTwo_b hb ax (.inl nb) (no_in (fTwo_b ax hb (.inr nb) (no_in (fTwo_b a0 hb (.inr nb) (no_in (fTwo_b hb ax (.inl nb) (no_in (fTwo_b ax hb (.inr nb) (no_in (fTwo_b hb ax (.inl nb) (no_in (fTwo_b ax hb (.inr nb) (no_in (fTwo_b a0 hb (.inr nb) (no_in ⟨by omega, fCov_b hb q1 (.inl nb) (no_in (fCov_b hb q0 (.inl nb) (no_in ⟨by omega, fTwo_i hx hx ?_⟩)))⟩)))))))))))))))))))
  unfold uniD
  rw [ux]
  exact ⟨rfl, by simp [plainD, plainL], by simp [szD, szL], by omega, _, rfl, k⟩
end
abbrev s_row_refusals : Stmt := top 66
theorem sc_row_refusals : FnScope ["lot", "lots", "bad", "no"] ["lot", "lots", "bad"] (defScope s_row_refusals) := ⟨rfl, rfl, rfl, by decide +kernel, rfl, by decide +kernel, by decide +kernel⟩
section
variable {P : Program} {w : World} {K : PySem.W.Frag} {mg : Str → Option Value} {base : Heap} {W : Wd}
theorem v_row_refusals {f c0 : Addr} {fd : FuncData} {TL : List (Addr × Str)} {ea : ErrA} {gt gi : Addr} {fdt fdi : FuncData} {Pt : Addr} (F : FunC K "_law_row_refusals" "_law_row_refusals" s_row_refusals f fd c0) (T : Txt K mg) (hW : W.K = K) (Wa : Asks P w K mg base W ea gt gi fdt fdi) (hEt : ErrT K W ea) (Mk : Mkr base mg TL "_law_row_refusals" c0 Pt)
    (G_no : FnN P w K mg base 1 "_law_no" ["name"] W gNo)
    (P_tops : FnF P w K mg base 6 "tops" ["lots"] W fTops)
    (P_is_covered : FnV P w K mg base 4 "is_covered" ["lot", "lots"] W fCov)
    (P_joined : FnF P w K mg base 6 "joined" ["ones", "twos"] W (fTwoQ joinR 2000 2000))
    (P_met : FnF P w K mg base 6 "met" ["ones", "twos"] W fMet) :
    FnOk P w K mg base CX0 10 f fd ["lot", "lots", "bad"] (spM W TL 3 gRowR) := by
  have sc := sc_row_refusals
  let st := s_row_refusals
  let N : List Str := ["lot", "lots", "bad", "no"]
  refine FunC.okM F sc (by decide) fun Ar outer s H E A hA M hr => ?_
  have hK : A.W.K = K := by rw [hA]; exact hW
  have Wa : Asks P w K mg base A.W ea gt gi fdt fdi := by rw [hA]; exact Wa
  have hE : ErrT K A.W ea := by rw [hA]; exact hEt
  have zl : sizeLine = 16777216 := rfl
  refine ⟨_, (vss_cons (vs_set (i := 3) sc.nd rfl (Or.inl rfl) (v_fnN G_no hA (hr.mono (by decide)) (by rfl) (va_cons v_str va_nil)))
      (vss_one (vs_ret (v_callB (w_all hK rfl) (by rfl) T.all boot_all (vb_cons (VE.vr (v_lst (va_cons (v_islam (k := 6) Wa M hK hE Mk.tb rfl Mk.mem Mk.un (hr.mono (by decide)) (by rfl) (lamS_by (by rfl)) (fun Ar outer s H E f c2 hr2 => (VF.ve (vf_fn P_tops hA (hr2.mono (by decide)) (by rfl) lamV (fun _ _ _ _ h => h) (va_cons (v_nm 2) va_nil)))) (v_nm 3)) (va_cons (v_islam (k := 6) Wa M hK hE Mk.tb rfl Mk.mem Mk.un (hr.mono (by decide)) (by rfl) (lamS_by (by rfl)) (fun Ar outer s H E f c2 hr2 => (v_fn P_is_covered hA (hr2.mono (by decide)) (by rfl) lamV (fun _ _ _ _ h => h) (va_cons (v_nm 0) (va_cons (v_nm 2) va_nil)))) (v_nm 3)) (va_cons (v_islam (k := 6) Wa M hK hE Mk.tb rfl Mk.mem Mk.un (hr.mono (by decide)) (by rfl) (lamS_by (by rfl)) (fun Ar outer s H E f c2 hr2 => (VF.ve (vf_fn P_joined hA (hr2.mono (by decide)) (by rfl) lamV (fun _ _ _ _ h => h) (va_cons (v_nm 2) (va_cons (v_nm 1) va_nil))))) (v_nm 3)) (va_cons (v_islam (k := 6) Wa M hK hE Mk.tb rfl Mk.mem Mk.un (hr.mono (by decide)) (by rfl) (lamS_by (by rfl)) (fun Ar outer s H E f c2 hr2 => (VF.ve (vf_fn P_joined hA (hr2.mono (by decide)) (by rfl) lamV (fun _ _ _ _ h => h) (va_cons (v_nm 1) (va_cons (v_nm 2) va_nil))))) (v_nm 3)) (va_cons (v_islam (k := 6) Wa M hK hE Mk.tb rfl Mk.mem Mk.un (hr.mono (by decide)) (by rfl) (lamS_by (by rfl)) (fun Ar outer s H E f c2 hr2 => (VF.ve (vf_fn P_joined hA (hr2.mono (by decide)) (by rfl) lamV (fun _ _ _ _ h => h) (va_cons (v_nm 2) (va_cons (v_lst va_nil) va_nil))))) (v_nm 3)) (va_cons (v_islam (k := 6) Wa M hK hE Mk.tb rfl Mk.mem Mk.un (hr.mono (by decide)) (by rfl) (lamS_by (by rfl)) (fun Ar outer s H E f c2 hr2 => (VF.ve (vf_fn P_met hA (hr2.mono (by decide)) (by rfl) lamV (fun _ _ _ _ h => h) (va_cons (v_nm 2) (va_cons (v_nm 1) va_nil))))) (v_nm 3)) (va_cons (v_islam (k := 6) Wa M hK hE Mk.tb rfl Mk.mem Mk.un (hr.mono (by decide)) (by rfl) (lamS_by (by rfl)) (fun Ar outer s H E f c2 hr2 => (VF.ve (vf_fn P_met hA (hr2.mono (by decide)) (by rfl) lamV (fun _ _ _ _ h => h) (va_cons (v_nm 1) (va_cons (v_nm 2) va_nil))))) (v_nm 3)) (va_cons (v_islam (k := 6) Wa M hK hE Mk.tb rfl Mk.mem Mk.un (hr.mono (by decide)) (by rfl) (lamS_by (by rfl)) (fun Ar outer s H E f c2 hr2 => (VF.ve (vf_fn P_met hA (hr2.mono (by decide)) (by rfl) lamV (fun _ _ _ _ h => h) (va_cons (v_lst va_nil) (va_cons (v_nm 2) va_nil))))) (v_nm 3)) (va_cons (v_islam (k := 6) Wa M hK hE Mk.tb rfl Mk.mem Mk.un (hr.mono (by decide)) (by rfl) (lamS_by (by rfl)) (fun Ar outer s H E f c2 hr2 => (VF.ve (vf_fn P_met hA (hr2.mono (by decide)) (by rfl) lamV (fun _ _ _ _ h => h) (va_cons (v_nm 2) (va_cons (v_lst va_nil) va_nil))))) (v_nm 3)) va_nil))))))))))) vb_nil))))), fun ds Q hl h => ?_⟩
  obtain ⟨x, t, b, l, rfl, hx, ht, hl', hb, nb, k⟩ := h
  have ax := askd6 hx
  have at_ := ht.ask (by omega)
  have q0 := okQ.nil.ask (show 0 ≤ 100000 by decide)
  have n1 : ∀ m, okQ t m → m.length ≤ 4000 := fun m h => by rw [← ht.eq h]; omega
  have n2 : ∀ m, okQ b m → m.length ≤ 4000 := fun m h => (h.bad nb).elim
  have n0 : ∀ m, okQ (.lst []) m → m.length ≤ 4000 := fun m h => by rw [← okQ.nil.eq h]; exact Nat.zero_le _
  show (_ : VTS) _ [.sh (.str x), .sh t, .sh b, .no]
  simp [gNo]
  exact fTops_b hb nb (no_in (fCov_b ax hb (.inr nb) (no_in (fJoin_b hb at_ (.inl nb) (no_in (fJoin_b at_ hb (.inr nb) (no_in (fJoin_b hb q0 (.inl nb) (no_in (fMet_b hb at_ n2 n1 (.inl nb) (no_in (fMet_b at_ hb n1 n2 (.inr nb) (no_in (fMet_b q0 hb n0 n2 (.inr nb) (no_in (fMet_b hb q0 n2 n0 (.inl nb) (no_in ⟨by omega, _, rfl, k⟩)))))))))))))))))
end
end K0
namespace K0
open PySem PySem.Spec PyProof.Rows L2 Bs LamX
def gTwoA : Gd := fun ds Q => ∃ (t u : D) (l m : List Str), ds = [t, u] ∧ okQ t l ∧ okQ u m ∧ l.length ≤ 200 ∧ m.length ≤ 200 ∧ Q (.bl true)
abbrev s_two_asked : Stmt := top 64
theorem sc_two_asked : FnScope ["ones", "twos", "due", "told"] ["ones", "twos"] (defScope s_two_asked) := ⟨rfl, rfl, rfl, by decide +kernel, rfl, by decide +kernel, by decide +kernel⟩
section
variable {P : Program} {w : World} {K : PySem.W.Frag} {mg : Str → Option Value} {base : Heap} {W : Wd}
theorem v_two_asked {f c0 : Addr} {fd : FuncData} {TL : List (Addr × Str)} {ea : ErrA} {gt gi : Addr} {fdt fdi : FuncData} {Pt : Addr} (F : FunC K "_law_two_asked" "_law_two_asked" s_two_asked f fd c0) (T : Txt K mg) (hW : W.K = K) (Wa : Asks P w K mg base W ea gt gi fdt fdi) (hEt : ErrT K W ea) (Mk : Mkr base mg TL "_law_two_asked" c0 Pt)
    (G_tops : FnM P w K mg base 5 "_law_tops" ["lots"] W TL (seqR topsZ))
    (G_same : FnN P w K mg base 1 "_law_same" ["told", "due"] W gSame)
    (G_meeting : FnM P w K mg base 6 "_law_meeting" ["ones", "twos"] W TL gMeeting)
    (P_joined : FnF P w K mg base 6 "joined" ["ones", "twos"] W (fTwoQ joinR 2000 2000))
    (P_met : FnF P w K mg base 6 "met" ["ones", "twos"] W fMet)
    (PK_joined_0_twos_ones : FnFK P w K mg base 6 "joined" ["ones", "twos"] W (fTwoQ joinR 2000 2000) 0 ["twos", "ones"] (fun _ zs => permL [1, 0] zs))
    (PK_met_0_twos_ones : FnFK P w K mg base 6 "met" ["ones", "twos"] W fMet 0 ["twos", "ones"] (fun _ zs => permL [1, 0] zs)) :
    FnOk P w K mg base CX0 10 f fd ["ones", "twos"] (spM W TL 2 gTwoA) := by
  have sc := sc_two_asked
  let st := s_two_asked
  let N : List Str := ["ones", "twos", "due", "told"]
  refine FunC.okM F sc (by decide) fun Ar outer s H E A hA M hr => ?_
  have hK : A.W.K = K := by rw [hA]; exact hW
  have Wa : Asks P w K mg base A.W ea gt gi fdt fdi := by rw [hA]; exact Wa
  have hE : ErrT K A.W ea := by rw [hA]; exact hEt
  have zl : sizeLine = 16777216 := rfl
  refine ⟨_, (vss_cons (vs_set (i := 2) sc.nd rfl (Or.inl rfl) (v_tup (va_cons v_str (va_cons (v_fnM M G_tops hA (hr.mono (by decide)) (by rfl) (va_cons (v_op (w_add hK) (v_callTy (w_list hK) (by rfl) T.list (by decide +kernel) (vb_cons (v_nr 0) vb_nil)).vr (v_callTy (w_list hK) (by rfl) T.list (by decide +kernel) (vb_cons (v_nr 1) vb_nil)).vr) va_nil)) va_nil))))
      (vss_cons (vs_told (i := 3) (k := 6) Wa M hK hE sc.nd rfl (Or.inl rfl) Mk.tb rfl Mk.mem Mk.un (hr.mono (by decide)) (by rfl) (lamS_by (by rfl)) (fun Ar outer s H E f c2 hr2 => (vf_fn P_joined hA (hr2.mono (by decide)) (by rfl) lamV (fun _ _ _ _ h => h) (va_cons (v_nm 0) (va_cons (v_nm 1) va_nil)))))
      (vss_cons (vs_if (vt_not (vt hK (v_lend 3 (v_fnN G_same hA (hr.mono (by decide)) (by rfl) (va_cons (v_nm 3) (va_cons (v_nm 2) va_nil)))).vr)) (vss_one (vs_ret v_bl)) vss_nil)
      (vss_cons (vs_otapp (i := 3) rfl (by first | exact Or.inl rfl | exact Or.inr (Or.inl rfl) | exact Or.inr (Or.inr rfl)) v_str)
      (vss_cons (vs_if (vt_not (vt hK (VE.vr (v_islam (k := 6) Wa M hK hE Mk.tb rfl Mk.mem Mk.un (hr.mono (by decide)) (by rfl) (lamS_by (by rfl)) (fun Ar outer s H E f c2 hr2 => (VF.ve (vf_fnK0 PK_joined_0_twos_ones hA (hr2.mono (by decide)) (by rfl) lamV (fun _ _ _ _ h => h) (vk_cons (v_nm 1) (vk_cons (v_nm 0) vk_nil))))) (v_nm 2))))) (vss_one (vs_ret v_bl)) vss_nil)
      (vss_cons (vs_set (i := 2) sc.nd rfl (Or.inl rfl) (v_tup (va_cons v_str (va_cons (v_fnM M G_meeting hA (hr.mono (by decide)) (by rfl) (va_cons (v_sl hK (v_nr 0) vo_none (vo v_int.vr)) (va_cons (v_sl hK (v_nr 1) vo_none (vo v_int.vr)) va_nil))) va_nil))))
      (vss_cons (vs_told (i := 3) (k := 6) Wa M hK hE sc.nd rfl (Or.inl rfl) Mk.tb rfl Mk.mem Mk.un (hr.mono (by decide)) (by rfl) (lamS_by (by rfl)) (fun Ar outer s H E f c2 hr2 => (vf_fn P_met hA (hr2.mono (by decide)) (by rfl) lamV (fun _ _ _ _ h => h) (va_cons (v_sl hK (v_nr 0) vo_none (vo v_int.vr)) (va_cons (v_sl hK (v_nr 1) vo_none (vo v_int.vr)) va_nil)))))
      (vss_cons (vs_if (vt_not (vt hK (v_lend 3 (v_fnN G_same hA (hr.mono (by decide)) (by rfl) (va_cons (v_nm 3) (va_cons (v_nm 2) va_nil)))).vr)) (vss_one (vs_ret v_bl)) vss_nil)
      (vss_cons (vs_otapp (i := 3) rfl (by first | exact Or.inl rfl | exact Or.inr (Or.inl rfl) | exact Or.inr (Or.inr rfl)) v_str)
      (vss_one (vs_ret (v_callB (w_all hK rfl) (by rfl) T.all boot_all (vb_cons (VE.vr (v_lst (va_cons (v_islam (k := 6) Wa M hK hE Mk.tb rfl Mk.mem Mk.un (hr.mono (by decide)) (by rfl) (lamS_by (by rfl)) (fun Ar outer s H E f c2 hr2 => (VF.ve (vf_fnK0 PK_met_0_twos_ones hA (hr2.mono (by decide)) (by rfl) lamV (fun _ _ _ _ h => h) (vk_cons (v_sl hK (v_nr 1) vo_none (vo v_int.vr)) (vk_cons (v_sl hK (v_nr 0) vo_none (vo v_int.vr)) vk_nil))))) (v_nm 2)) (va_cons (v_islam (k := 6) Wa M hK hE Mk.tb rfl Mk.mem Mk.un (hr.mono (by decide)) (by rfl) (lamS_by (by rfl)) (fun Ar outer s H E f c2 hr2 => (VF.ve (vf_fn P_met hA (hr2.mono (by decide)) (by rfl) lamV (fun _ _ _ _ h => h) (va_cons (v_nm 0) (va_cons (v_lst va_nil) va_nil))))) (v_tup (va_cons v_str (va_cons (v_lst va_nil) va_nil)))) (va_cons (v_islam (k := 6) Wa M hK hE Mk.tb rfl Mk.mem Mk.un (hr.mono (by decide)) (by rfl) (lamS_by (by rfl)) (fun Ar outer s H E f c2 hr2 => (VF.ve (vf_fn P_joined hA (hr2.mono (by decide)) (by rfl) lamV (fun _ _ _ _ h => h) (va_cons (v_lst va_nil) (va_cons (v_nm 0) va_nil))))) (v_tup (va_cons v_str (va_cons (v_fnM M G_tops hA (hr.mono (by decide)) (by rfl) (va_cons (v_nm 0) va_nil)) va_nil)))) va_nil))))) vb_nil))))))))))))), fun ds Q hl h => ?_⟩
  obtain ⟨t, u, l, m, rfl, ht, hu, hl', hm, k⟩ := h
  have tl := topsZ_len (l ++ m)
  have t2 := topsZ_len (meetL (l.take 12) (m.take 12))
  have t3 := topsZ_len l
  have nl : (l.take 12).length ≤ 12 := by rw [List.length_take]; omega
  have nm : (m.take 12).length ≤ 12 := by rw [List.length_take]; omega
  have l6 : ∀ u ∈ l.take 12, L6 u = true := fun u hu => ht.2 u (List.take_subset _ _ hu)
  have m6 : ∀ u ∈ m.take 12, L6 u = true := fun u hv => hu.2 u (List.take_subset _ _ hv)
  rcases ht.1 with e | e <;> rcases hu.1 with e2 | e2
  all_goals
    have hT := ht
    have hU := hu
    rw [e] at hT ⊢
    rw [e2] at hU ⊢
    clear e e2
    show (_ : VTS) _ [.sh _, .sh _, .no, .no]
    simp
    refine ⟨by omega, ?_⟩
    rw [← txs_app]
    refine seqR_i (okQ.app ht.2 hu.2) (by rw [List.length_append]; omega) ⟨by omega, fJoin_i hT hU (by omega) (by omega) (same_i (pl_t _) (sz_t _ (by omega)) ?_)⟩
    simp
    refine ⟨by omega, rfl, fJoin_i hT hU (by omega) (by omega) ⟨rfl, pl_t _, sz_t _ (by omega), ?_⟩⟩
    rw [show (12 : Int) = ((12 : Nat) : Int) from rfl, cut_tx, cut_tx]
    have oa : okQ (.lst (txs (l.take 12))) (l.take 12) ∧ okQ (.tup (txs (l.take 12))) (l.take 12) := ⟨⟨.inl rfl, l6⟩, ⟨.inr rfl, l6⟩⟩
    have ob : okQ (.lst (txs (m.take 12))) (m.take 12) ∧ okQ (.tup (txs (m.take 12))) (m.take 12) := ⟨⟨.inl rfl, m6⟩, ⟨.inr rfl, m6⟩⟩
    refine ⟨_, _, l.take 12, m.take 12, rfl, by first | exact oa.1 | exact oa.2, by first | exact ob.1 | exact ob.2, nl, nm, by omega, fMet_i (l := l.take 12) (m := m.take 12) (by first | exact oa.1 | exact oa.2) (by first | exact ob.1 | exact ob.2) (by omega) (by omega) (.inl (by omega)) (same_i (pl_t _) (sz_t _ (by omega)) ?_)⟩
    simp
    refine ⟨by omega, rfl, fMet_i (l := l.take 12) (m := m.take 12) (by first | exact oa.1 | exact oa.2) (by first | exact ob.1 | exact ob.2) (by omega) (by omega) (.inl (by omega)) ⟨rfl, pl_t _, sz_t _ (by omega), by omega, fMet_i hT okQ.nil (by omega) (by simp) (.inr (by simp)) ⟨by rw [meet_nil, tops_nil]; rfl, pl_t [], sz_t [] (by simp), seqR_i hT (by omega) ⟨by omega, fJoin_i okQ.nil hT (by simp) (by omega) ⟨by rw [List.nil_append], pl_t _, sz_t _ (by omega), by omega, _, rfl, k⟩⟩⟩⟩⟩
end
end K0
namespace K0
open PySem PySem.Spec PyProof.Rows L2 Bs LamX
def gTopsA : Gd := fun ds Q => ∃ (t : D) (l : List Str) (x y : Str), ds = [t, .lst [.str x, .str y]] ∧ okQ t l ∧ l.length ≤ 200 ∧ L6 x = true ∧ L6 y = true ∧ Q (.bl true)
abbrev s_tops_asked : Stmt := top 63
theorem sc_tops_asked : FnScope ["lots", "pair", "due", "told", "lot"] ["lots", "pair"] (defScope s_tops_asked) := ⟨rfl, rfl, rfl, by decide +kernel, rfl, by decide +kernel, by decide +kernel⟩
section
variable {P : Program} {w : World} {K : PySem.W.Frag} {mg : Str → Option Value} {base : Heap} {W : Wd}
theorem v_tops_asked {f c0 : Addr} {fd : FuncData} {TL : List (Addr × Str)} {ea : ErrA} {gt gi : Addr} {fdt fdi : FuncData} {Pt : Addr} (F : FunC K "_law_tops_asked" "_law_tops_asked" s_tops_asked f fd c0) (T : Txt K mg) (hW : W.K = K) (Wa : Asks P w K mg base W ea gt gi fdt fdi) (hEt : ErrT K W ea) (Mk : Mkr base mg TL "_law_tops_asked" c0 Pt)
    (G_tops : FnM P w K mg base 5 "_law_tops" ["lots"] W TL (seqR topsZ))
    (P_tops : FnF P w K mg base 6 "tops" ["lots"] W fTops)
    (G_same : FnN P w K mg base 1 "_law_same" ["told", "due"] W gSame)
    (G_covered : FnN P w K mg base 2 "_law_covered" ["lot", "lots"] W gCovered)
    (PK_tops_0_lots : FnFK P w K mg base 6 "tops" ["lots"] W fTops 0 ["lots"] (fun _ zs => zs))
    (P_is_covered : FnV P w K mg base 4 "is_covered" ["lot", "lots"] W fCov)
    (PK_is_covered_0_lots_lot : FnVK P w K mg base 4 "is_covered" ["lot", "lots"] W fCov 0 ["lots", "lot"] (fun _ zs => permL [1, 0] zs)) :
    FnOk P w K mg base CX0 10 f fd ["lots", "pair"] (spM W TL 2 gTopsA) := by
  have sc := sc_tops_asked
  let st := s_tops_asked
  let N : List Str := ["lots", "pair", "due", "told", "lot"]
  refine FunC.okM F sc (by decide) fun Ar outer s H E A hA M hr => ?_
  have hK : A.W.K = K := by rw [hA]; exact hW
  have Wa : Asks P w K mg base A.W ea gt gi fdt fdi := by rw [hA]; exact Wa
  have hE : ErrT K A.W ea := by rw [hA]; exact hEt
  have zl : sizeLine = 16777216 := rfl
  refine ⟨_, (vss_cons (vs_set (i := 2) sc.nd rfl (Or.inl rfl) (v_tup (va_cons v_str (va_cons (v_fnM M G_tops hA (hr.mono (by decide)) (by rfl) (va_cons (v_nm 0) va_nil)) va_nil))))
      (vss_cons (vs_told (i := 3) (k := 6) Wa M hK hE sc.nd rfl (Or.inr rfl) Mk.tb rfl Mk.mem Mk.un (hr.mono (by decide)) (by rfl) (lamS_by (by rfl)) (fun Ar outer s H E f c2 hr2 => (vf_fn P_tops hA (hr2.mono (by decide)) (by rfl) lamV (fun _ _ _ _ h => h) (va_cons (v_nm 0) va_nil))))
      (vss_cons (vs_if (VW.vt (vw_or (vt_not (vt hK (v_lend 3 (v_fnN G_same hA (hr.mono (by decide)) (by rfl) (va_cons (v_nm 3) (va_cons (v_nm 2) va_nil)))).vr)) (vw_or1 (vt_not (vt hK (VE.vr (v_islam (k := 6) Wa M hK hE Mk.tb rfl Mk.mem Mk.un (hr.mono (by decide)) (by rfl) (lamS_by (by rfl)) (fun Ar outer s H E f c2 hr2 => (VF.ve (vf_fnK0 PK_tops_0_lots hA (hr2.mono (by decide)) (by rfl) lamV (fun _ _ _ _ h => h) (vk_cons (v_nm 0) vk_nil)))) (v_nm 2)))))))) (vss_one (vs_ret v_bl)) vss_nil)
      (vss_cons (vs_for PassesOwn.never rfl (vi hK (v_sl hK (v_callTy (w_list hK) (by rfl) T.list (by decide +kernel) (vb_cons (v_nr 0) vb_nil)).vr vo_none (vo v_int.vr))) (vg_name (i := 4) sc.nd rfl (Or.inr rfl)) (vss_one (vs_if (vt_not (vt hK (VE.vr (v_lend 3 (v_islam (k := 6) Wa M hK hE Mk.tb rfl Mk.mem Mk.un (hr.mono (by decide)) (by rfl) (lamS_by (by rfl)) (fun Ar outer s H E f c2 hr2 => (v_fn P_is_covered hA (hr2.mono (by decide)) (by rfl) lamV (fun _ _ _ _ h => h) (va_cons (v_nm 4) (va_cons (v_ix hK (v_nr 3) v_int.vr (fun _ _ => rfl)) va_nil)))) (v_tup (va_cons v_str (va_cons v_bl va_nil)))))))) (vss_one (vs_ret v_bl)) vss_nil)))
      (vss_cons (vs_otapp (i := 3) rfl (by first | exact Or.inl rfl | exact Or.inr (Or.inl rfl) | exact Or.inr (Or.inr rfl)) v_str)
      (vss_cons (vs_for PassesOwn.never rfl (vi hK (v_op (w_add hK) (v_nr 1) (v_lst (va_cons v_str va_nil)).vr)) (vg_name (i := 4) sc.nd rfl (Or.inr rfl)) (vss_cons (vs_if (vt_not (vt hK (VE.vr (v_islam (k := 6) Wa M hK hE Mk.tb rfl Mk.mem Mk.un (hr.mono (by decide)) (by rfl) (lamS_by (by rfl)) (fun Ar outer s H E f c2 hr2 => (v_fn P_is_covered hA (hr2.mono (by decide)) (by rfl) lamV (fun _ _ _ _ h => h) (va_cons (v_nm 4) (va_cons (v_nm 0) va_nil)))) (v_fnN G_covered hA (hr.mono (by decide)) (by rfl) (va_cons (v_nm 4) (va_cons (v_nm 0) va_nil))))))) (vss_one (vs_ret v_bl)) vss_nil)
      (vss_cons (vs_if (vt_not (vt hK (VE.vr (v_islam (k := 6) Wa M hK hE Mk.tb rfl Mk.mem Mk.un (hr.mono (by decide)) (by rfl) (lamS_by (by rfl)) (fun Ar outer s H E f c2 hr2 => (v_fnK0 PK_is_covered_0_lots_lot hA (hr2.mono (by decide)) (by rfl) lamV (fun _ _ _ _ h => h) (vk_cons (v_nm 0) (vk_cons (v_nm 4) vk_nil)))) (v_fnN G_covered hA (hr.mono (by decide)) (by rfl) (va_cons (v_nm 4) (va_cons (v_nm 0) va_nil))))))) (vss_one (vs_ret v_bl)) vss_nil)
      (vss_one (vs_if (vt_not (vt hK (VE.vr (v_islam (k := 6) Wa M hK hE Mk.tb rfl Mk.mem Mk.un (hr.mono (by decide)) (by rfl) (lamS_by (by rfl)) (fun Ar outer s H E f c2 hr2 => (v_fn P_is_covered hA (hr2.mono (by decide)) (by rfl) lamV (fun _ _ _ _ h => h) (va_cons (v_nm 4) (va_cons (v_lst va_nil) va_nil)))) (v_tup (va_cons v_str (va_cons v_bl va_nil))))))) (vss_one (vs_ret v_bl)) vss_nil)))))
      (vss_one (vs_ret (v_islam (k := 6) Wa M hK hE Mk.tb rfl Mk.mem Mk.un (hr.mono (by decide)) (by rfl) (lamS_by (by rfl)) (fun Ar outer s H E f c2 hr2 => (VF.ve (vf_fn P_tops hA (hr2.mono (by decide)) (by rfl) lamV (fun _ _ _ _ h => h) (va_cons (v_nm 0) va_nil)))) (v_nm 2)))))))))), fun ds Q hl h => ?_⟩
  obtain ⟨t, l, x, y, rfl, ht, hl', hx, hy, k⟩ := h
  have tl := topsZ_len l
  have t6 : ∀ z ∈ topsZ l, L6 z = true := topsZ_L6
  have cv : ∀ z ∈ l, ((topsZ l).any fun y => subZ z y) = true := fun z hz => by
    obtain ⟨y, hy, h⟩ := tops_cover ht.2 z hz
    exact List.any_eq_true.mpr ⟨y, hy, h⟩
  have ot : okQ (.lst (txs (topsZ l))) (topsZ l) := ⟨.inl rfl, t6⟩
  have e6 : L6 (Str.ofString "") = true := by decide +kernel
  rcases ht.1 with e | e
  all_goals
    have hT := ht
    rw [e] at hT ⊢
    clear e
    show (_ : VTS) _ [.sh _, .sh (.lst [.str x, .str y]), .no, .no, .no]
    simp
    refine seqR_i hT (by omega) ⟨by omega, fTops_i hT (by omega) (same_i (pl_t _) (sz_t _ (by omega)) ?_)⟩
    simp
    refine fTops_i hT (by omega) ⟨rfl, pl_t _, sz_t _ (by omega), ?_⟩
    rw [show (64 : Int) = ((64 : Nat) : Int) from rfl, cut_tx]
    refine forV_ind (fun rest env => ∃ (b : List Str) (s : Sl), rest = txs b ∧ (∀ z ∈ b, z ∈ l) ∧ env = [.sh _, .sh (.lst [.str x, .str y]), .sh (.tup [.str "told", .lst (txs (topsZ l))]), .ot (.lst (txs (topsZ l))), s]) ?_ ?_ _ _ ⟨l.take 64, .no, rfl, fun z hz => List.take_subset _ _ hz, rfl⟩
    · rintro d rest env N ⟨b, s, h1, h2, rfl⟩ hN
      cases b with
      | nil => cases h1
      | cons z b =>
        cases h1
        have hz := h2 z List.mem_cons_self
        simp
        refine ⟨by omega, fCov_i (ht.2 z hz) ot (by omega) ?_⟩
        rw [cv z hz]
        exact ⟨rfl, pl_b _, sz_b _, hN _ ⟨b, _, rfl, fun y hy => h2 y (List.mem_cons_of_mem _ hy), rfl⟩⟩
    · rintro env ⟨b, s, h1, h2, rfl⟩
      simp
      refine ⟨by omega, by omega, by omega, ?_⟩
      refine forV_ind (fun rest env => ∃ (b : List Str) (s : Sl), rest = txs b ∧ (∀ z ∈ b, L6 z = true) ∧ env = [.sh _, .sh (.lst [.str x, .str y]), .sh (.tup [.str "told", .lst (txs (topsZ l))]), .ot (.lst (txs (topsZ l) ++ [.str "abcdef"])), s]) ?_ ?_ _ _ ⟨[x, y, Str.ofString ""], _, rfl, fun z hz => ?_, rfl⟩
      · rintro d rest env N ⟨b, s, h1, h2, rfl⟩ hN
        cases b with
        | nil => cases h1
        | cons z b =>
          cases h1
          have hz := h2 z List.mem_cons_self
          simp
          refine cov_i hz hT (by omega) (fCov_i hz hT (by omega) ⟨rfl, pl_b _, sz_b _, ?_⟩)
          refine cov_i hz hT (by omega) ⟨rfl, fCov_i hz hT (by omega) ⟨rfl, pl_b _, sz_b _, by omega, fCov_i hz okQ.nil (by simp) ⟨rfl, pl_b _, sz_b _, hN _ ⟨b, _, rfl, fun y hy => h2 y (List.mem_cons_of_mem _ hy), rfl⟩⟩⟩⟩
      · rintro env ⟨b, s, h1, h2, rfl⟩
        simp
        exact fTops_i hT (by omega) ⟨rfl, pl_t _, sz_t _ (by omega), k⟩
      · simp only [List.mem_cons, List.not_mem_nil, or_false] at hz
        rcases hz with rfl | rfl | rfl
        · exact hx
        · exact hy
        · exact e6
end
end K0
/-! A repeated list as a new object. -/
namespace Bs
open PySem PySem.Spec PyProof.Rows L2 K0
section
variable {X : Cx} {A : Am} {E : L2.St → XK} {a b : Expr} {τa τb : TV D} {pos : Pos}
def repL (k : Nat) (ds : List D) : List D := (List.replicate k ds).flatten
theorem repL_len (k : Nat) (ds : List D) : (repL k ds).length = k * ds.length := by
  unfold repL
  rw [List.length_flatten, List.map_replicate, List.sum_replicate_nat]
theorem repL_mem {k : Nat} {ds : List D} {d : D} (h : d ∈ repL k ds) : d ∈ ds := by
  unfold repL at h
  obtain ⟨l, hl, hd⟩ := List.mem_flatten.mp h
  rwa [List.eq_of_mem_replicate hl] at hd
@[simp] def dMulL (d e : D) (Q : D → Prop) : Prop := match d, e with
  | .lst ds, .int k => -(2 ^ 63) ≤ k ∧ k < 2 ^ 63 ∧ ds.length * k.toNat ≤ sizeLine ∧ Q (.lst (repL k.toNat ds))
  | _, _ => False
theorem vf_mul (ha : VR X A E a τa) (hb : VR X A E b τb) : VF X A E (.BinOp a .Mult b pos) (vOp dMulL τa τb) := ⟨PE.imp (pe_op o_mul ha.run hb.run) fun σ H Q h => by
  obtain ⟨S, env, Qd, Rd, st, h, hq, hr⟩ := h
  refine ⟨S, env, _, Rd, st, h, fun d x H1 f1 r1 q => ⟨S, env, _, Rd, st.fx f1, q, fun e y H2 f2 r2 q2 => ?_, fun ex C dd H' f2 => hr ex C dd H' (f1.trans f2)⟩, hr⟩
  have r1' := kept_R S H1 H2 x d st.s0 f2 r1
  unfold dMulL at q2
  split at q2
  · obtain ⟨p, xs, rfl, h1, q1⟩ := r1'.lst
    rw [r2.int]
    obtain ⟨a1, a2, a3, a4⟩ := q2
    exact ⟨xs, h1, a1, a2, by rw [q1.length]; exact a3, fun l hl => hq _ _ l H2 (f1.trans f2) hl (.lst (q1.flat _)) rfl a4⟩
  · exact q2.elim⟩
end
end Bs
namespace K0
open PySem PySem.Spec PyProof.Rows L2 Bs LamX
def gLong : Gd := fun ds Q => ∃ x : Str, ds = [.str x] ∧ L6 x = true ∧ Q (.bl true)
theorem less_all : ∀ x ∈ R6, x ≠ Str.ofString "" → ∀ z ∈ [cutS x (some 1) none, cutS x none (some ((x.length : Int) - 1)), Str.ofString ""], L6 z = true ∧ subZ x z = false ∧ subZ z x = true := by decide +kernel
theorem tops_one {w : List Str} {x : Str} (h6 : ∀ z ∈ w, L6 z = true) (hx : x ∈ w) (h1 : ∀ z ∈ w, subZ z x = true) (h2 : ∀ z ∈ w, subZ x z = true → z = x) : topsZ w = [x] := by
  refine strict_ext ltZ_as (R6_strict.filter _) (List.pairwise_singleton _ _) fun y => ?_
  have := topsZ_mem h6 (x := y)
  refine Iff.trans this ?_
  rw [List.mem_singleton]
  constructor
  · exact fun h => h.2 x hx (h1 y h.1)
  · rintro rfl
    exact ⟨hx, fun u hu h => (h2 u hu h).symm⟩
theorem ixN_in {n : Nat} {r : Int} (h0 : 0 ≤ r) (h1 : r < n) : ixN n r = some r.toNat := by unfold ixN; rw [if_pos h0, if_pos h1]
abbrev s_long_asked : Stmt := top 67
theorem sc_long_asked : FnScope ["store", "lot", "lots", "at", "start"] ["store", "lot"] (defScope s_long_asked) := ⟨rfl, rfl, rfl, by decide +kernel, rfl, by decide +kernel, by decide +kernel⟩
section
variable {P : Program} {w : World} {K : PySem.W.Frag} {mg : Str → Option Value} {base : Heap} {W : Wd}
theorem v_long_asked {f c0 : Addr} {fd : FuncData} {TL : List (Addr × Str)} {ea : ErrA} {gt gi : Addr} {fdt fdi : FuncData} {Pt : Addr} (F : FunC K "_law_long_asked" "_law_long_asked" s_long_asked f fd c0) (T : Txt K mg) (hW : W.K = K) (Wa : Asks P w K mg base W ea gt gi fdt fdi) (hEt : ErrT K W ea) (Mk : Mkr base mg TL "_law_long_asked" c0 Pt)
    (G_take : FnD P w K mg base 2 "_law_take" ["store", "limit"] W gTake)
    (P_is_covered : FnV P w K mg base 4 "is_covered" ["lot", "lots"] W fCov)
    (P_tops : FnF P w K mg base 6 "tops" ["lots"] W fTops) :
    FnOk P w K mg base CX0 10 f fd ["store", "lot"] (spDM W TL 2 gLong) := by
  have sc := sc_long_asked
  let st := s_long_asked
  let N : List Str := ["store", "lot", "lots", "at", "start"]
  refine FunC.okDM F sc (by decide) fun Ar outer s H E A a c hA dm hr => ?_
  have sA := dm.s
  have M := dm.m
  have hK : A.W.K = K := by rw [hA]; exact hW
  have Wa : Asks P w K mg base A.W ea gt gi fdt fdi := by rw [hA]; exact Wa
  have hE : ErrT K A.W ea := by rw [hA]; exact hEt
  have zl : sizeLine = 16777216 := rfl
  refine ⟨_, (vss_cons (vs_if (VW.vt (vw_or (vt_cmp (w_eq hK hr) (v_nr 1) v_str.vr (nomark _)) (vw_or1 (vt_cmp w_gt (v_draw sA 0 G_take hA (hr.mono (by decide)) (by rfl) (va_cons v_int va_nil)).vr v_int.vr (nomark _))))) (vss_one (vs_ret v_bl)) vss_nil)
      (vss_cons (vs_own (i := 2) sc.nd rfl (Or.inr rfl) (vf_mul (v_lst (va_cons (v_sl hK (v_nr 1) (vo v_int.vr) vo_none) (va_cons (v_sl hK (v_nr 1) vo_none (vo (v_op w_sub (v_callB (w_len hK) (by rfl) T.len boot_len (vb_cons (v_nr 1) vb_nil)).vr v_int.vr).vr)) (va_cons v_str va_nil)))).vr v_int.vr))
      (vss_cons (vs_if (vt_not (vt hK (VE.vr (v_lend 2 (v_islam (k := 6) Wa M hK hE Mk.tb rfl Mk.mem Mk.un (hr.mono (by decide)) (by rfl) (lamS_by (by rfl)) (fun Ar outer s H E f c2 hr2 => (v_fn P_is_covered hA (hr2.mono (by decide)) (by rfl) lamV (fun _ _ _ _ h => h) (va_cons (v_nm 1) (va_cons (v_nm 2) va_nil)))) (v_tup (va_cons v_str (va_cons v_bl va_nil)))))))) (vss_one (vs_ret v_bl)) vss_nil)
      (vss_cons (vs_set (i := 3) sc.nd rfl (Or.inl rfl) (v_draw sA 0 G_take hA (hr.mono (by decide)) (by rfl) (va_cons v_int va_nil)))
      (vss_cons (vs_put (i := 2) rfl (by first | exact Or.inl rfl | exact Or.inr (Or.inl rfl) | exact Or.inr (Or.inr rfl)) (v_nm 1) (v_nm 3))
      (vss_cons (vs_set (i := 4) sc.nd rfl (Or.inr rfl) (v_callB (w_min rfl) (by rfl) T.min boot_min (vb_cons (v_nr 3) (vb_cons v_int.vr vb_nil))))
      (vss_one (vs_ret (v_callB (w_all hK rfl) (by rfl) T.all boot_all (vb_cons (VE.vr (v_lst (va_cons (v_lend 2 (v_islam (k := 6) Wa M hK hE Mk.tb rfl Mk.mem Mk.un (hr.mono (by decide)) (by rfl) (lamS_by (by rfl)) (fun Ar outer s H E f c2 hr2 => (VF.ve (vf_fn P_tops hA (hr2.mono (by decide)) (by rfl) lamV (fun _ _ _ _ h => h) (va_cons (v_sl hK (v_nr 2) (vo (v_nr 4)) (vo (v_op (w_add hK) (v_nr 4) v_int.vr).vr)) va_nil)))) (v_tup (va_cons v_str (va_cons (v_lst (va_cons (v_nm 1) va_nil)) va_nil))))) (va_cons (v_lend 2 (v_islam (k := 6) Wa M hK hE Mk.tb rfl Mk.mem Mk.un (hr.mono (by decide)) (by rfl) (lamS_by (by rfl)) (fun Ar outer s H E f c2 hr2 => (v_fn P_is_covered hA (hr2.mono (by decide)) (by rfl) lamV (fun _ _ _ _ h => h) (va_cons (v_nm 1) (va_cons (v_nm 2) va_nil)))) (v_tup (va_cons v_str (va_cons v_bl va_nil))))) va_nil)))) vb_nil)))))))))), fun ds Q hl h => ?_⟩
  obtain ⟨x, rfl, hx, k⟩ := h
  have lx := L6_len hx
  show (_ : VTS) _ [.st, .sh (.str x), .no, .no, .no]
  simp [gTake, repL_len]
  refine ite2 (fun _ => k) fun ne r r0 r1 => ite2 (fun _ => k) fun _ => ⟨by omega, by omega, by omega, by omega, ?_⟩
  have key := less_all x (mem_R6.mpr hx) ne
  obtain ⟨zs, ez, hz⟩ : ∃ zs : List Str, repL 1000 [D.str (cutS x (some 1) none), D.str (cutS x none (some ((x.length : Int) - 1))), D.str (Str.ofString "")] = txs zs ∧ ∀ z ∈ zs, L6 z = true ∧ subZ x z = false ∧ subZ z x = true := all_txs fun d hd => by
    have hd := repL_mem hd
    simp only [List.mem_cons, List.not_mem_nil, or_false] at hd
    rcases hd with rfl | rfl | rfl <;> exact ⟨_, rfl, key _ (by simp)⟩
  have lz : zs.length = 3000 := by
    have := repL_len 1000 [D.str (cutS x (some 1) none), D.str (cutS x none (some ((x.length : Int) - 1))), D.str (Str.ofString "")]
    rw [ez, txs_len] at this
    exact this
  rw [ez]
  have o1 : okQ (.lst (txs zs)) zs := ⟨.inl rfl, fun z h => (hz z h).1⟩
  have a1 : (zs.any fun y => subZ x y) = false := by
    rw [List.any_eq_false]
    intro z h
    rw [(hz z h).2.1]
    decide
  refine fCov_i hx o1 (by omega) ?_
  rw [a1]
  refine ⟨rfl, pl_b _, sz_b _, fun r r0 r1 => ?_⟩
  have r2 := most_lt r1
  refine ⟨r.toNat, ixN_in r0 (by omega), by omega, by omega, ?_⟩
  have es : (txs zs).set r.toNat (.str x) = txs (zs.set r.toNat x) := List.map_set.symm
  rw [es]
  have hw : ∀ z ∈ zs.set r.toNat x, z = x ∨ (L6 z = true ∧ subZ x z = false ∧ subZ z x = true) := fun z h => (List.mem_or_eq_of_mem_set h).elim (fun h => .inr (hz z h)) .inl
  have lw : (zs.set r.toNat x).length = 3000 := by rw [List.length_set, lz]
  have ax : (zs.set r.toNat x)[r.toNat]? = some x := by rw [List.getElem?_set_self (by omega)]
  generalize zs.set r.toNat x = w at *
  have w6 : ∀ z ∈ w, L6 z = true := fun z h => (hw z h).elim (fun e => e ▸ hx) fun h => h.1
  have o2 : okQ (.lst (txs w)) w := ⟨.inl rfl, w6⟩
  obtain ⟨s, hs1, hs2, hs3, hs4⟩ : ∃ s : Nat, (if 2600 < r then (2600 : Int) else r) = s ∧ s ≤ 2600 ∧ s ≤ r.toNat ∧ r.toNat < s + 400 := by
    split
    · exact ⟨2600, rfl, by omega, by omega, by omega⟩
    · exact ⟨r.toNat, by omega, by omega, by omega, by omega⟩
  rw [hs1]
  have ec : Bs.cutD (txs w) (some (s : Int)) (some ((s : Int) + 400)) = txs ((w.drop s).take 400) := by
    have e4 : (s : Int) + 400 = ((s + 400 : Nat) : Int) := by omega
    unfold Bs.cutD
    rw [e4, HT.sIx_nat, HT.sIx_nat, txs_len, lw, Nat.min_eq_left (by omega), Nat.min_eq_left (by omega), show s + 400 - s = 400 by omega]
    unfold txs
    rw [List.map_take, List.map_drop]
  rw [ec]
  have sb : ∀ z ∈ (w.drop s).take 400, z ∈ w := fun z h => List.drop_subset _ _ (List.take_subset _ _ h)
  have o3 : okQ (.lst (txs ((w.drop s).take 400))) ((w.drop s).take 400) := ⟨.inl rfl, fun z h => w6 z (sb z h)⟩
  have l3 : ((w.drop s).take 400).length ≤ 400 := by rw [List.length_take]; omega
  have xin : x ∈ (w.drop s).take 400 := by
    refine List.mem_of_getElem? (i := r.toNat - s) ?_
    rw [List.getElem?_take, if_pos (by omega), List.getElem?_drop, show s + (r.toNat - s) = r.toNat by omega]
    exact ax
  have t1 : topsZ ((w.drop s).take 400) = [x] := tops_one (fun z h => w6 z (sb z h)) xin (fun z h => (hw z (sb z h)).elim (fun e => e ▸ sub_refl _) fun h => h.2.2) fun z h e => (hw z (sb z h)).elim id fun h => by
    rw [h.2.1] at e
    cases e
  refine fTops_i o3 (by omega) ?_
  rw [t1]
  have a2 : (w.any fun y => subZ x y) = true := List.any_eq_true.mpr ⟨x, sb x xin, sub_refl x⟩
  refine ⟨rfl, pl_t [x], sz_t [x] (show 1 ≤ 100000 by decide), by omega, fCov_i hx o2 (by omega) ?_⟩
  rw [a2]
  exact ⟨rfl, pl_b _, sz_b _, by omega, _, rfl, k⟩
end
end K0
/-! what repr can show, by trees -/
namespace Bs
open PySem PySem.Spec PyProof.Rows L2 K0
/-- of weight B, of depth k -/
def okR (B k : Nat) (d : D) : Prop := ∃ p, pyR d = some p ∧ p.showable = true ∧ p.depth ≤ k ∧ p.leavesShort 20 = true ∧ p.weight ≤ B
theorem okRL {B k : Nat} : ∀ {l : List D}, (∀ d ∈ l, okR B k d) → ∃ ps, pyRL l = some ps ∧ PyData.showableAll ps = true ∧ PyData.depthAll ps ≤ k ∧ PyData.leavesShortAll 20 ps = true ∧ PyData.weightAll ps ≤ (B + 1) * l.length
  | [], _ => ⟨[], by unfold pyRL; rfl, by simp [PyData.showableAll], by simp [PyData.depthAll], by simp [PyData.leavesShortAll], by simp [PyData.weightAll]⟩
  | d :: l, h => by
    obtain ⟨p, e1, a1, a2, a3, a4⟩ := h d List.mem_cons_self
    obtain ⟨ps, e2, b1, b2, b3, b4⟩ := okRL (l := l) fun e he => h e (List.mem_cons_of_mem _ he)
    refine ⟨p :: ps, by unfold pyRL; rw [e1, e2], by simp [PyData.showableAll, a1, b1], by simp [PyData.depthAll]; omega, by simp [PyData.leavesShortAll, a3, b3], ?_⟩
    simp only [PyData.weightAll, List.length_cons, Nat.mul_add]
    omega
theorem okR_lst {B k : Nat} {l : List D} (h : ∀ d ∈ l, okR B k d) : okR ((B + 1) * l.length) (k + 1) (.lst l) := by
  obtain ⟨ps, e, b1, b2, b3, b4⟩ := okRL h
  exact ⟨.list ps, by unfold pyR; rw [e]; rfl, by simp [PyData.showable, b1], by simp [PyData.depth]; omega, by simp [PyData.leavesShort, b3], by simp [PyData.weight]; exact b4⟩
theorem okR_tup {B k : Nat} {l : List D} (h : ∀ d ∈ l, okR B k d) : okR ((B + 1) * l.length) (k + 1) (.tup l) := by
  obtain ⟨ps, e, b1, b2, b3, b4⟩ := okRL h
  exact ⟨.tuple ps, by unfold pyR; rw [e]; rfl, by simp [PyData.showable, b1], by simp [PyData.depth]; omega, by simp [PyData.leavesShort, b3], by simp [PyData.weight]; exact b4⟩
theorem okR.mono {B B' k k' : Nat} {d : D} (h : okR B k d) (hB : B ≤ B') (hk : k ≤ k') : okR B' k' d := by
  obtain ⟨p, e, a1, a2, a3, a4⟩ := h
  exact ⟨p, e, a1, by omega, a3, by omega⟩
/-- what repr asks of a list -/
theorem okR_go {B k : Nat} {l : List D} (h : okR B k (.lst l)) (hB : B ≤ 200000) (hk : k ≤ 40) : ∃ ps, pyRL l = some ps ∧ (PyData.list ps).showable = true ∧ (PyData.list ps).depth ≤ 40 ∧ (PyData.list ps).shown.length ≤ sizeLine := by
  obtain ⟨p, e, a1, a2, a3, a4⟩ := h
  unfold pyR at e
  cases hl : pyRL l with
  | none => rw [hl] at e; cases e
  | some ps =>
    rw [hl] at e
    cases e
    have := PyData.shown_le 20 (by omega) _ a3
    have zl : sizeLine = 16777216 := rfl
    exact ⟨ps, rfl, a1, by omega, by omega⟩
end Bs
namespace K0
open PySem PySem.Spec PyProof.Rows L2 Bs LamX
theorem okR_small {z : Str} (h : ∀ c ∈ z.cps.toList, c < 16 ^ 8) (hl : z.length ≤ 20) : okR 20 0 (.str z) := by
  refine ⟨.str z, by unfold pyR; rfl, by simp [PyData.showable], by simp [PyData.depth], ?_, hl⟩
  simp only [PyData.leavesShort, List.all_eq_true, decide_eq_true_eq]
  exact h
def okRb (d : D) : Bool := match pyR d with
  | some p => p.showable && decide (p.depth ≤ 3) && p.leavesShort 20 && decide (p.weight ≤ 100)
  | none => false
theorem okRb_ok {d : D} (h : okRb d = true) : okR 100 3 d := by
  unfold okRb at h
  split at h
  · rename_i p e
    simp only [Bool.and_eq_true, decide_eq_true_eq] at h
    exact ⟨p, e, h.1.1.1, h.1.1.2, h.1.2, h.2⟩
  · cases h
theorem ok_BL : ∀ d ∈ BL, okR 100 3 d := by
  have key : BL.all okRb = true := by decide +kernel
  exact fun d hd => okRb_ok (List.all_eq_true.mp key d hd)
theorem ok_BQ : ∀ d ∈ BQ, okR 100 3 d := by
  have key : BQ.all okRb = true := by decide +kernel
  exact fun d hd => okRb_ok (List.all_eq_true.mp key d hd)
theorem ok_6 {z : Str} (h : L6 z = true) : okR 100 3 (.str z) := (okR_small (fun c hc => by
  have key : ∀ c ∈ abcL, c < 16 ^ 8 := by decide +kernel
  exact key c (L6_sub h hc)) (by have := L6_len h; omega)).mono (by omega) (by omega)
def askb (d : D) : Bool := (tyD d).isSome && !lotD d && (match d with | .str z => decide (z.length ≤ 100) | _ => true)
theorem ask_BL : ∀ d ∈ BL, Askd d ∧ lotD d = false := by
  have key : BL.all askb = true := by decide +kernel
  intro d hd
  have h := List.all_eq_true.mp key d hd
  unfold askb at h
  rw [Bool.and_eq_true, Bool.and_eq_true] at h
  refine ⟨⟨h.1.1, fun z e => ?_⟩, by simpa using h.1.2⟩
  subst e
  have := of_decide_eq_true h.2
  omega
theorem ask_BQ : ∀ d ∈ BQ, AskQ d ∧ badQ d := by
  have key : BQ.all (fun d => (tyD d).isSome && (sqL d).isNone && (match d with | .str z => decide (z.length ≤ 100) | _ => true)) = true := by decide +kernel
  intro d hd
  have h := List.all_eq_true.mp key d hd
  rw [Bool.and_eq_true, Bool.and_eq_true] at h
  have hn := Option.isNone_iff_eq_none.mp h.1.2
  refine ⟨⟨⟨h.1.1, fun z e => ?_⟩, fun l e => ?_, fun l e => ?_⟩, .inl hn⟩
  · subst e
    have := of_decide_eq_true h.2
    omega
  · rw [hn] at e
    cases e
  · rw [hn] at e
    cases e
theorem iteT {c : Prop} [Decidable c] {A B : Prop} (h : c) (a : A) : if c then A else B := by
  rw [if_pos h]
  exact a
/-- a sequence with a bad one in it -/
theorem ask_seq {t : D} {L : List D} (ht : sqOf L t) (hl : L.length ≤ 200) (ha : ∀ u ∈ L, Askd u) (hb : ∃ u ∈ L, lotD u = false) : AskQ t ∧ badQ t := by
  have sq : sqL t = some L := by rcases ht with rfl | rfl <;> rfl
  refine ⟨⟨⟨by rcases ht with rfl | rfl <;> rfl, fun z e => by rcases ht with rfl | rfl <;> cases e⟩, fun m hm => ?_, fun m hm u hu => ?_⟩, .inr ⟨L, sq, hb⟩⟩
  · rw [sq] at hm; cases hm; omega
  · rw [sq] at hm; cases hm; exact ha u hu
theorem spl_mem {l : List D} {d u : D} {k : Nat} (h : u ∈ l.take k ++ d :: l.drop k) : u = d ∨ u ∈ l := by
  rcases List.mem_append.mp h with h | h
  · exact .inr (List.mem_of_mem_take h)
  · rcases List.mem_cons.mp h with h | h
    · exact .inl h
    · exact .inr (List.mem_of_mem_drop h)
theorem ask_spoil {l : List Str} {b t : D} (h : spoil l b t) (hl : l.length ≤ 100) (h6 : ∀ z ∈ l, L6 z = true) (hb : b ∈ BL) : AskQ t ∧ badQ t := by
  obtain ⟨i, hi, ht⟩ := h
  have ab := ask_BL b hb
  refine ask_seq ht ?_ (fun u hu => ?_) ⟨b, by simp, ab.2⟩
  · rw [List.length_append, List.length_cons, List.length_take, List.length_drop, txs_len]; omega
  · rcases spl_mem hu with rfl | hu
    · exact ab.1
    · obtain ⟨v, hv, rfl⟩ := List.mem_map.mp hu
      exact askd6 (h6 v hv)
theorem ok_seq {t : D} {L : List D} (ht : sqOf L t) (hl : L.length ≤ 100) (ha : ∀ u ∈ L, okR 100 3 u) : okR 10100 4 t := by
  have big : 101 * L.length ≤ 10100 := by omega
  rcases ht with rfl | rfl
  · exact (okR_lst ha).mono big (by omega)
  · exact (okR_tup ha).mono big (by omega)
theorem ok_txs {l : List Str} (h : ∀ z ∈ l, L6 z = true) : ∀ u ∈ txs l, okR 100 3 u := fun u hu => by
  obtain ⟨v, hv, rfl⟩ := List.mem_map.mp hu
  exact ok_6 (h v hv)
theorem ok_spoil {l : List Str} {b t : D} (h : spoil l b t) (hl : l.length ≤ 90) (h6 : ∀ z ∈ l, L6 z = true) (hb : b ∈ BL) : okR 10100 4 t := by
  obtain ⟨i, hi, ht⟩ := h
  refine ok_seq ht ?_ (fun u hu => ?_)
  · rw [List.length_append, List.length_cons, List.length_take, List.length_drop, txs_len]; omega
  · rcases spl_mem hu with rfl | hu
    · exact ok_BL _ hb
    · exact ok_txs h6 u hu
abbrev s_law : Stmt := top 68
theorem sc_law : FnScope ["script", "store", "pair", "ones", "twos", "bads", "spoilt", "one", "two", "kept", "row"] ["script"] (defScope s_law) := ⟨rfl, rfl, rfl, by decide +kernel, rfl, by decide +kernel, by decide +kernel⟩
section
variable {P : Program} {w : World} {K : PySem.W.Frag} {mg : Str → Option Value} {base : Heap} {W : Wd}
theorem v_law_rest {a c f : Addr} {cdv : Value} {Ar : Around} {outer : List Env} {s : Shared} {H : Hp} {E : XK} {A : Am} {TL : List (Addr × Str)} (T : Txt K mg) (hW : W.K = K) (hA : A.W = W) (sA : StAm A a c) (M : MkAm A TL) (dm : DmAm A a c TL)
    (hr : Room 10 (Ar.deeper (envOfC "law" (defScope s_law) s.heap.objs.size f cdv))) (hgd : (Ar.deeper (envOfC "law" (defScope s_law) s.heap.objs.size f cdv)).guards = some []) (hsy : ∃ o, base.get? sysModules = some o)
    (G_drawn : FnDM P w K mg base 7 "_law_drawn" ["store"] W TL gDrawn)
    (G_tops_asked : FnM P w K mg base 10 "_law_tops_asked" ["lots", "pair"] W TL gTopsA)
    (G_pair_asked : FnM P w K mg base 10 "_law_pair_asked" ["one", "two"] W TL gPair)
    (G_two_asked : FnM P w K mg base 10 "_law_two_asked" ["ones", "twos"] W TL gTwoA)
    (G_lot_refusals : FnM P w K mg base 10 "_law_lot_refusals" ["lot", "bad"] W TL gLotR)
    (G_row_refusals : FnM P w K mg base 10 "_law_row_refusals" ["lot", "lots", "bad"] W TL gRowR)
    (G_long_asked : FnDM P w K mg base 10 "_law_long_asked" ["store", "lot"] W TL gLong) :
    ∃ τ, VSs (cxOf CX0 P w K mg base ["script", "store", "pair", "ones", "twos", "bads", "spoilt", "one", "two", "kept", "row"] "law" (defScope s_law) f cdv Ar outer s H E).nox A EN (defBody s_law).tail τ ∧ ∀ Q : D → Prop, Q (.bl true) → τ { nx := fun _ => Q .non, rt := Q, ex := fun _ => False } [.no, .st, .no, .no, .no, .no, .no, .no, .no, .no, .no] := by
  have sc := sc_law
  let st := s_law
  let N : List Str := ["script", "store", "pair", "ones", "twos", "bads", "spoilt", "one", "two", "kept", "row"]
  have hK : A.W.K = K := by rw [hA]; exact hW
  have hun : (Ar.deeper (envOfC "law" (defScope s_law) s.heap.objs.size f cdv)).units + 50 < cLine := by have := hr.units; omega
  have zl : sizeLine = 16777216 := rfl
  obtain ⟨τ4, v4, h4⟩ : ∃ τ, VSs (cxOf CX0 P w K mg base ["script", "store", "pair", "ones", "twos", "bads", "spoilt", "one", "two", "kept", "row"] "law" (defScope s_law) f cdv Ar outer s H E).nox A EN ((defBody s_law).drop 2) τ ∧ ∀ (Q : D → Prop) (x y : Str) (l1 l2 : List Str) (t1 t2 b bq s1 s2 : D), Q (.bl true) → L6 x = true → L6 y = true → okQ t1 l1 → l1.length ≤ 80 → okQ t2 l2 → l2.length ≤ 80 →
      Askd b → lotD b = false → AskQ bq → badQ bq → AskQ s1 → badQ s1 → AskQ s2 → badQ s2 → okR 200000 10 (.lst [t1, t2, .lst [b, bq], .lst [s1, s2]]) →
      τ { nx := fun _ => Q .non, rt := Q, ex := fun _ => False } [.no, .st, .sh (.lst [.str x, .str y]), .sh t1, .sh t2, .sh (.lst [b, bq]), .sh (.lst [s1, s2]), .no, .no, .no, .no] := by
    refine ⟨_, (vss_cons (vs_asg (v_nm 2) (vg_tup hK (n := 2) rfl (vgs_cons (vg_name (i := 7) sc.nd rfl (Or.inl rfl)) (vgs_cons (vg_name (i := 8) sc.nd rfl (Or.inl rfl)) vgs_nil))))
      (vss_cons (vs_set (i := 9) sc.nd rfl (Or.inl rfl) (v_callB (w_repr hK hgd hun hsy) (by rfl) T.repr boot_repr (vb_cons (v_lst (va_cons (v_nm 3) (va_cons (v_nm 4) (va_cons (v_nm 5) (va_cons (v_nm 6) va_nil))))).vr vb_nil)))
      (vss_cons (vs_if (VW.vt (vw_or (vt_not (vt hK (v_fnM M G_pair_asked hA (hr.mono (by decide)) (by rfl) (va_cons (v_nm 7) (va_cons (v_nm 8) va_nil))).vr)) (vw_or (vt_not (vt hK (v_fnM M G_pair_asked hA (hr.mono (by decide)) (by rfl) (va_cons (v_nm 8) (va_cons (v_nm 7) va_nil))).vr)) (vw_or1 (vt_not (vt hK (v_fnM M G_pair_asked hA (hr.mono (by decide)) (by rfl) (va_cons (v_nm 7) (va_cons (v_nm 7) va_nil))).vr)))))) (vss_one (vs_ret v_bl)) vss_nil)
      (vss_cons (vs_if (VW.vt (vw_or (vt_not (vt hK (v_fnM M G_tops_asked hA (hr.mono (by decide)) (by rfl) (va_cons (v_nm 3) (va_cons (v_nm 2) va_nil))).vr)) (vw_or1 (vt_not (vt hK (v_fnM M G_tops_asked hA (hr.mono (by decide)) (by rfl) (va_cons (v_nm 4) (va_cons (v_nm 2) va_nil))).vr))))) (vss_one (vs_ret v_bl)) vss_nil)
      (vss_cons (vs_if (VW.vt (vw_or (vt_not (vt hK (v_fnM M G_two_asked hA (hr.mono (by decide)) (by rfl) (va_cons (v_nm 3) (va_cons (v_nm 4) va_nil))).vr)) (vw_or1 (vt_not (vt hK (v_fnM M G_two_asked hA (hr.mono (by decide)) (by rfl) (va_cons (v_nm 4) (va_cons (v_nm 3) va_nil))).vr))))) (vss_one (vs_ret v_bl)) vss_nil)
      (vss_cons (vs_if (VW.vt (vw_or (vt_not (vt hK (v_fnM M G_lot_refusals hA (hr.mono (by decide)) (by rfl) (va_cons (v_nm 7) (va_cons (v_ix hK (v_nr 5) v_int.vr (fun _ _ => rfl)) va_nil))).vr)) (vw_or1 (vt_not (vt hK (v_fnM M G_row_refusals hA (hr.mono (by decide)) (by rfl) (va_cons (v_nm 7) (va_cons (v_nm 3) (va_cons (v_ix hK (v_nr 5) v_int.vr (fun _ _ => rfl)) va_nil)))).vr))))) (vss_one (vs_ret v_bl)) vss_nil)
      (vss_cons (vs_for PassesOwn.never rfl (vi hK (v_op (w_add hK) (v_nr 6) (v_lst (va_cons (v_lst (va_cons (v_nm 7) (va_cons (v_ix hK (v_nr 5) v_int.vr (fun _ _ => rfl)) va_nil))) va_nil)).vr)) (vg_name (i := 10) sc.nd rfl (Or.inl rfl)) (vss_one (vs_if (vt_not (vt hK (v_fnM M G_row_refusals hA (hr.mono (by decide)) (by rfl) (va_cons (v_nm 7) (va_cons (v_sl hK (v_nr 4) vo_none (vo v_int.vr)) (va_cons (v_nm 10) va_nil)))).vr)) (vss_one (vs_ret v_bl)) vss_nil)))
      (vss_cons (vs_if (VW.vt (vw_or (vt_cmp (w_ne hK hr) (v_callB (w_repr hK hgd hun hsy) (by rfl) T.repr boot_repr (vb_cons (v_lst (va_cons (v_nm 3) (va_cons (v_nm 4) (va_cons (v_nm 5) (va_cons (v_nm 6) va_nil))))).vr vb_nil)).vr (v_nr 9) (nomark _)) (vw_or1 (vt_not (vt hK (v_drawM dm 1 G_long_asked hA (hr.mono (by decide)) (by rfl) (va_cons (v_nm 7) va_nil)).vr))))) (vss_one (vs_ret v_bl)) vss_nil)
      (vss_one (vs_ret (v_And hK (v_fnM M G_tops_asked hA (hr.mono (by decide)) (by rfl) (va_cons (v_nm 3) (va_cons (v_nm 2) va_nil))) (v_One (v_fnM M G_pair_asked hA (hr.mono (by decide)) (by rfl) (va_cons (v_nm 7) (va_cons (v_nm 8) va_nil))))))))))))))), fun Q x y l1 l2 t1 t2 b bq s1 s2 hq hx hy ht1 n1 ht2 n2 ab nb aq nq as1 ns1 as2 ns2 hok => ?_⟩
    obtain ⟨ps, p1, p2, p3, p4⟩ := okR_go hok (by omega) (by omega)
    have hpa : ∀ (u v : Str) (R : D → Prop), L6 u = true → L6 v = true → R (.bl true) → gPair [.str u, .str v] R := fun u v R hu hv k => ⟨u, v, rfl, hu, hv, k⟩
    have hta : ∀ (t : D) (l : List Str) (R : D → Prop), okQ t l → l.length ≤ 80 → R (.bl true) → gTopsA [t, .lst [.str x, .str y]] R := fun t l R ht hl k => ⟨t, l, x, y, rfl, ht, by omega, hx, hy, k⟩
    have htw : ∀ (t u : D) (l m : List Str) (R : D → Prop), okQ t l → okQ u m → l.length ≤ 80 → m.length ≤ 80 → R (.bl true) → gTwoA [t, u] R := fun t u l m R ht hu hl hm k => ⟨t, u, l, m, rfl, ht, hu, by omega, by omega, k⟩
    have hlr : ∀ R : D → Prop, R (.bl true) → gLotR [.str x, b] R := fun R k => ⟨x, b, rfl, hx, ab, nb, k⟩
    have hrr : ∀ (t q : D) (l : List Str) (R : D → Prop), okQ t l → l.length ≤ 80 → AskQ q → badQ q → R (.bl true) → gRowR [.str x, t, q] R := fun t q l R ht hl h1 h2 k => ⟨x, t, q, l, rfl, hx, ht, by omega, h1, h2, k⟩
    have hlo : ∀ R : D → Prop, R (.bl true) → gLong [.str x] R := fun R k => ⟨x, rfl, hx, k⟩
    have o12 : okQ (.lst (txs (l2.take 12))) (l2.take 12) ∧ okQ (.tup (txs (l2.take 12))) (l2.take 12) := ⟨⟨.inl rfl, fun z h => ht2.2 z (List.take_subset _ _ h)⟩, ⟨.inr rfl, fun z h => ht2.2 z (List.take_subset _ _ h)⟩⟩
    have n12 : (l2.take 12).length ≤ 80 := by rw [List.length_take]; omega
    have a3 : AskQ (.lst [.str x, b]) ∧ badQ (.lst [.str x, b]) := ask_seq (.inl rfl) (show 2 ≤ 200 by decide) (fun u hu => by
      simp only [List.mem_cons, List.not_mem_nil, or_false] at hu
      rcases hu with rfl | rfl
      · exact askd6 hx
      · exact ab) ⟨b, by simp, nb⟩
    rcases ht2.1 with e2 | e2
    all_goals
      have hT2 := ht2
      rw [e2] at hT2 hok p1 ⊢
      clear e2
      simp
      refine ⟨by omega, ps, p1, p2, p3, p4, hpa x y _ hx hy (iteT rfl (hpa y x _ hy hx (iteT rfl (hpa x x _ hx hx (iteT rfl (hta t1 l1 _ ht1 n1 (iteT rfl (hta _ l2 _ hT2 n2 (iteT rfl (htw t1 _ l1 l2 _ ht1 hT2 n1 n2 (iteT rfl (htw _ t1 l2 l1 _ hT2 ht1 n2 n1 (iteT rfl (hlr _ (iteT rfl (hrr t1 bq l1 _ ht1 n1 aq nq (iteT rfl ⟨by omega, by omega, by omega, ?_⟩)))))))))))))))))⟩
      refine forV_ind (fun rest env => (∀ q ∈ rest, AskQ q ∧ badQ q) ∧ ∃ s : Sl, env = [.no, .st, .sh (.lst [.str x, .str y]), .sh t1, .sh _, .sh (.lst [b, bq]), .sh (.lst [s1, s2]), .sh (.str x), .sh (.str y), .sh (.str (PyData.list ps).shown), s]) ?_ ?_ _ _ ⟨fun q hq => ?_, _, rfl⟩
      · rintro d rest env N ⟨h1, s, rfl⟩ hN
        have hd := h1 d List.mem_cons_self
        simp
        rw [show (12 : Int) = ((12 : Nat) : Int) from rfl, cut_tx]
        refine hrr _ d (l2.take 12) _ (by first | exact o12.1 | exact o12.2) n12 hd.1 hd.2 (iteT rfl (hN _ ⟨fun q hq => h1 q (List.mem_cons_of_mem _ hq), _, rfl⟩))
      · rintro env ⟨_, s, rfl⟩
        simp
        exact ⟨by omega, ps, p1, p2, p3, p4, iteT rfl (hlo _ (iteT rfl (hta t1 l1 _ ht1 n1 (iteT rfl (hpa x y _ hx hy hq)))))⟩
      · simp only [List.mem_cons, List.not_mem_nil, or_false] at hq
        rcases hq with rfl | rfl | rfl
        · exact ⟨as1, ns1⟩
        · exact ⟨as2, ns2⟩
        · exact a3
  refine ⟨_, (vss_cons (vs_asg (v_drawM dm 1 G_drawn hA (hr.mono (by decide)) (by rfl) va_nil) (vg_tup hK (n := 5) rfl (vgs_cons (vg_name (i := 2) sc.nd rfl (Or.inl rfl)) (vgs_cons (vg_name (i := 3) sc.nd rfl (Or.inl rfl)) (vgs_cons (vg_name (i := 4) sc.nd rfl (Or.inl rfl)) (vgs_cons (vg_name (i := 5) sc.nd rfl (Or.inl rfl)) (vgs_cons (vg_name (i := 6) sc.nd rfl (Or.inl rfl)) vgs_nil)))))))
      v4), fun Q hq => ?_⟩
  simp [gDrawn]
  intro x y l1 l2 t1 t2 b bq s1 s2 hx hy h1 n1 h2 n2 e1 e2 hb hbq p1 p2
  have ab := ask_BL b hb
  have aq := ask_BQ bq hbq
  have as1 := ask_spoil p1 (by omega) h1 hb
  have as2 := ask_spoil p2 (by omega) h2 hb
  refine h4 Q x y l1 l2 t1 t2 b bq s1 s2 hq hx hy ⟨e1, h1⟩ n1 ⟨e2, h2⟩ n2 ab.1 ab.2 aq.1 aq.2 as1.1 as1.2 as2.1 as2.2 ?_
  have o1 : okR 20300 5 t1 := (ok_seq e1 (by rw [txs_len]; omega) (ok_txs h1)).mono (by omega) (by omega)
  have o2 : okR 20300 5 t2 := (ok_seq e2 (by rw [txs_len]; omega) (ok_txs h2)).mono (by omega) (by omega)
  have o3 : okR 20300 5 (.lst [b, bq]) := (okR_lst (B := 100) (k := 3) (by
    intro e he
    simp only [List.mem_cons, List.not_mem_nil, or_false] at he
    rcases he with rfl | rfl
    · exact ok_BL _ hb
    · exact ok_BQ _ hbq)).mono (show (100 + 1) * 2 ≤ 20300 by omega) (by omega)
  have o4 : okR 20300 5 (.lst [s1, s2]) := (okR_lst (B := 10100) (k := 4) (by
    intro e he
    simp only [List.mem_cons, List.not_mem_nil, or_false] at he
    rcases he with rfl | rfl
    · exact ok_spoil p1 (by omega) h1 hb
    · exact ok_spoil p2 (by omega) h2 hb)).mono (show (10100 + 1) * 2 ≤ 20300 by omega) (by omega)
  refine (okR_lst (B := 20300) (k := 5) ?_).mono (show (20300 + 1) * 4 ≤ 200000 by omega) (by omega)
  intro e he
  simp only [List.mem_cons, List.not_mem_nil, or_false] at he
  rcases he with rfl | rfl | rfl | rfl
  · exact o1
  · exact o2
  · exact o3
  · exact o4
end
end K0
namespace K0
open PySem PySem.Spec PyProof.Rows L2 Bs LamX
def WdOf (K : PySem.W.Frag) (P : Program) (w : World) (l : List (Str × Addr)) : Wd := ⟨K, P, w, fun c => l.lookup c⟩
theorem vals_at : ∀ {zs : List V} {ws : List Value} {i : Nat} {v : V}, Vals zs ws → zs[i]? = some v → ∃ u, ws[i]? = some u ∧ RelV v u
  | _, _, _, _, .nil, e => by simp at e
  | _, _, 0, _, .cons r _, e => by simp at e; subst e; exact ⟨_, rfl, r⟩
  | _, _, i + 1, _, .cons _ t, e => by
    obtain ⟨u, h1, h2⟩ := vals_at (i := i) t (by simpa using e)
    exact ⟨u, by simpa using h1, h2⟩
theorem lookup_mem {l : List (Str × Addr)} {c : Str} {a : Addr} (h : l.lookup c = some a) : (c, a) ∈ l := by
  induction l with
  | nil => cases h
  | cons p l ih =>
    obtain ⟨x, y⟩ := p
    rw [List.lookup_cons] at h
    split at h
    · rename_i e
      cases h
      rw [beq_iff_eq.mp e]; exact List.mem_cons_self
    · exact List.mem_cons_of_mem _ (ih h)
theorem errT_of {K : PySem.W.Frag} {P : Program} {w : World} {ea : ErrA} {l : List (Str × Addr)} (h : ∀ p ∈ l, ErrK K ea p.2 p.1) : ErrT K (WdOf K P w l) ea := fun c _ a e => h _ (lookup_mem e)
theorem vals_perm {zs : List V} {ws : List Value} : ∀ (idx : List Nat), Vals zs ws → Vals (permL idx zs) (permL idx ws)
  | [], _ => .nil
  | i :: idx, r => by
    have t := vals_perm idx r
    unfold permL at t ⊢
    rw [List.filterMap_cons, List.filterMap_cons]
    cases e : zs[i]? with
    | none =>
      have : ws[i]? = none := by
        rw [List.getElem?_eq_none_iff] at e ⊢
        rw [← r.length]; exact e
      rw [this]; exact t
    | some v =>
      obtain ⟨u, e2, r2⟩ := vals_at r e
      rw [e2]; exact .cons r2 t
theorem rep_at {W : Wd} {S : Addr → Prop} {H : Hp} : ∀ {xs : List V} {ds : List D} {i : Nat}, RepL W S H xs ds → (xs[i]? = none ∧ ds[i]? = none) ∨ ∃ v d, xs[i]? = some v ∧ ds[i]? = some d ∧ Rep W S H v d
  | _, _, _, .nil => .inl ⟨rfl, rfl⟩
  | _, _, 0, .cons r _ => .inr ⟨_, _, rfl, rfl, r⟩
  | _, _, i + 1, .cons _ t => by
    rcases rep_at (i := i) t with ⟨h1, h2⟩ | ⟨v, d, h1, h2, r⟩
    · exact .inl ⟨by simpa using h1, by simpa using h2⟩
    · exact .inr ⟨v, d, by simpa using h1, by simpa using h2, r⟩
theorem rep_perm {W : Wd} {S : Addr → Prop} {H : Hp} {xs : List V} {ds : List D} (r : RepL W S H xs ds) : ∀ idx : List Nat, RepL W S H (permL idx xs) (permL idx ds)
  | [] => .nil
  | i :: idx => by
    have t := rep_perm r idx
    unfold permL at t ⊢
    rw [List.filterMap_cons, List.filterMap_cons]
    rcases rep_at (i := i) r with ⟨h1, h2⟩ | ⟨v, d, h1, h2, r1⟩
    · rw [h1, h2]; exact t
    · rw [h1, h2]; exact .cons r1 t
theorem tl_at {H : Hp} {cs : List (Addr × Addr)} {TL : List (Addr × Str)} (e : TL.map (·.1) = cs.map (·.2)) (h : ∀ p ∈ cs, H p.2 = some (.tbl #[])) : ∀ p ∈ TL, H p.1 = some (.tbl #[]) := fun p hp => by
  have m : p.1 ∈ cs.map (·.2) := e ▸ List.mem_map_of_mem hp
  obtain ⟨q, hq, eq⟩ := List.mem_map.mp m
  rw [← eq]; exact h q hq
set_option maxHeartbeats 40000000 in
theorem all_mk {P : Program} {w : World} {K : PySem.W.Frag} {h : Heap} {mg : Str → Option Value} (X : K.In h) (G : h.Ns mainGlobals mg)
    {fis : Addr} {odis anis : Option Addr} {slis : Array (Option Value)} {ocis dcis pmis ctis : Value} {cdis : Value} {kVis : Value}
    {ftold : Addr} {odtold antold : Option Addr} {sltold : Array (Option Value)} {octold dctold pmtold cttold : Value} {cdtold : Value} {kVtold : Value}
    {fmix : Addr} {odmix anmix : Option Addr} {slmix : Array (Option Value)} {ocmix dcmix pmmix ctmix : Value} {cdmix : Value} {kVmix : Value}
    {fopen : Addr} {odopen anopen : Option Addr} {slopen : Array (Option Value)} {ocopen dcopen pmopen ctopen : Value} {cdopen : Value} {kVopen : Value}
    {ftake : Addr} {odtake antake : Option Addr} {sltake : Array (Option Value)} {octake dctake pmtake cttake : Value} {cdtake : Value} {kVtake : Value}
    {fstore : Addr} {odstore anstore : Option Addr} {slstore : Array (Option Value)} {ocstore dcstore pmstore ctstore : Value} {cdstore : Value} {kVstore : Value}
    {fsame : Addr} {odsame ansame : Option Addr} {slsame : Array (Option Value)} {ocsame dcsame pmsame ctsame : Value} {cdsame : Value} {kVsame : Value}
    {fslots_below : Addr} {odslots_below anslots_below : Option Addr} {slslots_below : Array (Option Value)} {ocslots_below dcslots_below pmslots_below ctslots_below : Value} {cdslots_below : Value} {kVslots_below : Value}
    {fcheck_lot : Addr} {odcheck_lot ancheck_lot : Option Addr} {slcheck_lot : Array (Option Value)} {occheck_lot dccheck_lot pmcheck_lot ctcheck_lot : Value} {cdcheck_lot : Value} {Dcheck_lot : Addr} {ocheck_lot : Obj} {ncheck_lot : Nat} {kVcheck_lot : Value} {tkcheck_lot0 : Tok}
    {fcheck_lots : Addr} {odcheck_lots ancheck_lots : Option Addr} {slcheck_lots : Array (Option Value)} {occheck_lots dccheck_lots pmcheck_lots ctcheck_lots : Value} {cdcheck_lots : Value} {kVcheck_lots : Value}
    {fin_order : Addr} {odin_order anin_order : Option Addr} {slin_order : Array (Option Value)} {ocin_order dcin_order pmin_order ctin_order : Value} {cdin_order : Value} {kVin_order : Value}
    {fis_within : Addr} {odis_within anis_within : Option Addr} {slis_within : Array (Option Value)} {ocis_within dcis_within pmis_within ctis_within : Value} {cdis_within : Value} {kVis_within : Value}
    {funion : Addr} {odunion anunion : Option Addr} {slunion : Array (Option Value)} {ocunion dcunion pmunion ctunion : Value} {cdunion : Value} {kVunion : Value}
    {fshared : Addr} {odshared anshared : Option Addr} {slshared : Array (Option Value)} {ocshared dcshared pmshared ctshared : Value} {cdshared : Value} {kVshared : Value}
    {fcommon : Addr} {odcommon ancommon : Option Addr} {slcommon : Array (Option Value)} {occommon dccommon pmcommon ctcommon : Value} {cdcommon : Value} {kVcommon : Value}
    {fminus : Addr} {odminus anminus : Option Addr} {slminus : Array (Option Value)} {ocminus dcminus pmminus ctminus : Value} {cdminus : Value} {kVminus : Value}
    {flies_in : Addr} {odlies_in anlies_in : Option Addr} {sllies_in : Array (Option Value)} {oclies_in dclies_in pmlies_in ctlies_in : Value} {cdlies_in : Value} {kVlies_in : Value}
    {fgreatest : Addr} {odgreatest angreatest : Option Addr} {slgreatest : Array (Option Value)} {ocgreatest dcgreatest pmgreatest ctgreatest : Value} {cdgreatest : Value} {kVgreatest : Value}
    {ftops : Addr} {odtops antops : Option Addr} {sltops : Array (Option Value)} {octops dctops pmtops cttops : Value} {cdtops : Value} {kVtops : Value}
    {fjoined : Addr} {odjoined anjoined : Option Addr} {sljoined : Array (Option Value)} {ocjoined dcjoined pmjoined ctjoined : Value} {cdjoined : Value} {kVjoined : Value}
    {fis_covered : Addr} {odis_covered anis_covered : Option Addr} {slis_covered : Array (Option Value)} {ocis_covered dcis_covered pmis_covered ctis_covered : Value} {cdis_covered : Value} {kVis_covered : Value}
    {fmet : Addr} {odmet anmet : Option Addr} {slmet : Array (Option Value)} {ocmet dcmet pmmet ctmet : Value} {cdmet : Value} {kVmet : Value}
    {fpick : Addr} {odpick anpick : Option Addr} {slpick : Array (Option Value)} {ocpick dcpick pmpick ctpick : Value} {cdpick : Value} {kVpick : Value}
    {fshuffled : Addr} {odshuffled anshuffled : Option Addr} {slshuffled : Array (Option Value)} {ocshuffled dcshuffled pmshuffled ctshuffled : Value} {cdshuffled : Value} {kVshuffled : Value}
    {fdoubled : Addr} {oddoubled andoubled : Option Addr} {sldoubled : Array (Option Value)} {ocdoubled dcdoubled pmdoubled ctdoubled : Value} {cddoubled : Value} {kVdoubled : Value}
    {fsequence : Addr} {odsequence ansequence : Option Addr} {slsequence : Array (Option Value)} {ocsequence dcsequence pmsequence ctsequence : Value} {cdsequence : Value} {kVsequence : Value}
    {finserted : Addr} {odinserted aninserted : Option Addr} {slinserted : Array (Option Value)} {ocinserted dcinserted pminserted ctinserted : Value} {cdinserted : Value} {kVinserted : Value}
    {fno : Addr} {odno anno : Option Addr} {slno : Array (Option Value)} {ocno dcno pmno ctno : Value} {cdno : Value} {kVno : Value}
    {fbad_sequence : Addr} {odbad_sequence anbad_sequence : Option Addr} {slbad_sequence : Array (Option Value)} {ocbad_sequence dcbad_sequence pmbad_sequence ctbad_sequence : Value} {cdbad_sequence : Value} {kVbad_sequence : Value}
    {fcount : Addr} {odcount ancount : Option Addr} {slcount : Array (Option Value)} {occount dccount pmcount ctcount : Value} {cdcount : Value} {kVcount : Value}
    {flot : Addr} {odlot anlot : Option Addr} {sllot : Array (Option Value)} {oclot dclot pmlot ctlot : Value} {cdlot : Value} {kVlot : Value}
    {flots : Addr} {odlots anlots : Option Addr} {sllots : Array (Option Value)} {oclots dclots pmlots ctlots : Value} {cdlots : Value} {kVlots : Value}
    {fbad_lot : Addr} {odbad_lot anbad_lot : Option Addr} {slbad_lot : Array (Option Value)} {ocbad_lot dcbad_lot pmbad_lot ctbad_lot : Value} {cdbad_lot : Value} {kVbad_lot : Value}
    {flies : Addr} {odlies anlies : Option Addr} {sllies : Array (Option Value)} {oclies dclies pmlies ctlies : Value} {cdlies : Value} {kVlies : Value}
    {fordered : Addr} {odordered anordered : Option Addr} {slordered : Array (Option Value)} {ocordered dcordered pmordered ctordered : Value} {Cordered Pordered : Addr} {kVordered : Value}
    {fLtops : Addr} {odLtops anLtops : Option Addr} {slLtops : Array (Option Value)} {ocLtops dcLtops pmLtops ctLtops : Value} {CLtops : Addr} {kVLtops : Value}
    {fevery_lot : Addr} {odevery_lot anevery_lot : Option Addr} {slevery_lot : Array (Option Value)} {ocevery_lot dcevery_lot pmevery_lot ctevery_lot : Value} {Cevery_lot : Addr} {kVevery_lot : Value}
    {fgroup : Addr} {odgroup angroup : Option Addr} {slgroup : Array (Option Value)} {ocgroup dcgroup pmgroup ctgroup : Value} {Cgroup : Addr} {kVgroup : Value}
    {fdrawn : Addr} {oddrawn andrawn : Option Addr} {sldrawn : Array (Option Value)} {ocdrawn dcdrawn pmdrawn ctdrawn : Value} {Cdrawn : Addr} {kVdrawn : Value}
    {fcovered : Addr} {odcovered ancovered : Option Addr} {slcovered : Array (Option Value)} {occovered dccovered pmcovered ctcovered : Value} {cdcovered : Value} {kVcovered : Value}
    {fmeeting : Addr} {odmeeting anmeeting : Option Addr} {slmeeting : Array (Option Value)} {ocmeeting dcmeeting pmmeeting ctmeeting : Value} {Cmeeting : Addr} {kVmeeting : Value}
    {fpair_asked : Addr} {odpair_asked anpair_asked : Option Addr} {slpair_asked : Array (Option Value)} {ocpair_asked dcpair_asked pmpair_asked ctpair_asked : Value} {Cpair_asked Ppair_asked : Addr} {kVpair_asked : Value}
    {ftops_asked : Addr} {odtops_asked antops_asked : Option Addr} {sltops_asked : Array (Option Value)} {octops_asked dctops_asked pmtops_asked cttops_asked : Value} {Ctops_asked Ptops_asked : Addr} {kVtops_asked : Value}
    {ftwo_asked : Addr} {odtwo_asked antwo_asked : Option Addr} {sltwo_asked : Array (Option Value)} {octwo_asked dctwo_asked pmtwo_asked cttwo_asked : Value} {Ctwo_asked Ptwo_asked : Addr} {kVtwo_asked : Value}
    {flot_refusals : Addr} {odlot_refusals anlot_refusals : Option Addr} {sllot_refusals : Array (Option Value)} {oclot_refusals dclot_refusals pmlot_refusals ctlot_refusals : Value} {Clot_refusals Plot_refusals : Addr} {kVlot_refusals : Value}
    {frow_refusals : Addr} {odrow_refusals anrow_refusals : Option Addr} {slrow_refusals : Array (Option Value)} {ocrow_refusals dcrow_refusals pmrow_refusals ctrow_refusals : Value} {Crow_refusals Prow_refusals : Addr} {kVrow_refusals : Value}
    {flong_asked : Addr} {odlong_asked anlong_asked : Option Addr} {sllong_asked : Array (Option Value)} {oclong_asked dclong_asked pmlong_asked ctlong_asked : Value} {Clong_asked Plong_asked : Addr} {kVlong_asked : Value}
    {flaw : Addr} {odlaw anlaw : Option Addr} {sllaw : Array (Option Value)} {oclaw dclaw pmlaw ctlaw : Value} {cdlaw : Value} {kVlaw : Value}
    {yRefused yBadWord yBadLot yBadTerm yBadStep yBadShape yBadPlace yBadNumber yBadFilling yBadPlan yBadTarget yBadPaper yBadCall yNotAllowed yBadText yBadStack yTooMany : Addr}
    {tALL_SLOTS : Tok}
    (ais : PySem.W.nsIn K mainGlobals "_law_is" = some (some (.ref fis)))
    (lis : K.lookup fis = some ⟨ocis, odis, .func (PySem.W.fnOf "_law_is" "_law_is" (defArgs s_is) (defBody s_is) (defScope s_is) .none kVis dcis pmis anis cdis ctis), slis⟩)
    (cis : PySem.W.codeIn K cdis "_law_is" = true)
    (kis : PySem.W.keepIn K (.ref fis) = true)
    (atold : PySem.W.nsIn K mainGlobals "_law_told" = some (some (.ref ftold)))
    (ltold : K.lookup ftold = some ⟨octold, odtold, .func (PySem.W.fnOf "_law_told" "_law_told" (defArgs s_told) (defBody s_told) (defScope s_told) .none kVtold dctold pmtold antold cdtold cttold), sltold⟩)
    (ctold : PySem.W.codeIn K cdtold "_law_told" = true)
    (ktold : PySem.W.keepIn K (.ref ftold) = true)
    (amix : PySem.W.nsIn K mainGlobals "_law_mix" = some (some (.ref fmix)))
    (lmix : K.lookup fmix = some ⟨ocmix, odmix, .func (PySem.W.fnOf "_law_mix" "_law_mix" (defArgs s_mix) (defBody s_mix) (defScope s_mix) .none kVmix dcmix pmmix anmix cdmix ctmix), slmix⟩)
    (cmix : PySem.W.codeIn K cdmix "_law_mix" = true)
    (kmix : PySem.W.keepIn K (.ref fmix) = true)
    (aopen : PySem.W.nsIn K mainGlobals "_law_open" = some (some (.ref fopen)))
    (lopen : K.lookup fopen = some ⟨ocopen, odopen, .func (PySem.W.fnOf "_law_open" "_law_open" (defArgs s_open) (defBody s_open) (defScope s_open) .none kVopen dcopen pmopen anopen cdopen ctopen), slopen⟩)
    (copen : PySem.W.codeIn K cdopen "_law_open" = true)
    (kopen : PySem.W.keepIn K (.ref fopen) = true)
    (atake : PySem.W.nsIn K mainGlobals "_law_take" = some (some (.ref ftake)))
    (ltake : K.lookup ftake = some ⟨octake, odtake, .func (PySem.W.fnOf "_law_take" "_law_take" (defArgs s_take) (defBody s_take) (defScope s_take) .none kVtake dctake pmtake antake cdtake cttake), sltake⟩)
    (ctake : PySem.W.codeIn K cdtake "_law_take" = true)
    (ktake : PySem.W.keepIn K (.ref ftake) = true)
    (astore : PySem.W.nsIn K mainGlobals "_law_store" = some (some (.ref fstore)))
    (lstore : K.lookup fstore = some ⟨ocstore, odstore, .func (PySem.W.fnOf "_law_store" "_law_store" (defArgs s_store) (defBody s_store) (defScope s_store) .none kVstore dcstore pmstore anstore cdstore ctstore), slstore⟩)
    (cstore : PySem.W.codeIn K cdstore "_law_store" = true)
    (kstore : PySem.W.keepIn K (.ref fstore) = true)
    (asame : PySem.W.nsIn K mainGlobals "_law_same" = some (some (.ref fsame)))
    (lsame : K.lookup fsame = some ⟨ocsame, odsame, .func (PySem.W.fnOf "_law_same" "_law_same" (defArgs s_same) (defBody s_same) (defScope s_same) .none kVsame dcsame pmsame ansame cdsame ctsame), slsame⟩)
    (csame : PySem.W.codeIn K cdsame "_law_same" = true)
    (ksame : PySem.W.keepIn K (.ref fsame) = true)
    (aslots_below : PySem.W.nsIn K mainGlobals "slots_below" = some (some (.ref fslots_below)))
    (lslots_below : K.lookup fslots_below = some ⟨ocslots_below, odslots_below, .func (PySem.W.fnOf "slots_below" "slots_below" (defArgs s_slots_below) (defBody s_slots_below) (defScope s_slots_below) .none kVslots_below dcslots_below pmslots_below anslots_below cdslots_below ctslots_below), slslots_below⟩)
    (cslots_below : PySem.W.codeIn K cdslots_below "slots_below" = true)
    (kslots_below : PySem.W.keepIn K (.ref fslots_below) = true)
    (acheck_lot : PySem.W.nsIn K mainGlobals "check_lot" = some (some (.ref fcheck_lot)))
    (lcheck_lot : K.lookup fcheck_lot = some ⟨occheck_lot, odcheck_lot, .func (PySem.W.fnOf "check_lot" "check_lot" (defArgs s_check_lot) (defBody s_check_lot) (defScope s_check_lot) (.ref Dcheck_lot) kVcheck_lot dccheck_lot pmcheck_lot ancheck_lot cdcheck_lot ctcheck_lot), slcheck_lot⟩)
    (ccheck_lot : PySem.W.codeIn K cdcheck_lot "check_lot" = true)
    (kcheck_lot : PySem.W.keepIn K (.ref fcheck_lot) = true)
    (dcheck_lot : K.lookup Dcheck_lot = some ocheck_lot)
    (echeck_lot : ocheck_lot.data = .seq #[.int 6 tkcheck_lot0] ncheck_lot)
    (acheck_lots : PySem.W.nsIn K mainGlobals "check_lots" = some (some (.ref fcheck_lots)))
    (lcheck_lots : K.lookup fcheck_lots = some ⟨occheck_lots, odcheck_lots, .func (PySem.W.fnOf "check_lots" "check_lots" (defArgs s_check_lots) (defBody s_check_lots) (defScope s_check_lots) .none kVcheck_lots dccheck_lots pmcheck_lots ancheck_lots cdcheck_lots ctcheck_lots), slcheck_lots⟩)
    (ccheck_lots : PySem.W.codeIn K cdcheck_lots "check_lots" = true)
    (kcheck_lots : PySem.W.keepIn K (.ref fcheck_lots) = true)
    (ain_order : PySem.W.nsIn K mainGlobals "in_order" = some (some (.ref fin_order)))
    (lin_order : K.lookup fin_order = some ⟨ocin_order, odin_order, .func (PySem.W.fnOf "in_order" "in_order" (defArgs s_in_order) (defBody s_in_order) (defScope s_in_order) .none kVin_order dcin_order pmin_order anin_order cdin_order ctin_order), slin_order⟩)
    (cin_order : PySem.W.codeIn K cdin_order "in_order" = true)
    (kin_order : PySem.W.keepIn K (.ref fin_order) = true)
    (ais_within : PySem.W.nsIn K mainGlobals "is_within" = some (some (.ref fis_within)))
    (lis_within : K.lookup fis_within = some ⟨ocis_within, odis_within, .func (PySem.W.fnOf "is_within" "is_within" (defArgs s_is_within) (defBody s_is_within) (defScope s_is_within) .none kVis_within dcis_within pmis_within anis_within cdis_within ctis_within), slis_within⟩)
    (cis_within : PySem.W.codeIn K cdis_within "is_within" = true)
    (kis_within : PySem.W.keepIn K (.ref fis_within) = true)
    (aunion : PySem.W.nsIn K mainGlobals "union" = some (some (.ref funion)))
    (lunion : K.lookup funion = some ⟨ocunion, odunion, .func (PySem.W.fnOf "union" "union" (defArgs s_union) (defBody s_union) (defScope s_union) .none kVunion dcunion pmunion anunion cdunion ctunion), slunion⟩)
    (cunion : PySem.W.codeIn K cdunion "union" = true)
    (kunion : PySem.W.keepIn K (.ref funion) = true)
    (ashared : PySem.W.nsIn K mainGlobals "shared" = some (some (.ref fshared)))
    (lshared : K.lookup fshared = some ⟨ocshared, odshared, .func (PySem.W.fnOf "shared" "shared" (defArgs s_shared) (defBody s_shared) (defScope s_shared) .none kVshared dcshared pmshared anshared cdshared ctshared), slshared⟩)
    (cshared : PySem.W.codeIn K cdshared "shared" = true)
    (kshared : PySem.W.keepIn K (.ref fshared) = true)
    (acommon : PySem.W.nsIn K mainGlobals "common" = some (some (.ref fcommon)))
    (lcommon : K.lookup fcommon = some ⟨occommon, odcommon, .func (PySem.W.fnOf "common" "common" (defArgs s_common) (defBody s_common) (defScope s_common) .none kVcommon dccommon pmcommon ancommon cdcommon ctcommon), slcommon⟩)
    (ccommon : PySem.W.codeIn K cdcommon "common" = true)
    (kcommon : PySem.W.keepIn K (.ref fcommon) = true)
    (aminus : PySem.W.nsIn K mainGlobals "minus" = some (some (.ref fminus)))
    (lminus : K.lookup fminus = some ⟨ocminus, odminus, .func (PySem.W.fnOf "minus" "minus" (defArgs s_minus) (defBody s_minus) (defScope s_minus) .none kVminus dcminus pmminus anminus cdminus ctminus), slminus⟩)
    (cminus : PySem.W.codeIn K cdminus "minus" = true)
    (kminus : PySem.W.keepIn K (.ref fminus) = true)
    (alies_in : PySem.W.nsIn K mainGlobals "lies_in" = some (some (.ref flies_in)))
    (llies_in : K.lookup flies_in = some ⟨oclies_in, odlies_in, .func (PySem.W.fnOf "lies_in" "lies_in" (defArgs s_lies_in) (defBody s_lies_in) (defScope s_lies_in) .none kVlies_in dclies_in pmlies_in anlies_in cdlies_in ctlies_in), sllies_in⟩)
    (clies_in : PySem.W.codeIn K cdlies_in "lies_in" = true)
    (klies_in : PySem.W.keepIn K (.ref flies_in) = true)
    (agreatest : PySem.W.nsIn K mainGlobals "greatest" = some (some (.ref fgreatest)))
    (lgreatest : K.lookup fgreatest = some ⟨ocgreatest, odgreatest, .func (PySem.W.fnOf "greatest" "greatest" (defArgs s_greatest) (defBody s_greatest) (defScope s_greatest) .none kVgreatest dcgreatest pmgreatest angreatest cdgreatest ctgreatest), slgreatest⟩)
    (cgreatest : PySem.W.codeIn K cdgreatest "greatest" = true)
    (kgreatest : PySem.W.keepIn K (.ref fgreatest) = true)
    (atops : PySem.W.nsIn K mainGlobals "tops" = some (some (.ref ftops)))
    (ltops : K.lookup ftops = some ⟨octops, odtops, .func (PySem.W.fnOf "tops" "tops" (defArgs s_tops) (defBody s_tops) (defScope s_tops) .none kVtops dctops pmtops antops cdtops cttops), sltops⟩)
    (ctops : PySem.W.codeIn K cdtops "tops" = true)
    (ktops : PySem.W.keepIn K (.ref ftops) = true)
    (ajoined : PySem.W.nsIn K mainGlobals "joined" = some (some (.ref fjoined)))
    (ljoined : K.lookup fjoined = some ⟨ocjoined, odjoined, .func (PySem.W.fnOf "joined" "joined" (defArgs s_joined) (defBody s_joined) (defScope s_joined) .none kVjoined dcjoined pmjoined anjoined cdjoined ctjoined), sljoined⟩)
    (cjoined : PySem.W.codeIn K cdjoined "joined" = true)
    (kjoined : PySem.W.keepIn K (.ref fjoined) = true)
    (ais_covered : PySem.W.nsIn K mainGlobals "is_covered" = some (some (.ref fis_covered)))
    (lis_covered : K.lookup fis_covered = some ⟨ocis_covered, odis_covered, .func (PySem.W.fnOf "is_covered" "is_covered" (defArgs s_is_covered) (defBody s_is_covered) (defScope s_is_covered) .none kVis_covered dcis_covered pmis_covered anis_covered cdis_covered ctis_covered), slis_covered⟩)
    (cis_covered : PySem.W.codeIn K cdis_covered "is_covered" = true)
    (kis_covered : PySem.W.keepIn K (.ref fis_covered) = true)
    (amet : PySem.W.nsIn K mainGlobals "met" = some (some (.ref fmet)))
    (lmet : K.lookup fmet = some ⟨ocmet, odmet, .func (PySem.W.fnOf "met" "met" (defArgs s_met) (defBody s_met) (defScope s_met) .none kVmet dcmet pmmet anmet cdmet ctmet), slmet⟩)
    (cmet : PySem.W.codeIn K cdmet "met" = true)
    (kmet : PySem.W.keepIn K (.ref fmet) = true)
    (apick : PySem.W.nsIn K mainGlobals "_law_pick" = some (some (.ref fpick)))
    (lpick : K.lookup fpick = some ⟨ocpick, odpick, .func (PySem.W.fnOf "_law_pick" "_law_pick" (defArgs s_pick) (defBody s_pick) (defScope s_pick) .none kVpick dcpick pmpick anpick cdpick ctpick), slpick⟩)
    (cpick : PySem.W.codeIn K cdpick "_law_pick" = true)
    (kpick : PySem.W.keepIn K (.ref fpick) = true)
    (ashuffled : PySem.W.nsIn K mainGlobals "_law_shuffled" = some (some (.ref fshuffled)))
    (lshuffled : K.lookup fshuffled = some ⟨ocshuffled, odshuffled, .func (PySem.W.fnOf "_law_shuffled" "_law_shuffled" (defArgs s_shuffled) (defBody s_shuffled) (defScope s_shuffled) .none kVshuffled dcshuffled pmshuffled anshuffled cdshuffled ctshuffled), slshuffled⟩)
    (cshuffled : PySem.W.codeIn K cdshuffled "_law_shuffled" = true)
    (kshuffled : PySem.W.keepIn K (.ref fshuffled) = true)
    (adoubled : PySem.W.nsIn K mainGlobals "_law_doubled" = some (some (.ref fdoubled)))
    (ldoubled : K.lookup fdoubled = some ⟨ocdoubled, oddoubled, .func (PySem.W.fnOf "_law_doubled" "_law_doubled" (defArgs s_doubled) (defBody s_doubled) (defScope s_doubled) .none kVdoubled dcdoubled pmdoubled andoubled cddoubled ctdoubled), sldoubled⟩)
    (cdoubled : PySem.W.codeIn K cddoubled "_law_doubled" = true)
    (kdoubled : PySem.W.keepIn K (.ref fdoubled) = true)
    (asequence : PySem.W.nsIn K mainGlobals "_law_sequence" = some (some (.ref fsequence)))
    (lsequence : K.lookup fsequence = some ⟨ocsequence, odsequence, .func (PySem.W.fnOf "_law_sequence" "_law_sequence" (defArgs s_sequence) (defBody s_sequence) (defScope s_sequence) .none kVsequence dcsequence pmsequence ansequence cdsequence ctsequence), slsequence⟩)
    (csequence : PySem.W.codeIn K cdsequence "_law_sequence" = true)
    (ksequence : PySem.W.keepIn K (.ref fsequence) = true)
    (ainserted : PySem.W.nsIn K mainGlobals "_law_inserted" = some (some (.ref finserted)))
    (linserted : K.lookup finserted = some ⟨ocinserted, odinserted, .func (PySem.W.fnOf "_law_inserted" "_law_inserted" (defArgs s_inserted) (defBody s_inserted) (defScope s_inserted) .none kVinserted dcinserted pminserted aninserted cdinserted ctinserted), slinserted⟩)
    (cinserted : PySem.W.codeIn K cdinserted "_law_inserted" = true)
    (kinserted : PySem.W.keepIn K (.ref finserted) = true)
    (ano : PySem.W.nsIn K mainGlobals "_law_no" = some (some (.ref fno)))
    (lno : K.lookup fno = some ⟨ocno, odno, .func (PySem.W.fnOf "_law_no" "_law_no" (defArgs s_no) (defBody s_no) (defScope s_no) .none kVno dcno pmno anno cdno ctno), slno⟩)
    (cno : PySem.W.codeIn K cdno "_law_no" = true)
    (kno : PySem.W.keepIn K (.ref fno) = true)
    (abad_sequence : PySem.W.nsIn K mainGlobals "_law_bad_sequence" = some (some (.ref fbad_sequence)))
    (lbad_sequence : K.lookup fbad_sequence = some ⟨ocbad_sequence, odbad_sequence, .func (PySem.W.fnOf "_law_bad_sequence" "_law_bad_sequence" (defArgs s_bad_sequence) (defBody s_bad_sequence) (defScope s_bad_sequence) .none kVbad_sequence dcbad_sequence pmbad_sequence anbad_sequence cdbad_sequence ctbad_sequence), slbad_sequence⟩)
    (cbad_sequence : PySem.W.codeIn K cdbad_sequence "_law_bad_sequence" = true)
    (kbad_sequence : PySem.W.keepIn K (.ref fbad_sequence) = true)
    (acount : PySem.W.nsIn K mainGlobals "_law_count" = some (some (.ref fcount)))
    (lcount : K.lookup fcount = some ⟨occount, odcount, .func (PySem.W.fnOf "_law_count" "_law_count" (defArgs s_count) (defBody s_count) (defScope s_count) .none kVcount dccount pmcount ancount cdcount ctcount), slcount⟩)
    (ccount : PySem.W.codeIn K cdcount "_law_count" = true)
    (kcount : PySem.W.keepIn K (.ref fcount) = true)
    (alot : PySem.W.nsIn K mainGlobals "_law_lot" = some (some (.ref flot)))
    (llot : K.lookup flot = some ⟨oclot, odlot, .func (PySem.W.fnOf "_law_lot" "_law_lot" (defArgs s_lot) (defBody s_lot) (defScope s_lot) .none kVlot dclot pmlot anlot cdlot ctlot), sllot⟩)
    (clot : PySem.W.codeIn K cdlot "_law_lot" = true)
    (klot : PySem.W.keepIn K (.ref flot) = true)
    (alots : PySem.W.nsIn K mainGlobals "_law_lots" = some (some (.ref flots)))
    (llots : K.lookup flots = some ⟨oclots, odlots, .func (PySem.W.fnOf "_law_lots" "_law_lots" (defArgs s_lots) (defBody s_lots) (defScope s_lots) .none kVlots dclots pmlots anlots cdlots ctlots), sllots⟩)
    (clots : PySem.W.codeIn K cdlots "_law_lots" = true)
    (klots : PySem.W.keepIn K (.ref flots) = true)
    (abad_lot : PySem.W.nsIn K mainGlobals "_law_bad_lot" = some (some (.ref fbad_lot)))
    (lbad_lot : K.lookup fbad_lot = some ⟨ocbad_lot, odbad_lot, .func (PySem.W.fnOf "_law_bad_lot" "_law_bad_lot" (defArgs s_bad_lot) (defBody s_bad_lot) (defScope s_bad_lot) .none kVbad_lot dcbad_lot pmbad_lot anbad_lot cdbad_lot ctbad_lot), slbad_lot⟩)
    (cbad_lot : PySem.W.codeIn K cdbad_lot "_law_bad_lot" = true)
    (kbad_lot : PySem.W.keepIn K (.ref fbad_lot) = true)
    (alies : PySem.W.nsIn K mainGlobals "_law_lies" = some (some (.ref flies)))
    (llies : K.lookup flies = some ⟨oclies, odlies, .func (PySem.W.fnOf "_law_lies" "_law_lies" (defArgs s_lies) (defBody s_lies) (defScope s_lies) .none kVlies dclies pmlies anlies cdlies ctlies), sllies⟩)
    (clies : PySem.W.codeIn K cdlies "_law_lies" = true)
    (klies : PySem.W.keepIn K (.ref flies) = true)
    (aordered : PySem.W.nsIn K mainGlobals "_law_ordered" = some (some (.ref fordered)))
    (lordered : K.lookup fordered = some ⟨ocordered, odordered, .func (PySem.W.fnOf "_law_ordered" "_law_ordered" (defArgs s_ordered) (defBody s_ordered) (defScope s_ordered) .none kVordered dcordered pmordered anordered (.ref Cordered) ctordered), slordered⟩)
    (cordered : PySem.W.codeIn K (.ref Cordered) "_law_ordered" = true)
    (kordered : PySem.W.keepIn K (.ref fordered) = true)
    (aLtops : PySem.W.nsIn K mainGlobals "_law_tops" = some (some (.ref fLtops)))
    (lLtops : K.lookup fLtops = some ⟨ocLtops, odLtops, .func (PySem.W.fnOf "_law_tops" "_law_tops" (defArgs s_Ltops) (defBody s_Ltops) (defScope s_Ltops) .none kVLtops dcLtops pmLtops anLtops (.ref CLtops) ctLtops), slLtops⟩)
    (cLtops : PySem.W.codeIn K (.ref CLtops) "_law_tops" = true)
    (kLtops : PySem.W.keepIn K (.ref fLtops) = true)
    (aevery_lot : PySem.W.nsIn K mainGlobals "_law_every_lot" = some (some (.ref fevery_lot)))
    (levery_lot : K.lookup fevery_lot = some ⟨ocevery_lot, odevery_lot, .func (PySem.W.fnOf "_law_every_lot" "_law_every_lot" (defArgs s_every_lot) (defBody s_every_lot) (defScope s_every_lot) .none kVevery_lot dcevery_lot pmevery_lot anevery_lot (.ref Cevery_lot) ctevery_lot), slevery_lot⟩)
    (cevery_lot : PySem.W.codeIn K (.ref Cevery_lot) "_law_every_lot" = true)
    (kevery_lot : PySem.W.keepIn K (.ref fevery_lot) = true)
    (agroup : PySem.W.nsIn K mainGlobals "_law_group" = some (some (.ref fgroup)))
    (lgroup : K.lookup fgroup = some ⟨ocgroup, odgroup, .func (PySem.W.fnOf "_law_group" "_law_group" (defArgs s_group) (defBody s_group) (defScope s_group) .none kVgroup dcgroup pmgroup angroup (.ref Cgroup) ctgroup), slgroup⟩)
    (cgroup : PySem.W.codeIn K (.ref Cgroup) "_law_group" = true)
    (kgroup : PySem.W.keepIn K (.ref fgroup) = true)
    (adrawn : PySem.W.nsIn K mainGlobals "_law_drawn" = some (some (.ref fdrawn)))
    (ldrawn : K.lookup fdrawn = some ⟨ocdrawn, oddrawn, .func (PySem.W.fnOf "_law_drawn" "_law_drawn" (defArgs s_drawn) (defBody s_drawn) (defScope s_drawn) .none kVdrawn dcdrawn pmdrawn andrawn (.ref Cdrawn) ctdrawn), sldrawn⟩)
    (cdrawn : PySem.W.codeIn K (.ref Cdrawn) "_law_drawn" = true)
    (kdrawn : PySem.W.keepIn K (.ref fdrawn) = true)
    (acovered : PySem.W.nsIn K mainGlobals "_law_covered" = some (some (.ref fcovered)))
    (lcovered : K.lookup fcovered = some ⟨occovered, odcovered, .func (PySem.W.fnOf "_law_covered" "_law_covered" (defArgs s_covered) (defBody s_covered) (defScope s_covered) .none kVcovered dccovered pmcovered ancovered cdcovered ctcovered), slcovered⟩)
    (ccovered : PySem.W.codeIn K cdcovered "_law_covered" = true)
    (kcovered : PySem.W.keepIn K (.ref fcovered) = true)
    (ameeting : PySem.W.nsIn K mainGlobals "_law_meeting" = some (some (.ref fmeeting)))
    (lmeeting : K.lookup fmeeting = some ⟨ocmeeting, odmeeting, .func (PySem.W.fnOf "_law_meeting" "_law_meeting" (defArgs s_meeting) (defBody s_meeting) (defScope s_meeting) .none kVmeeting dcmeeting pmmeeting anmeeting (.ref Cmeeting) ctmeeting), slmeeting⟩)
    (cmeeting : PySem.W.codeIn K (.ref Cmeeting) "_law_meeting" = true)
    (kmeeting : PySem.W.keepIn K (.ref fmeeting) = true)
    (apair_asked : PySem.W.nsIn K mainGlobals "_law_pair_asked" = some (some (.ref fpair_asked)))
    (lpair_asked : K.lookup fpair_asked = some ⟨ocpair_asked, odpair_asked, .func (PySem.W.fnOf "_law_pair_asked" "_law_pair_asked" (defArgs s_pair_asked) (defBody s_pair_asked) (defScope s_pair_asked) .none kVpair_asked dcpair_asked pmpair_asked anpair_asked (.ref Cpair_asked) ctpair_asked), slpair_asked⟩)
    (cpair_asked : PySem.W.codeIn K (.ref Cpair_asked) "_law_pair_asked" = true)
    (kpair_asked : PySem.W.keepIn K (.ref fpair_asked) = true)
    (atops_asked : PySem.W.nsIn K mainGlobals "_law_tops_asked" = some (some (.ref ftops_asked)))
    (ltops_asked : K.lookup ftops_asked = some ⟨octops_asked, odtops_asked, .func (PySem.W.fnOf "_law_tops_asked" "_law_tops_asked" (defArgs s_tops_asked) (defBody s_tops_asked) (defScope s_tops_asked) .none kVtops_asked dctops_asked pmtops_asked antops_asked (.ref Ctops_asked) cttops_asked), sltops_asked⟩)
    (ctops_asked : PySem.W.codeIn K (.ref Ctops_asked) "_law_tops_asked" = true)
    (ktops_asked : PySem.W.keepIn K (.ref ftops_asked) = true)
    (atwo_asked : PySem.W.nsIn K mainGlobals "_law_two_asked" = some (some (.ref ftwo_asked)))
    (ltwo_asked : K.lookup ftwo_asked = some ⟨octwo_asked, odtwo_asked, .func (PySem.W.fnOf "_law_two_asked" "_law_two_asked" (defArgs s_two_asked) (defBody s_two_asked) (defScope s_two_asked) .none kVtwo_asked dctwo_asked pmtwo_asked antwo_asked (.ref Ctwo_asked) cttwo_asked), sltwo_asked⟩)
    (ctwo_asked : PySem.W.codeIn K (.ref Ctwo_asked) "_law_two_asked" = true)
    (ktwo_asked : PySem.W.keepIn K (.ref ftwo_asked) = true)
    (alot_refusals : PySem.W.nsIn K mainGlobals "_law_lot_refusals" = some (some (.ref flot_refusals)))
    (llot_refusals : K.lookup flot_refusals = some ⟨oclot_refusals, odlot_refusals, .func (PySem.W.fnOf "_law_lot_refusals" "_law_lot_refusals" (defArgs s_lot_refusals) (defBody s_lot_refusals) (defScope s_lot_refusals) .none kVlot_refusals dclot_refusals pmlot_refusals anlot_refusals (.ref Clot_refusals) ctlot_refusals), sllot_refusals⟩)
    (clot_refusals : PySem.W.codeIn K (.ref Clot_refusals) "_law_lot_refusals" = true)
    (klot_refusals : PySem.W.keepIn K (.ref flot_refusals) = true)
    (arow_refusals : PySem.W.nsIn K mainGlobals "_law_row_refusals" = some (some (.ref frow_refusals)))
    (lrow_refusals : K.lookup frow_refusals = some ⟨ocrow_refusals, odrow_refusals, .func (PySem.W.fnOf "_law_row_refusals" "_law_row_refusals" (defArgs s_row_refusals) (defBody s_row_refusals) (defScope s_row_refusals) .none kVrow_refusals dcrow_refusals pmrow_refusals anrow_refusals (.ref Crow_refusals) ctrow_refusals), slrow_refusals⟩)
    (crow_refusals : PySem.W.codeIn K (.ref Crow_refusals) "_law_row_refusals" = true)
    (krow_refusals : PySem.W.keepIn K (.ref frow_refusals) = true)
    (along_asked : PySem.W.nsIn K mainGlobals "_law_long_asked" = some (some (.ref flong_asked)))
    (llong_asked : K.lookup flong_asked = some ⟨oclong_asked, odlong_asked, .func (PySem.W.fnOf "_law_long_asked" "_law_long_asked" (defArgs s_long_asked) (defBody s_long_asked) (defScope s_long_asked) .none kVlong_asked dclong_asked pmlong_asked anlong_asked (.ref Clong_asked) ctlong_asked), sllong_asked⟩)
    (clong_asked : PySem.W.codeIn K (.ref Clong_asked) "_law_long_asked" = true)
    (klong_asked : PySem.W.keepIn K (.ref flong_asked) = true)
    (alaw : PySem.W.nsIn K mainGlobals "law" = some (some (.ref flaw)))
    (llaw : K.lookup flaw = some ⟨oclaw, odlaw, .func (PySem.W.fnOf "law" "law" (defArgs s_law) (defBody s_law) (defScope s_law) .none kVlaw dclaw pmlaw anlaw cdlaw ctlaw), sllaw⟩)
    (claw : PySem.W.codeIn K cdlaw "law" = true)
    (klaw : PySem.W.keepIn K (.ref flaw) = true)
    (gRefused : PySem.W.nsIn K mainGlobals "Refused" = some (some (.ref yRefused)))
    (gBadWord : PySem.W.nsIn K mainGlobals "BadWord" = some (some (.ref yBadWord)))
    (gBadLot : PySem.W.nsIn K mainGlobals "BadLot" = some (some (.ref yBadLot)))
    (gBadTerm : PySem.W.nsIn K mainGlobals "BadTerm" = some (some (.ref yBadTerm)))
    (gBadStep : PySem.W.nsIn K mainGlobals "BadStep" = some (some (.ref yBadStep)))
    (gBadShape : PySem.W.nsIn K mainGlobals "BadShape" = some (some (.ref yBadShape)))
    (gBadPlace : PySem.W.nsIn K mainGlobals "BadPlace" = some (some (.ref yBadPlace)))
    (gBadNumber : PySem.W.nsIn K mainGlobals "BadNumber" = some (some (.ref yBadNumber)))
    (gBadFilling : PySem.W.nsIn K mainGlobals "BadFilling" = some (some (.ref yBadFilling)))
    (gBadPlan : PySem.W.nsIn K mainGlobals "BadPlan" = some (some (.ref yBadPlan)))
    (gBadTarget : PySem.W.nsIn K mainGlobals "BadTarget" = some (some (.ref yBadTarget)))
    (gBadPaper : PySem.W.nsIn K mainGlobals "BadPaper" = some (some (.ref yBadPaper)))
    (gBadCall : PySem.W.nsIn K mainGlobals "BadCall" = some (some (.ref yBadCall)))
    (gNotAllowed : PySem.W.nsIn K mainGlobals "NotAllowed" = some (some (.ref yNotAllowed)))
    (gBadText : PySem.W.nsIn K mainGlobals "BadText" = some (some (.ref yBadText)))
    (gBadStack : PySem.W.nsIn K mainGlobals "BadStack" = some (some (.ref yBadStack)))
    (gTooMany : PySem.W.nsIn K mainGlobals "TooMany" = some (some (.ref yTooMany)))
    (qALL_SLOTS : PySem.W.nsIn K mainGlobals "ALL_SLOTS" = some (some (.str abc tALL_SLOTS)))
    (zint : PySem.W.nsIn K mainGlobals "int" = some none)
    (zmax : PySem.W.nsIn K mainGlobals "max" = some none)
    (zlen : PySem.W.nsIn K mainGlobals "len" = some none)
    (zrange : PySem.W.nsIn K mainGlobals "range" = some none)
    (zisinstance : PySem.W.nsIn K mainGlobals "isinstance" = some none)
    (zstr : PySem.W.nsIn K mainGlobals "str" = some none)
    (zbool : PySem.W.nsIn K mainGlobals "bool" = some none)
    (zall : PySem.W.nsIn K mainGlobals "all" = some none)
    (zlist : PySem.W.nsIn K mainGlobals "list" = some none)
    (zrepr : PySem.W.nsIn K mainGlobals "repr" = some none)
    (zzip : PySem.W.nsIn K mainGlobals "zip" = some none)
    (ztuple : PySem.W.nsIn K mainGlobals "tuple" = some none)
    (zdict : PySem.W.nsIn K mainGlobals "dict" = some none)
    (zany : PySem.W.nsIn K mainGlobals "any" = some none)
    (zsum : PySem.W.nsIn K mainGlobals "sum" = some none)
    (zmin : PySem.W.nsIn K mainGlobals "min" = some none)
    (zset : PySem.W.nsIn K mainGlobals "set" = some none)
    (zsorted : PySem.W.nsIn K mainGlobals "sorted" = some none)
    (zenumerate : PySem.W.nsIn K mainGlobals "enumerate" = some none)
    (zValueError : PySem.W.nsIn K mainGlobals "ValueError" = some none)
    (EBadLot : ErrK K (ErrA.mk yRefused yBadWord yBadLot yBadTerm yBadStep yBadShape yBadPlace yBadNumber yBadFilling yBadPlan yBadTarget yBadPaper yBadCall yNotAllowed yBadText yBadStack yTooMany) yBadLot "BadLot")
    (kBadLot : PySem.W.keepIn K (.ref yBadLot) = true)
    (xBadLot : PySem.W.excIn K yBadLot [.type "ValueError", .type "Exception", .type "BaseException", .type "object"] "ValueError.__new__" = true)
    (sBadLot : PySem.W.subIn K (.ref yBadLot) (.type "BaseException") = some true)
    (tBadLot : PySem.W.typeIn K (.ref yBadLot) = some (.type "type")) :
    ∀ (fa : Addr), mg "law" = some (.ref fa) → ∀ (base : Heap) (s₁ : Shared) (H : Hp) (a : Addr) (ns : List Int), (∀ p ∈ [(Cordered, Pordered), (Cpair_asked, Ppair_asked), (Ctops_asked, Ptops_asked), (Ctwo_asked, Ptwo_asked), (Clot_refusals, Plot_refusals), (Crow_refusals, Prow_refusals), (Clong_asked, Plong_asked)], TabB base mg p.1 p.2) → (([(Cordered, Pordered), (Cpair_asked, Ppair_asked), (Ctops_asked, Ptops_asked), (Ctwo_asked, Ptwo_asked), (Clot_refusals, Plot_refusals), (Crow_refusals, Prow_refusals), (Clong_asked, Plong_asked)] : List (Addr × Addr)).map (·.2)).Nodup → Env0 P w K mg base callerA [] s₁ H →
      (∀ p ∈ [(Cordered, Pordered), (Cpair_asked, Ppair_asked), (Ctops_asked, Ptops_asked), (Ctwo_asked, Ptwo_asked), (Clot_refusals, Plot_refusals), (Crow_refusals, Prow_refusals), (Clong_asked, Plong_asked)], H p.2 = some (.tbl #[])) → SqL K H a (ns.map V.int) → ns.length ≤ 63 → (∃ o, base.get? sysModules = some o) → codeAny (model P w) callerA (.call (.ref fa) ⟨[.ref a], []⟩) (CR CX0 [] P w H s₁ (fun v _ => v = .bl true) E0) s₁ := by
  intro fa hfa base s₁ H a ns hTB hnd e0 hHT hS hlen hsy
  have e := hfa.symm.trans (PySem.W.mg_of X G alaw)
  cases e
  have T : Txt K mg := ⟨PySem.W.mg_none_of X G zint, PySem.W.mg_none_of X G zmax, PySem.W.mg_none_of X G zlen, PySem.W.mg_none_of X G zrange, PySem.W.mg_none_of X G zisinstance, PySem.W.mg_none_of X G zstr, PySem.W.mg_none_of X G zbool, PySem.W.mg_none_of X G zall, PySem.W.mg_none_of X G zlist, PySem.W.mg_none_of X G zrepr, PySem.W.mg_none_of X G zzip, PySem.W.mg_none_of X G ztuple, PySem.W.mg_none_of X G zdict, PySem.W.mg_none_of X G zany, PySem.W.mg_none_of X G zsum, PySem.W.mg_none_of X G zmin, PySem.W.mg_none_of X G zset, PySem.W.mg_none_of X G zsorted, PySem.W.mg_none_of X G zenumerate⟩
  have Cc : Cs mg := ⟨⟨_, PySem.W.mg_of X G qALL_SLOTS⟩⟩
  have GE : ErrG mg (ErrA.mk yRefused yBadWord yBadLot yBadTerm yBadStep yBadShape yBadPlace yBadNumber yBadFilling yBadPlan yBadTarget yBadPaper yBadCall yNotAllowed yBadText yBadStack yTooMany) := ⟨PySem.W.mg_of X G gRefused, PySem.W.mg_of X G gBadWord, PySem.W.mg_of X G gBadLot, PySem.W.mg_of X G gBadTerm, PySem.W.mg_of X G gBadStep, PySem.W.mg_of X G gBadShape, PySem.W.mg_of X G gBadPlace, PySem.W.mg_of X G gBadNumber, PySem.W.mg_of X G gBadFilling, PySem.W.mg_of X G gBadPlan, PySem.W.mg_of X G gBadTarget, PySem.W.mg_of X G gBadPaper, PySem.W.mg_of X G gBadCall, PySem.W.mg_of X G gNotAllowed, PySem.W.mg_of X G gBadText, PySem.W.mg_of X G gBadStack, PySem.W.mg_of X G gTooMany, PySem.W.mg_none_of X G zValueError⟩
  have E_BadLot : ErrV (WdOf K P w [("BadLot", yBadLot)]) mg "BadLot" := ⟨yBadLot, by rfl, PySem.W.mg_of X G gBadLot, kBadLot, xBadLot, sBadLot, tBadLot⟩
  have hEt : ErrT K (WdOf K P w [("BadLot", yBadLot)]) (ErrA.mk yRefused yBadWord yBadLot yBadTerm yBadStep yBadShape yBadPlace yBadNumber yBadFilling yBadPlan yBadTarget yBadPaper yBadCall yNotAllowed yBadText yBadStack yTooMany) := errT_of fun p hp => by
    simp only [List.mem_cons, List.not_mem_nil, or_false] at hp
    rcases hp with rfl
    · exact EBadLot
  have hnd2 : (([(Pordered, lq "_law_ordered"), (Ppair_asked, lq "_law_pair_asked"), (Ptops_asked, lq "_law_tops_asked"), (Ptwo_asked, lq "_law_two_asked"), (Plot_refusals, lq "_law_lot_refusals"), (Prow_refusals, lq "_law_row_refusals"), (Plong_asked, lq "_law_long_asked")] : List (Addr × Str)).map (·.1)).Nodup := hnd
  have M_ordered : Mkr base mg [(Pordered, lq "_law_ordered"), (Ppair_asked, lq "_law_pair_asked"), (Ptops_asked, lq "_law_tops_asked"), (Ptwo_asked, lq "_law_two_asked"), (Plot_refusals, lq "_law_lot_refusals"), (Prow_refusals, lq "_law_row_refusals"), (Plong_asked, lq "_law_long_asked")] "_law_ordered" Cordered Pordered := ⟨hTB (Cordered, Pordered) (by simp), by simp, fun p hp e => tl_un hnd2 (p := (Pordered, lq "_law_ordered")) (by simp) p hp e⟩
  have M_pair_asked : Mkr base mg [(Pordered, lq "_law_ordered"), (Ppair_asked, lq "_law_pair_asked"), (Ptops_asked, lq "_law_tops_asked"), (Ptwo_asked, lq "_law_two_asked"), (Plot_refusals, lq "_law_lot_refusals"), (Prow_refusals, lq "_law_row_refusals"), (Plong_asked, lq "_law_long_asked")] "_law_pair_asked" Cpair_asked Ppair_asked := ⟨hTB (Cpair_asked, Ppair_asked) (by simp), by simp, fun p hp e => tl_un hnd2 (p := (Ppair_asked, lq "_law_pair_asked")) (by simp) p hp e⟩
  have M_tops_asked : Mkr base mg [(Pordered, lq "_law_ordered"), (Ppair_asked, lq "_law_pair_asked"), (Ptops_asked, lq "_law_tops_asked"), (Ptwo_asked, lq "_law_two_asked"), (Plot_refusals, lq "_law_lot_refusals"), (Prow_refusals, lq "_law_row_refusals"), (Plong_asked, lq "_law_long_asked")] "_law_tops_asked" Ctops_asked Ptops_asked := ⟨hTB (Ctops_asked, Ptops_asked) (by simp), by simp, fun p hp e => tl_un hnd2 (p := (Ptops_asked, lq "_law_tops_asked")) (by simp) p hp e⟩
  have M_two_asked : Mkr base mg [(Pordered, lq "_law_ordered"), (Ppair_asked, lq "_law_pair_asked"), (Ptops_asked, lq "_law_tops_asked"), (Ptwo_asked, lq "_law_two_asked"), (Plot_refusals, lq "_law_lot_refusals"), (Prow_refusals, lq "_law_row_refusals"), (Plong_asked, lq "_law_long_asked")] "_law_two_asked" Ctwo_asked Ptwo_asked := ⟨hTB (Ctwo_asked, Ptwo_asked) (by simp), by simp, fun p hp e => tl_un hnd2 (p := (Ptwo_asked, lq "_law_two_asked")) (by simp) p hp e⟩
  have M_lot_refusals : Mkr base mg [(Pordered, lq "_law_ordered"), (Ppair_asked, lq "_law_pair_asked"), (Ptops_asked, lq "_law_tops_asked"), (Ptwo_asked, lq "_law_two_asked"), (Plot_refusals, lq "_law_lot_refusals"), (Prow_refusals, lq "_law_row_refusals"), (Plong_asked, lq "_law_long_asked")] "_law_lot_refusals" Clot_refusals Plot_refusals := ⟨hTB (Clot_refusals, Plot_refusals) (by simp), by simp, fun p hp e => tl_un hnd2 (p := (Plot_refusals, lq "_law_lot_refusals")) (by simp) p hp e⟩
  have M_row_refusals : Mkr base mg [(Pordered, lq "_law_ordered"), (Ppair_asked, lq "_law_pair_asked"), (Ptops_asked, lq "_law_tops_asked"), (Ptwo_asked, lq "_law_two_asked"), (Plot_refusals, lq "_law_lot_refusals"), (Prow_refusals, lq "_law_row_refusals"), (Plong_asked, lq "_law_long_asked")] "_law_row_refusals" Crow_refusals Prow_refusals := ⟨hTB (Crow_refusals, Prow_refusals) (by simp), by simp, fun p hp e => tl_un hnd2 (p := (Prow_refusals, lq "_law_row_refusals")) (by simp) p hp e⟩
  have M_long_asked : Mkr base mg [(Pordered, lq "_law_ordered"), (Ppair_asked, lq "_law_pair_asked"), (Ptops_asked, lq "_law_tops_asked"), (Ptwo_asked, lq "_law_two_asked"), (Plot_refusals, lq "_law_lot_refusals"), (Prow_refusals, lq "_law_row_refusals"), (Plong_asked, lq "_law_long_asked")] "_law_long_asked" Clong_asked Plong_asked := ⟨hTB (Clong_asked, Plong_asked) (by simp), by simp, fun p hp e => tl_un hnd2 (p := (Plong_asked, lq "_law_long_asked")) (by simp) p hp e⟩
  have Fis := fun_mk (st := s_is) lis cis kis
  have bis := Fis.binds (ps := ["call", "due"]) fun _ _ _ _ _ _ us hl => match us, hl with | [_, _], _ => rfl
  have Ftold := fun_mk (st := s_told) ltold ctold ktold
  have btold := Ftold.binds (ps := ["call"]) fun _ _ _ _ _ _ us hl => match us, hl with | [_], _ => rfl
  have Fmix := fun_mk (st := s_mix) lmix cmix kmix
  have bmix := Fmix.binds (ps := ["cell", "turn"]) fun _ _ _ _ _ _ us hl => match us, hl with | [_, _], _ => rfl
  have Fopen := fun_mk (st := s_open) lopen copen kopen
  have bopen := Fopen.binds (ps := ["store"]) fun _ _ _ _ _ _ us hl => match us, hl with | [_], _ => rfl
  have Ftake := fun_mk (st := s_take) ltake ctake ktake
  have btake := Ftake.binds (ps := ["store", "limit"]) fun _ _ _ _ _ _ us hl => match us, hl with | [_, _], _ => rfl
  have Fstore := fun_mk (st := s_store) lstore cstore kstore
  have bstore := Fstore.binds (ps := ["script"]) fun _ _ _ _ _ _ us hl => match us, hl with | [_], _ => rfl
  have Fsame := fun_mk (st := s_same) lsame csame ksame
  have bsame := Fsame.binds (ps := ["told", "due"]) fun _ _ _ _ _ _ us hl => match us, hl with | [_, _], _ => rfl
  have Fslots_below := fun_mk (st := s_slots_below) lslots_below cslots_below kslots_below
  have bslots_below := Fslots_below.binds (ps := ["size"]) fun _ _ _ _ _ _ us hl => match us, hl with | [_], _ => rfl
  have Fcheck_lot : FunD K "check_lot" "check_lot" (defArgs s_check_lot) (defBody s_check_lot) (defScope s_check_lot) [.int 6] [] fcheck_lot _ := ⟨⟨_, _, _, _, _, _, _, _, _, _, rfl, lcheck_lot, ccheck_lot, .inr ⟨by simp, Dcheck_lot, ocheck_lot, [.int 6 tkcheck_lot0], ncheck_lot, rfl, dcheck_lot, echeck_lot, .cons ⟨_, rfl⟩ (.nil)⟩, .inl rfl⟩, kcheck_lot⟩
  have Fcheck_lots := fun_mk (st := s_check_lots) lcheck_lots ccheck_lots kcheck_lots
  have bcheck_lots := Fcheck_lots.binds (ps := ["lots"]) fun _ _ _ _ _ _ us hl => match us, hl with | [_], _ => rfl
  have Fin_order := fun_mk (st := s_in_order) lin_order cin_order kin_order
  have bin_order := Fin_order.binds (ps := ["lots"]) fun _ _ _ _ _ _ us hl => match us, hl with | [_], _ => rfl
  have Fis_within := fun_mk (st := s_is_within) lis_within cis_within kis_within
  have bis_within := Fis_within.binds (ps := ["one", "two"]) fun _ _ _ _ _ _ us hl => match us, hl with | [_, _], _ => rfl
  have Funion := fun_mk (st := s_union) lunion cunion kunion
  have bunion := Funion.binds (ps := ["one", "two"]) fun _ _ _ _ _ _ us hl => match us, hl with | [_, _], _ => rfl
  have Fshared := fun_mk (st := s_shared) lshared cshared kshared
  have bshared := Fshared.binds (ps := ["one", "two"]) fun _ _ _ _ _ _ us hl => match us, hl with | [_, _], _ => rfl
  have Fcommon := fun_mk (st := s_common) lcommon ccommon kcommon
  have bcommon := Fcommon.binds (ps := ["one", "two"]) fun _ _ _ _ _ _ us hl => match us, hl with | [_, _], _ => rfl
  have Fminus := fun_mk (st := s_minus) lminus cminus kminus
  have bminus := Fminus.binds (ps := ["one", "two"]) fun _ _ _ _ _ _ us hl => match us, hl with | [_, _], _ => rfl
  have Flies_in := fun_mk (st := s_lies_in) llies_in clies_in klies_in
  have blies_in := Flies_in.binds (ps := ["one", "two"]) fun _ _ _ _ _ _ us hl => match us, hl with | [_, _], _ => rfl
  have Fgreatest := fun_mk (st := s_greatest) lgreatest cgreatest kgreatest
  have bgreatest := Fgreatest.binds (ps := ["lots"]) fun _ _ _ _ _ _ us hl => match us, hl with | [_], _ => rfl
  have Ftops := fun_mk (st := s_tops) ltops ctops ktops
  have btops := Ftops.binds (ps := ["lots"]) fun _ _ _ _ _ _ us hl => match us, hl with | [_], _ => rfl
  have Fjoined := fun_mk (st := s_joined) ljoined cjoined kjoined
  have bjoined := Fjoined.binds (ps := ["ones", "twos"]) fun _ _ _ _ _ _ us hl => match us, hl with | [_, _], _ => rfl
  have Fis_covered := fun_mk (st := s_is_covered) lis_covered cis_covered kis_covered
  have bis_covered := Fis_covered.binds (ps := ["lot", "lots"]) fun _ _ _ _ _ _ us hl => match us, hl with | [_, _], _ => rfl
  have Fmet := fun_mk (st := s_met) lmet cmet kmet
  have bmet := Fmet.binds (ps := ["ones", "twos"]) fun _ _ _ _ _ _ us hl => match us, hl with | [_, _], _ => rfl
  have Fpick := fun_mk (st := s_pick) lpick cpick kpick
  have bpick := Fpick.binds (ps := ["store", "things"]) fun _ _ _ _ _ _ us hl => match us, hl with | [_, _], _ => rfl
  have Fshuffled := fun_mk (st := s_shuffled) lshuffled cshuffled kshuffled
  have bshuffled := Fshuffled.binds (ps := ["store", "things"]) fun _ _ _ _ _ _ us hl => match us, hl with | [_, _], _ => rfl
  have Fdoubled := fun_mk (st := s_doubled) ldoubled cdoubled kdoubled
  have bdoubled := Fdoubled.binds (ps := ["store", "things"]) fun _ _ _ _ _ _ us hl => match us, hl with | [_, _], _ => rfl
  have Fsequence := fun_mk (st := s_sequence) lsequence csequence ksequence
  have bsequence := Fsequence.binds (ps := ["store", "things"]) fun _ _ _ _ _ _ us hl => match us, hl with | [_, _], _ => rfl
  have Finserted := fun_mk (st := s_inserted) linserted cinserted kinserted
  have binserted := Finserted.binds (ps := ["store", "row", "thing"]) fun _ _ _ _ _ _ us hl => match us, hl with | [_, _, _], _ => rfl
  have Fno := fun_mk (st := s_no) lno cno kno
  have bno := Fno.binds (ps := ["name"]) fun _ _ _ _ _ _ us hl => match us, hl with | [_], _ => rfl
  have Fbad_sequence := fun_mk (st := s_bad_sequence) lbad_sequence cbad_sequence kbad_sequence
  have bbad_sequence := Fbad_sequence.binds (ps := ["store"]) fun _ _ _ _ _ _ us hl => match us, hl with | [_], _ => rfl
  have Fcount := fun_mk (st := s_count) lcount ccount kcount
  have bcount := Fcount.binds (ps := ["store", "most"]) fun _ _ _ _ _ _ us hl => match us, hl with | [_, _], _ => rfl
  have Flot := fun_mk (st := s_lot) llot clot klot
  have blot := Flot.binds (ps := ["store", "size"]) fun _ _ _ _ _ _ us hl => match us, hl with | [_, _], _ => rfl
  have Flots := fun_mk (st := s_lots) llots clots klots
  have blots := Flots.binds (ps := ["store", "size", "most"]) fun _ _ _ _ _ _ us hl => match us, hl with | [_, _, _], _ => rfl
  have Fbad_lot := fun_mk (st := s_bad_lot) lbad_lot cbad_lot kbad_lot
  have bbad_lot := Fbad_lot.binds (ps := ["store", "size"]) fun _ _ _ _ _ _ us hl => match us, hl with | [_, _], _ => rfl
  have Flies := fun_mk (st := s_lies) llies clies klies
  have blies := Flies.binds (ps := ["one", "two"]) fun _ _ _ _ _ _ us hl => match us, hl with | [_, _], _ => rfl
  have Fordered : FunC K "_law_ordered" "_law_ordered" s_ordered fordered _ Cordered := ⟨⟨_, _, _, _, _, _, _, _, rfl, lordered, cordered⟩, kordered⟩
  have FLtops : FunC K "_law_tops" "_law_tops" s_Ltops fLtops _ CLtops := ⟨⟨_, _, _, _, _, _, _, _, rfl, lLtops, cLtops⟩, kLtops⟩
  have Fevery_lot : FunC K "_law_every_lot" "_law_every_lot" s_every_lot fevery_lot _ Cevery_lot := ⟨⟨_, _, _, _, _, _, _, _, rfl, levery_lot, cevery_lot⟩, kevery_lot⟩
  have Fgroup : FunC K "_law_group" "_law_group" s_group fgroup _ Cgroup := ⟨⟨_, _, _, _, _, _, _, _, rfl, lgroup, cgroup⟩, kgroup⟩
  have Fdrawn : FunC K "_law_drawn" "_law_drawn" s_drawn fdrawn _ Cdrawn := ⟨⟨_, _, _, _, _, _, _, _, rfl, ldrawn, cdrawn⟩, kdrawn⟩
  have Fcovered := fun_mk (st := s_covered) lcovered ccovered kcovered
  have bcovered := Fcovered.binds (ps := ["lot", "lots"]) fun _ _ _ _ _ _ us hl => match us, hl with | [_, _], _ => rfl
  have Fmeeting : FunC K "_law_meeting" "_law_meeting" s_meeting fmeeting _ Cmeeting := ⟨⟨_, _, _, _, _, _, _, _, rfl, lmeeting, cmeeting⟩, kmeeting⟩
  have Fpair_asked : FunC K "_law_pair_asked" "_law_pair_asked" s_pair_asked fpair_asked _ Cpair_asked := ⟨⟨_, _, _, _, _, _, _, _, rfl, lpair_asked, cpair_asked⟩, kpair_asked⟩
  have Ftops_asked : FunC K "_law_tops_asked" "_law_tops_asked" s_tops_asked ftops_asked _ Ctops_asked := ⟨⟨_, _, _, _, _, _, _, _, rfl, ltops_asked, ctops_asked⟩, ktops_asked⟩
  have Ftwo_asked : FunC K "_law_two_asked" "_law_two_asked" s_two_asked ftwo_asked _ Ctwo_asked := ⟨⟨_, _, _, _, _, _, _, _, rfl, ltwo_asked, ctwo_asked⟩, ktwo_asked⟩
  have Flot_refusals : FunC K "_law_lot_refusals" "_law_lot_refusals" s_lot_refusals flot_refusals _ Clot_refusals := ⟨⟨_, _, _, _, _, _, _, _, rfl, llot_refusals, clot_refusals⟩, klot_refusals⟩
  have Frow_refusals : FunC K "_law_row_refusals" "_law_row_refusals" s_row_refusals frow_refusals _ Crow_refusals := ⟨⟨_, _, _, _, _, _, _, _, rfl, lrow_refusals, crow_refusals⟩, krow_refusals⟩
  have Flong_asked : FunC K "_law_long_asked" "_law_long_asked" s_long_asked flong_asked _ Clong_asked := ⟨⟨_, _, _, _, _, _, _, _, rfl, llong_asked, clong_asked⟩, klong_asked⟩
  have Flaw := fun_mk (st := s_law) llaw claw klaw
  have blaw := Flaw.binds (ps := ["script"]) fun _ _ _ _ _ _ us hl => match us, hl with | [_], _ => rfl
  have G_mixE : FnE P w K mg base CX0 1 "_law_mix" ["cell", "turn"] spMix := ⟨_, _, (ok_mix Fmix T), PySem.W.mg_of X G amix, kmix, bmix⟩
  have G_openE : FnE P w K mg base CX0 1 "_law_open" ["store"] spOpen := ⟨_, _, (ok_open Fopen T), PySem.W.mg_of X G aopen, kopen, bopen⟩
  obtain ⟨_, _, Gmix1⟩ := id G_mixE
  obtain ⟨_, _, Gopen1⟩ := id G_openE
  have G_storeE : FnE P w K mg base CX0 2 "_law_store" ["script"] (spStore K) := ⟨_, _, (ok_store Fstore T Gmix1), PySem.W.mg_of X G astore, kstore, bstore⟩
  have G_take : FnD P w K mg base 2 "_law_take" ["store", "limit"] (WdOf K P w [("BadLot", yBadLot)]) gTake := ⟨⟨_, _, (((ok_take Ftake T Gmix1 Gopen1)).imp fun vs H Q E h => spTake_D h), PySem.W.mg_of X G atake, ktake, btake⟩, by
    intro ds Q h
    first | (obtain ⟨rfl, _⟩ := h; rfl) | (obtain ⟨_, rfl, _⟩ := h; rfl) | (obtain ⟨_, _, rfl, _⟩ := h; rfl) | (obtain ⟨_, _, _, rfl, _⟩ := h; rfl) | (obtain ⟨_, _, _, _, rfl, _⟩ := h; rfl) | (obtain ⟨_, _, _, _, _, rfl, _⟩ := h; rfl) | (obtain ⟨_, _, _, _, _, _, rfl, _⟩ := h; rfl) | (obtain ⟨_, _, _, _, _, _, _, rfl, _⟩ := h; rfl) | (obtain ⟨_, _, _, _, _, _, _, _, rfl, _⟩ := h; rfl) | (obtain ⟨_, _, _, _, _, _, _, _, _, rfl, _⟩ := h; rfl) | (obtain ⟨_, _, _, _, _, _, _, _, _, _, rfl, _⟩ := h; rfl) | (obtain ⟨_, _, _, _, _, _, _, _, _, _, _, rfl, _⟩ := h; rfl) | (obtain ⟨rfl | rfl, _⟩ := h <;> rfl) | (obtain ⟨_, rfl | rfl, _⟩ := h <;> rfl) | (obtain ⟨_, _, rfl | rfl, _⟩ := h <;> rfl) | (obtain ⟨_, _, _, rfl | rfl, _⟩ := h <;> rfl) | (obtain ⟨_, _, _, _, rfl | rfl, _⟩ := h <;> rfl) | (obtain ⟨_, _, _, _, _, rfl | rfl, _⟩ := h <;> rfl) | (obtain ⟨_, _, _, _, _, _, rfl | rfl, _⟩ := h <;> rfl) | (obtain ⟨_, _, _, _, _, _, _, rfl | rfl, _⟩ := h <;> rfl) | (dsimp only [gTake] at h; split at h <;> first | rfl | exact h.elim)⟩
  have G_pick : FnD P w K mg base 3 "_law_pick" ["store", "things"] (WdOf K P w [("BadLot", yBadLot)]) gPick := ⟨⟨_, _, (v_pick Fpick T rfl G_take), PySem.W.mg_of X G apick, kpick, bpick⟩, by
    intro ds Q h
    first | (obtain ⟨rfl, _⟩ := h; rfl) | (obtain ⟨_, rfl, _⟩ := h; rfl) | (obtain ⟨_, _, rfl, _⟩ := h; rfl) | (obtain ⟨_, _, _, rfl, _⟩ := h; rfl) | (obtain ⟨_, _, _, _, rfl, _⟩ := h; rfl) | (obtain ⟨_, _, _, _, _, rfl, _⟩ := h; rfl) | (obtain ⟨_, _, _, _, _, _, rfl, _⟩ := h; rfl) | (obtain ⟨_, _, _, _, _, _, _, rfl, _⟩ := h; rfl) | (obtain ⟨_, _, _, _, _, _, _, _, rfl, _⟩ := h; rfl) | (obtain ⟨_, _, _, _, _, _, _, _, _, rfl, _⟩ := h; rfl) | (obtain ⟨_, _, _, _, _, _, _, _, _, _, rfl, _⟩ := h; rfl) | (obtain ⟨_, _, _, _, _, _, _, _, _, _, _, rfl, _⟩ := h; rfl) | (obtain ⟨rfl | rfl, _⟩ := h <;> rfl) | (obtain ⟨_, rfl | rfl, _⟩ := h <;> rfl) | (obtain ⟨_, _, rfl | rfl, _⟩ := h <;> rfl) | (obtain ⟨_, _, _, rfl | rfl, _⟩ := h <;> rfl) | (obtain ⟨_, _, _, _, rfl | rfl, _⟩ := h <;> rfl) | (obtain ⟨_, _, _, _, _, rfl | rfl, _⟩ := h <;> rfl) | (obtain ⟨_, _, _, _, _, _, rfl | rfl, _⟩ := h <;> rfl) | (obtain ⟨_, _, _, _, _, _, _, rfl | rfl, _⟩ := h <;> rfl) | (dsimp only [gPick] at h; split at h <;> first | rfl | exact h.elim)⟩
  have G_lot : FnD P w K mg base 4 "_law_lot" ["store", "size"] (WdOf K P w [("BadLot", yBadLot)]) gLot := ⟨⟨_, _, (v_lot Flot T rfl G_take G_pick), PySem.W.mg_of X G alot, klot, blot⟩, by
    intro ds Q h
    first | (obtain ⟨rfl, _⟩ := h; rfl) | (obtain ⟨_, rfl, _⟩ := h; rfl) | (obtain ⟨_, _, rfl, _⟩ := h; rfl) | (obtain ⟨_, _, _, rfl, _⟩ := h; rfl) | (obtain ⟨_, _, _, _, rfl, _⟩ := h; rfl) | (obtain ⟨_, _, _, _, _, rfl, _⟩ := h; rfl) | (obtain ⟨_, _, _, _, _, _, rfl, _⟩ := h; rfl) | (obtain ⟨_, _, _, _, _, _, _, rfl, _⟩ := h; rfl) | (obtain ⟨_, _, _, _, _, _, _, _, rfl, _⟩ := h; rfl) | (obtain ⟨_, _, _, _, _, _, _, _, _, rfl, _⟩ := h; rfl) | (obtain ⟨_, _, _, _, _, _, _, _, _, _, rfl, _⟩ := h; rfl) | (obtain ⟨_, _, _, _, _, _, _, _, _, _, _, rfl, _⟩ := h; rfl) | (obtain ⟨rfl | rfl, _⟩ := h <;> rfl) | (obtain ⟨_, rfl | rfl, _⟩ := h <;> rfl) | (obtain ⟨_, _, rfl | rfl, _⟩ := h <;> rfl) | (obtain ⟨_, _, _, rfl | rfl, _⟩ := h <;> rfl) | (obtain ⟨_, _, _, _, rfl | rfl, _⟩ := h <;> rfl) | (obtain ⟨_, _, _, _, _, rfl | rfl, _⟩ := h <;> rfl) | (obtain ⟨_, _, _, _, _, _, rfl | rfl, _⟩ := h <;> rfl) | (obtain ⟨_, _, _, _, _, _, _, rfl | rfl, _⟩ := h <;> rfl) | (dsimp only [gLot] at h; split at h <;> first | rfl | exact h.elim)⟩
  have G_count : FnD P w K mg base 3 "_law_count" ["store", "most"] (WdOf K P w [("BadLot", yBadLot)]) gCount := ⟨⟨_, _, (v_count Fcount T rfl G_take), PySem.W.mg_of X G acount, kcount, bcount⟩, by
    intro ds Q h
    first | (obtain ⟨rfl, _⟩ := h; rfl) | (obtain ⟨_, rfl, _⟩ := h; rfl) | (obtain ⟨_, _, rfl, _⟩ := h; rfl) | (obtain ⟨_, _, _, rfl, _⟩ := h; rfl) | (obtain ⟨_, _, _, _, rfl, _⟩ := h; rfl) | (obtain ⟨_, _, _, _, _, rfl, _⟩ := h; rfl) | (obtain ⟨_, _, _, _, _, _, rfl, _⟩ := h; rfl) | (obtain ⟨_, _, _, _, _, _, _, rfl, _⟩ := h; rfl) | (obtain ⟨_, _, _, _, _, _, _, _, rfl, _⟩ := h; rfl) | (obtain ⟨_, _, _, _, _, _, _, _, _, rfl, _⟩ := h; rfl) | (obtain ⟨_, _, _, _, _, _, _, _, _, _, rfl, _⟩ := h; rfl) | (obtain ⟨_, _, _, _, _, _, _, _, _, _, _, rfl, _⟩ := h; rfl) | (obtain ⟨rfl | rfl, _⟩ := h <;> rfl) | (obtain ⟨_, rfl | rfl, _⟩ := h <;> rfl) | (obtain ⟨_, _, rfl | rfl, _⟩ := h <;> rfl) | (obtain ⟨_, _, _, rfl | rfl, _⟩ := h <;> rfl) | (obtain ⟨_, _, _, _, rfl | rfl, _⟩ := h <;> rfl) | (obtain ⟨_, _, _, _, _, rfl | rfl, _⟩ := h <;> rfl) | (obtain ⟨_, _, _, _, _, _, rfl | rfl, _⟩ := h <;> rfl) | (obtain ⟨_, _, _, _, _, _, _, rfl | rfl, _⟩ := h <;> rfl) | (dsimp only [gCount] at h; split at h <;> first | rfl | exact h.elim)⟩
  have G_lots : FnD P w K mg base 5 "_law_lots" ["store", "size", "most"] (WdOf K P w [("BadLot", yBadLot)]) gLots := ⟨⟨_, _, (v_lots Flots T rfl G_lot G_take G_count), PySem.W.mg_of X G alots, klots, blots⟩, by
    intro ds Q h
    first | (obtain ⟨rfl, _⟩ := h; rfl) | (obtain ⟨_, rfl, _⟩ := h; rfl) | (obtain ⟨_, _, rfl, _⟩ := h; rfl) | (obtain ⟨_, _, _, rfl, _⟩ := h; rfl) | (obtain ⟨_, _, _, _, rfl, _⟩ := h; rfl) | (obtain ⟨_, _, _, _, _, rfl, _⟩ := h; rfl) | (obtain ⟨_, _, _, _, _, _, rfl, _⟩ := h; rfl) | (obtain ⟨_, _, _, _, _, _, _, rfl, _⟩ := h; rfl) | (obtain ⟨_, _, _, _, _, _, _, _, rfl, _⟩ := h; rfl) | (obtain ⟨_, _, _, _, _, _, _, _, _, rfl, _⟩ := h; rfl) | (obtain ⟨_, _, _, _, _, _, _, _, _, _, rfl, _⟩ := h; rfl) | (obtain ⟨_, _, _, _, _, _, _, _, _, _, _, rfl, _⟩ := h; rfl) | (obtain ⟨rfl | rfl, _⟩ := h <;> rfl) | (obtain ⟨_, rfl | rfl, _⟩ := h <;> rfl) | (obtain ⟨_, _, rfl | rfl, _⟩ := h <;> rfl) | (obtain ⟨_, _, _, rfl | rfl, _⟩ := h <;> rfl) | (obtain ⟨_, _, _, _, rfl | rfl, _⟩ := h <;> rfl) | (obtain ⟨_, _, _, _, _, rfl | rfl, _⟩ := h <;> rfl) | (obtain ⟨_, _, _, _, _, _, rfl | rfl, _⟩ := h <;> rfl) | (obtain ⟨_, _, _, _, _, _, _, rfl | rfl, _⟩ := h <;> rfl) | (dsimp only [gLots] at h; split at h <;> first | rfl | exact h.elim)⟩
  have G_ordered : FnM P w K mg base 4 "_law_ordered" ["lots"] (WdOf K P w [("BadLot", yBadLot)]) [(Pordered, lq "_law_ordered"), (Ppair_asked, lq "_law_pair_asked"), (Ptops_asked, lq "_law_tops_asked"), (Ptwo_asked, lq "_law_two_asked"), (Plot_refusals, lq "_law_lot_refusals"), (Prow_refusals, lq "_law_row_refusals"), (Plong_asked, lq "_law_long_asked")] (seqR ordZ) := ⟨⟨_, _, (v_ordered Fordered T rfl rfl rfl M_ordered), PySem.W.mg_of X G aordered, kordered, .all fun us hl => match us, hl with | [_], _ => rfl⟩, by
    intro ds Q h
    first | (obtain ⟨rfl, _⟩ := h; rfl) | (obtain ⟨_, rfl, _⟩ := h; rfl) | (obtain ⟨_, _, rfl, _⟩ := h; rfl) | (obtain ⟨_, _, _, rfl, _⟩ := h; rfl) | (obtain ⟨_, _, _, _, rfl, _⟩ := h; rfl) | (obtain ⟨_, _, _, _, _, rfl, _⟩ := h; rfl) | (obtain ⟨_, _, _, _, _, _, rfl, _⟩ := h; rfl) | (obtain ⟨_, _, _, _, _, _, _, rfl, _⟩ := h; rfl) | (obtain ⟨_, _, _, _, _, _, _, _, rfl, _⟩ := h; rfl) | (obtain ⟨_, _, _, _, _, _, _, _, _, rfl, _⟩ := h; rfl) | (obtain ⟨_, _, _, _, _, _, _, _, _, _, rfl, _⟩ := h; rfl) | (obtain ⟨_, _, _, _, _, _, _, _, _, _, _, rfl, _⟩ := h; rfl) | (obtain ⟨rfl | rfl, _⟩ := h <;> rfl) | (obtain ⟨_, rfl | rfl, _⟩ := h <;> rfl) | (obtain ⟨_, _, rfl | rfl, _⟩ := h <;> rfl) | (obtain ⟨_, _, _, rfl | rfl, _⟩ := h <;> rfl) | (obtain ⟨_, _, _, _, rfl | rfl, _⟩ := h <;> rfl) | (obtain ⟨_, _, _, _, _, rfl | rfl, _⟩ := h <;> rfl) | (obtain ⟨_, _, _, _, _, _, rfl | rfl, _⟩ := h <;> rfl) | (obtain ⟨_, _, _, _, _, _, _, rfl | rfl, _⟩ := h <;> rfl) | (dsimp only [gPick] at h; split at h <;> first | rfl | exact h.elim)⟩
  have G_every_lot : FnM P w K mg base 5 "_law_every_lot" ["size"] (WdOf K P w [("BadLot", yBadLot)]) [(Pordered, lq "_law_ordered"), (Ppair_asked, lq "_law_pair_asked"), (Ptops_asked, lq "_law_tops_asked"), (Ptwo_asked, lq "_law_two_asked"), (Plot_refusals, lq "_law_lot_refusals"), (Prow_refusals, lq "_law_row_refusals"), (Plong_asked, lq "_law_long_asked")] gEvery := ⟨⟨_, _, (v_every_lot Fevery_lot T rfl G_ordered), PySem.W.mg_of X G aevery_lot, kevery_lot, .all fun us hl => match us, hl with | [_], _ => rfl⟩, by
    intro ds Q h
    first | (obtain ⟨rfl, _⟩ := h; rfl) | (obtain ⟨_, rfl, _⟩ := h; rfl) | (obtain ⟨_, _, rfl, _⟩ := h; rfl) | (obtain ⟨_, _, _, rfl, _⟩ := h; rfl) | (obtain ⟨_, _, _, _, rfl, _⟩ := h; rfl) | (obtain ⟨_, _, _, _, _, rfl, _⟩ := h; rfl) | (obtain ⟨_, _, _, _, _, _, rfl, _⟩ := h; rfl) | (obtain ⟨_, _, _, _, _, _, _, rfl, _⟩ := h; rfl) | (obtain ⟨_, _, _, _, _, _, _, _, rfl, _⟩ := h; rfl) | (obtain ⟨_, _, _, _, _, _, _, _, _, rfl, _⟩ := h; rfl) | (obtain ⟨_, _, _, _, _, _, _, _, _, _, rfl, _⟩ := h; rfl) | (obtain ⟨_, _, _, _, _, _, _, _, _, _, _, rfl, _⟩ := h; rfl) | (obtain ⟨rfl | rfl, _⟩ := h <;> rfl) | (obtain ⟨_, rfl | rfl, _⟩ := h <;> rfl) | (obtain ⟨_, _, rfl | rfl, _⟩ := h <;> rfl) | (obtain ⟨_, _, _, rfl | rfl, _⟩ := h <;> rfl) | (obtain ⟨_, _, _, _, rfl | rfl, _⟩ := h <;> rfl) | (obtain ⟨_, _, _, _, _, rfl | rfl, _⟩ := h <;> rfl) | (obtain ⟨_, _, _, _, _, _, rfl | rfl, _⟩ := h <;> rfl) | (obtain ⟨_, _, _, _, _, _, _, rfl | rfl, _⟩ := h <;> rfl) | (dsimp only [gEvery] at h; split at h <;> first | rfl | exact h.elim)⟩
  have G_shuffled : FnD P w K mg base 3 "_law_shuffled" ["store", "things"] (WdOf K P w [("BadLot", yBadLot)]) gShuf := ⟨⟨_, _, (v_shuffled Fshuffled T rfl G_take), PySem.W.mg_of X G ashuffled, kshuffled, bshuffled⟩, by
    intro ds Q h
    first | (obtain ⟨rfl, _⟩ := h; rfl) | (obtain ⟨_, rfl, _⟩ := h; rfl) | (obtain ⟨_, _, rfl, _⟩ := h; rfl) | (obtain ⟨_, _, _, rfl, _⟩ := h; rfl) | (obtain ⟨_, _, _, _, rfl, _⟩ := h; rfl) | (obtain ⟨_, _, _, _, _, rfl, _⟩ := h; rfl) | (obtain ⟨_, _, _, _, _, _, rfl, _⟩ := h; rfl) | (obtain ⟨_, _, _, _, _, _, _, rfl, _⟩ := h; rfl) | (obtain ⟨_, _, _, _, _, _, _, _, rfl, _⟩ := h; rfl) | (obtain ⟨_, _, _, _, _, _, _, _, _, rfl, _⟩ := h; rfl) | (obtain ⟨_, _, _, _, _, _, _, _, _, _, rfl, _⟩ := h; rfl) | (obtain ⟨_, _, _, _, _, _, _, _, _, _, _, rfl, _⟩ := h; rfl) | (obtain ⟨rfl | rfl, _⟩ := h <;> rfl) | (obtain ⟨_, rfl | rfl, _⟩ := h <;> rfl) | (obtain ⟨_, _, rfl | rfl, _⟩ := h <;> rfl) | (obtain ⟨_, _, _, rfl | rfl, _⟩ := h <;> rfl) | (obtain ⟨_, _, _, _, rfl | rfl, _⟩ := h <;> rfl) | (obtain ⟨_, _, _, _, _, rfl | rfl, _⟩ := h <;> rfl) | (obtain ⟨_, _, _, _, _, _, rfl | rfl, _⟩ := h <;> rfl) | (obtain ⟨_, _, _, _, _, _, _, rfl | rfl, _⟩ := h <;> rfl) | (dsimp only [gShuf] at h; split at h <;> first | rfl | exact h.elim)⟩
  have G_doubled : FnD P w K mg base 4 "_law_doubled" ["store", "things"] (WdOf K P w [("BadLot", yBadLot)]) gDoub := ⟨⟨_, _, (v_doubled Fdoubled T rfl G_shuffled G_take), PySem.W.mg_of X G adoubled, kdoubled, bdoubled⟩, by
    intro ds Q h
    first | (obtain ⟨rfl, _⟩ := h; rfl) | (obtain ⟨_, rfl, _⟩ := h; rfl) | (obtain ⟨_, _, rfl, _⟩ := h; rfl) | (obtain ⟨_, _, _, rfl, _⟩ := h; rfl) | (obtain ⟨_, _, _, _, rfl, _⟩ := h; rfl) | (obtain ⟨_, _, _, _, _, rfl, _⟩ := h; rfl) | (obtain ⟨_, _, _, _, _, _, rfl, _⟩ := h; rfl) | (obtain ⟨_, _, _, _, _, _, _, rfl, _⟩ := h; rfl) | (obtain ⟨_, _, _, _, _, _, _, _, rfl, _⟩ := h; rfl) | (obtain ⟨_, _, _, _, _, _, _, _, _, rfl, _⟩ := h; rfl) | (obtain ⟨_, _, _, _, _, _, _, _, _, _, rfl, _⟩ := h; rfl) | (obtain ⟨_, _, _, _, _, _, _, _, _, _, _, rfl, _⟩ := h; rfl) | (obtain ⟨rfl | rfl, _⟩ := h <;> rfl) | (obtain ⟨_, rfl | rfl, _⟩ := h <;> rfl) | (obtain ⟨_, _, rfl | rfl, _⟩ := h <;> rfl) | (obtain ⟨_, _, _, rfl | rfl, _⟩ := h <;> rfl) | (obtain ⟨_, _, _, _, rfl | rfl, _⟩ := h <;> rfl) | (obtain ⟨_, _, _, _, _, rfl | rfl, _⟩ := h <;> rfl) | (obtain ⟨_, _, _, _, _, _, rfl | rfl, _⟩ := h <;> rfl) | (obtain ⟨_, _, _, _, _, _, _, rfl | rfl, _⟩ := h <;> rfl) | (dsimp only [gDoub] at h; split at h <;> first | rfl | exact h.elim)⟩
  have G_group : FnDM P w K mg base 6 "_law_group" ["store"] (WdOf K P w [("BadLot", yBadLot)]) [(Pordered, lq "_law_ordered"), (Ppair_asked, lq "_law_pair_asked"), (Ptops_asked, lq "_law_tops_asked"), (Ptwo_asked, lq "_law_two_asked"), (Plot_refusals, lq "_law_lot_refusals"), (Prow_refusals, lq "_law_row_refusals"), (Plong_asked, lq "_law_long_asked")] gGroup := ⟨⟨_, _, (v_group Fgroup T rfl G_take G_lots G_every_lot G_doubled G_pick), PySem.W.mg_of X G agroup, kgroup, .all fun us hl => match us, hl with | [_], _ => rfl⟩, by
    intro ds Q h
    first | (obtain ⟨rfl, _⟩ := h; rfl) | (obtain ⟨_, rfl, _⟩ := h; rfl) | (obtain ⟨_, _, rfl, _⟩ := h; rfl) | (obtain ⟨_, _, _, rfl, _⟩ := h; rfl) | (obtain ⟨_, _, _, _, rfl, _⟩ := h; rfl) | (obtain ⟨_, _, _, _, _, rfl, _⟩ := h; rfl) | (obtain ⟨_, _, _, _, _, _, rfl, _⟩ := h; rfl) | (obtain ⟨_, _, _, _, _, _, _, rfl, _⟩ := h; rfl) | (obtain ⟨_, _, _, _, _, _, _, _, rfl, _⟩ := h; rfl) | (obtain ⟨_, _, _, _, _, _, _, _, _, rfl, _⟩ := h; rfl) | (obtain ⟨_, _, _, _, _, _, _, _, _, _, rfl, _⟩ := h; rfl) | (obtain ⟨_, _, _, _, _, _, _, _, _, _, _, rfl, _⟩ := h; rfl) | (obtain ⟨rfl | rfl, _⟩ := h <;> rfl) | (obtain ⟨_, rfl | rfl, _⟩ := h <;> rfl) | (obtain ⟨_, _, rfl | rfl, _⟩ := h <;> rfl) | (obtain ⟨_, _, _, rfl | rfl, _⟩ := h <;> rfl) | (obtain ⟨_, _, _, _, rfl | rfl, _⟩ := h <;> rfl) | (obtain ⟨_, _, _, _, _, rfl | rfl, _⟩ := h <;> rfl) | (obtain ⟨_, _, _, _, _, _, rfl | rfl, _⟩ := h <;> rfl) | (obtain ⟨_, _, _, _, _, _, _, rfl | rfl, _⟩ := h <;> rfl) | (dsimp only [gGroup] at h; split at h <;> first | rfl | exact h.elim)⟩
  have G_bad_lot : FnD P w K mg base 4 "_law_bad_lot" ["store", "size"] (WdOf K P w [("BadLot", yBadLot)]) gBdLot := ⟨⟨_, _, (v_bad_lot Fbad_lot T rfl G_pick), PySem.W.mg_of X G abad_lot, kbad_lot, bbad_lot⟩, by
    intro ds Q h
    first | (obtain ⟨rfl, _⟩ := h; rfl) | (obtain ⟨_, rfl, _⟩ := h; rfl) | (obtain ⟨_, _, rfl, _⟩ := h; rfl) | (obtain ⟨_, _, _, rfl, _⟩ := h; rfl) | (obtain ⟨_, _, _, _, rfl, _⟩ := h; rfl) | (obtain ⟨_, _, _, _, _, rfl, _⟩ := h; rfl) | (obtain ⟨_, _, _, _, _, _, rfl, _⟩ := h; rfl) | (obtain ⟨_, _, _, _, _, _, _, rfl, _⟩ := h; rfl) | (obtain ⟨_, _, _, _, _, _, _, _, rfl, _⟩ := h; rfl) | (obtain ⟨_, _, _, _, _, _, _, _, _, rfl, _⟩ := h; rfl) | (obtain ⟨_, _, _, _, _, _, _, _, _, _, rfl, _⟩ := h; rfl) | (obtain ⟨_, _, _, _, _, _, _, _, _, _, _, rfl, _⟩ := h; rfl) | (obtain ⟨rfl | rfl, _⟩ := h <;> rfl) | (obtain ⟨_, rfl | rfl, _⟩ := h <;> rfl) | (obtain ⟨_, _, rfl | rfl, _⟩ := h <;> rfl) | (obtain ⟨_, _, _, rfl | rfl, _⟩ := h <;> rfl) | (obtain ⟨_, _, _, _, rfl | rfl, _⟩ := h <;> rfl) | (obtain ⟨_, _, _, _, _, rfl | rfl, _⟩ := h <;> rfl) | (obtain ⟨_, _, _, _, _, _, rfl | rfl, _⟩ := h <;> rfl) | (obtain ⟨_, _, _, _, _, _, _, rfl | rfl, _⟩ := h <;> rfl) | (dsimp only [gBdLot] at h; split at h <;> first | rfl | exact h.elim)⟩
  have G_bad_sequence : FnD P w K mg base 4 "_law_bad_sequence" ["store"] (WdOf K P w [("BadLot", yBadLot)]) (gOf BQ) := ⟨⟨_, _, (v_bad_sequence Fbad_sequence T rfl G_pick), PySem.W.mg_of X G abad_sequence, kbad_sequence, bbad_sequence⟩, by
    intro ds Q h
    first | (obtain ⟨rfl, _⟩ := h; rfl) | (obtain ⟨_, rfl, _⟩ := h; rfl) | (obtain ⟨_, _, rfl, _⟩ := h; rfl) | (obtain ⟨_, _, _, rfl, _⟩ := h; rfl) | (obtain ⟨_, _, _, _, rfl, _⟩ := h; rfl) | (obtain ⟨_, _, _, _, _, rfl, _⟩ := h; rfl) | (obtain ⟨_, _, _, _, _, _, rfl, _⟩ := h; rfl) | (obtain ⟨_, _, _, _, _, _, _, rfl, _⟩ := h; rfl) | (obtain ⟨_, _, _, _, _, _, _, _, rfl, _⟩ := h; rfl) | (obtain ⟨_, _, _, _, _, _, _, _, _, rfl, _⟩ := h; rfl) | (obtain ⟨_, _, _, _, _, _, _, _, _, _, rfl, _⟩ := h; rfl) | (obtain ⟨_, _, _, _, _, _, _, _, _, _, _, rfl, _⟩ := h; rfl) | (obtain ⟨rfl | rfl, _⟩ := h <;> rfl) | (obtain ⟨_, rfl | rfl, _⟩ := h <;> rfl) | (obtain ⟨_, _, rfl | rfl, _⟩ := h <;> rfl) | (obtain ⟨_, _, _, rfl | rfl, _⟩ := h <;> rfl) | (obtain ⟨_, _, _, _, rfl | rfl, _⟩ := h <;> rfl) | (obtain ⟨_, _, _, _, _, rfl | rfl, _⟩ := h <;> rfl) | (obtain ⟨_, _, _, _, _, _, rfl | rfl, _⟩ := h <;> rfl) | (obtain ⟨_, _, _, _, _, _, _, rfl | rfl, _⟩ := h <;> rfl) | (dsimp only [gPick] at h; split at h <;> first | rfl | exact h.elim)⟩
  have G_inserted : FnD P w K mg base 3 "_law_inserted" ["store", "row", "thing"] (WdOf K P w [("BadLot", yBadLot)]) gIns := ⟨⟨_, _, (v_inserted Finserted T rfl G_take), PySem.W.mg_of X G ainserted, kinserted, binserted⟩, by
    intro ds Q h
    first | (obtain ⟨rfl, _⟩ := h; rfl) | (obtain ⟨_, rfl, _⟩ := h; rfl) | (obtain ⟨_, _, rfl, _⟩ := h; rfl) | (obtain ⟨_, _, _, rfl, _⟩ := h; rfl) | (obtain ⟨_, _, _, _, rfl, _⟩ := h; rfl) | (obtain ⟨_, _, _, _, _, rfl, _⟩ := h; rfl) | (obtain ⟨_, _, _, _, _, _, rfl, _⟩ := h; rfl) | (obtain ⟨_, _, _, _, _, _, _, rfl, _⟩ := h; rfl) | (obtain ⟨_, _, _, _, _, _, _, _, rfl, _⟩ := h; rfl) | (obtain ⟨_, _, _, _, _, _, _, _, _, rfl, _⟩ := h; rfl) | (obtain ⟨_, _, _, _, _, _, _, _, _, _, rfl, _⟩ := h; rfl) | (obtain ⟨_, _, _, _, _, _, _, _, _, _, _, rfl, _⟩ := h; rfl) | (obtain ⟨rfl | rfl, _⟩ := h <;> rfl) | (obtain ⟨_, rfl | rfl, _⟩ := h <;> rfl) | (obtain ⟨_, _, rfl | rfl, _⟩ := h <;> rfl) | (obtain ⟨_, _, _, rfl | rfl, _⟩ := h <;> rfl) | (obtain ⟨_, _, _, _, rfl | rfl, _⟩ := h <;> rfl) | (obtain ⟨_, _, _, _, _, rfl | rfl, _⟩ := h <;> rfl) | (obtain ⟨_, _, _, _, _, _, rfl | rfl, _⟩ := h <;> rfl) | (obtain ⟨_, _, _, _, _, _, _, rfl | rfl, _⟩ := h <;> rfl) | (dsimp only [gIns] at h; split at h <;> first | rfl | exact h.elim)⟩
  have G_sequence : FnD P w K mg base 3 "_law_sequence" ["store", "things"] (WdOf K P w [("BadLot", yBadLot)]) gSeqn := ⟨⟨_, _, (v_sequence Fsequence T rfl G_take), PySem.W.mg_of X G asequence, ksequence, bsequence⟩, by
    intro ds Q h
    first | (obtain ⟨rfl, _⟩ := h; rfl) | (obtain ⟨_, rfl, _⟩ := h; rfl) | (obtain ⟨_, _, rfl, _⟩ := h; rfl) | (obtain ⟨_, _, _, rfl, _⟩ := h; rfl) | (obtain ⟨_, _, _, _, rfl, _⟩ := h; rfl) | (obtain ⟨_, _, _, _, _, rfl, _⟩ := h; rfl) | (obtain ⟨_, _, _, _, _, _, rfl, _⟩ := h; rfl) | (obtain ⟨_, _, _, _, _, _, _, rfl, _⟩ := h; rfl) | (obtain ⟨_, _, _, _, _, _, _, _, rfl, _⟩ := h; rfl) | (obtain ⟨_, _, _, _, _, _, _, _, _, rfl, _⟩ := h; rfl) | (obtain ⟨_, _, _, _, _, _, _, _, _, _, rfl, _⟩ := h; rfl) | (obtain ⟨_, _, _, _, _, _, _, _, _, _, _, rfl, _⟩ := h; rfl) | (obtain ⟨rfl | rfl, _⟩ := h <;> rfl) | (obtain ⟨_, rfl | rfl, _⟩ := h <;> rfl) | (obtain ⟨_, _, rfl | rfl, _⟩ := h <;> rfl) | (obtain ⟨_, _, _, rfl | rfl, _⟩ := h <;> rfl) | (obtain ⟨_, _, _, _, rfl | rfl, _⟩ := h <;> rfl) | (obtain ⟨_, _, _, _, _, rfl | rfl, _⟩ := h <;> rfl) | (obtain ⟨_, _, _, _, _, _, rfl | rfl, _⟩ := h <;> rfl) | (obtain ⟨_, _, _, _, _, _, _, rfl | rfl, _⟩ := h <;> rfl) | (dsimp only [gSeqn] at h; split at h <;> first | rfl | exact h.elim)⟩
  have G_drawn : FnDM P w K mg base 7 "_law_drawn" ["store"] (WdOf K P w [("BadLot", yBadLot)]) [(Pordered, lq "_law_ordered"), (Ppair_asked, lq "_law_pair_asked"), (Ptops_asked, lq "_law_tops_asked"), (Ptwo_asked, lq "_law_two_asked"), (Plot_refusals, lq "_law_lot_refusals"), (Prow_refusals, lq "_law_row_refusals"), (Plong_asked, lq "_law_long_asked")] gDrawn := ⟨⟨_, _, (v_drawn Fdrawn T rfl G_group G_lot G_bad_lot G_bad_sequence G_inserted G_sequence), PySem.W.mg_of X G adrawn, kdrawn, .all fun us hl => match us, hl with | [_], _ => rfl⟩, by
    intro ds Q h
    first | (obtain ⟨rfl, _⟩ := h; rfl) | (obtain ⟨_, rfl, _⟩ := h; rfl) | (obtain ⟨_, _, rfl, _⟩ := h; rfl) | (obtain ⟨_, _, _, rfl, _⟩ := h; rfl) | (obtain ⟨_, _, _, _, rfl, _⟩ := h; rfl) | (obtain ⟨_, _, _, _, _, rfl, _⟩ := h; rfl) | (obtain ⟨_, _, _, _, _, _, rfl, _⟩ := h; rfl) | (obtain ⟨_, _, _, _, _, _, _, rfl, _⟩ := h; rfl) | (obtain ⟨_, _, _, _, _, _, _, _, rfl, _⟩ := h; rfl) | (obtain ⟨_, _, _, _, _, _, _, _, _, rfl, _⟩ := h; rfl) | (obtain ⟨_, _, _, _, _, _, _, _, _, _, rfl, _⟩ := h; rfl) | (obtain ⟨_, _, _, _, _, _, _, _, _, _, _, rfl, _⟩ := h; rfl) | (obtain ⟨rfl | rfl, _⟩ := h <;> rfl) | (obtain ⟨_, rfl | rfl, _⟩ := h <;> rfl) | (obtain ⟨_, _, rfl | rfl, _⟩ := h <;> rfl) | (obtain ⟨_, _, _, rfl | rfl, _⟩ := h <;> rfl) | (obtain ⟨_, _, _, _, rfl | rfl, _⟩ := h <;> rfl) | (obtain ⟨_, _, _, _, _, rfl | rfl, _⟩ := h <;> rfl) | (obtain ⟨_, _, _, _, _, _, rfl | rfl, _⟩ := h <;> rfl) | (obtain ⟨_, _, _, _, _, _, _, rfl | rfl, _⟩ := h <;> rfl) | (dsimp only [gDrawn] at h; split at h <;> first | rfl | exact h.elim)⟩
  have G_sameE : FnE P w K mg base CX0 1 "_law_same" ["told", "due"] (spV (WdOf K P w [("BadLot", yBadLot)]) 2 fun ds Q _ => gSame ds Q) := ⟨_, _, (v_same Fsame T rfl), PySem.W.mg_of X G asame, ksame, bsame⟩
  have Wa : Asks P w K mg base (WdOf K P w [("BadLot", yBadLot)]) (ErrA.mk yRefused yBadWord yBadLot yBadTerm yBadStep yBadShape yBadPlace yBadNumber yBadFilling yBadPlan yBadTarget yBadPaper yBadCall yNotAllowed yBadText yBadStack yTooMany) ftold fis _ _ := ⟨T, GE, Ftold, PySem.W.mg_of X G atold, btold, Fis, PySem.W.mg_of X G ais, bis, G_sameE⟩
  have G_lies : FnN P w K mg base 1 "_law_lies" ["one", "two"] (WdOf K P w [("BadLot", yBadLot)]) gLies := ⟨⟨_, _, (v_lies Flies T rfl), PySem.W.mg_of X G alies, klies, blies⟩, by
    intro ds Q h
    first | (obtain ⟨rfl, _⟩ := h; rfl) | (obtain ⟨_, rfl, _⟩ := h; rfl) | (obtain ⟨_, _, rfl, _⟩ := h; rfl) | (obtain ⟨_, _, _, rfl, _⟩ := h; rfl) | (obtain ⟨_, _, _, _, rfl, _⟩ := h; rfl) | (obtain ⟨_, _, _, _, _, rfl, _⟩ := h; rfl) | (obtain ⟨_, _, _, _, _, _, rfl, _⟩ := h; rfl) | (obtain ⟨_, _, _, _, _, _, _, rfl, _⟩ := h; rfl) | (obtain ⟨_, _, _, _, _, _, _, _, rfl, _⟩ := h; rfl) | (obtain ⟨_, _, _, _, _, _, _, _, _, rfl, _⟩ := h; rfl) | (obtain ⟨_, _, _, _, _, _, _, _, _, _, rfl, _⟩ := h; rfl) | (obtain ⟨_, _, _, _, _, _, _, _, _, _, _, rfl, _⟩ := h; rfl) | (obtain ⟨rfl | rfl, _⟩ := h <;> rfl) | (obtain ⟨_, rfl | rfl, _⟩ := h <;> rfl) | (obtain ⟨_, _, rfl | rfl, _⟩ := h <;> rfl) | (obtain ⟨_, _, _, rfl | rfl, _⟩ := h <;> rfl) | (obtain ⟨_, _, _, _, rfl | rfl, _⟩ := h <;> rfl) | (obtain ⟨_, _, _, _, _, rfl | rfl, _⟩ := h <;> rfl) | (obtain ⟨_, _, _, _, _, _, rfl | rfl, _⟩ := h <;> rfl) | (obtain ⟨_, _, _, _, _, _, _, rfl | rfl, _⟩ := h <;> rfl) | (dsimp only [gLies] at h; split at h <;> first | rfl | exact h.elim)⟩
  have G_tops : FnM P w K mg base 5 "_law_tops" ["lots"] (WdOf K P w [("BadLot", yBadLot)]) [(Pordered, lq "_law_ordered"), (Ppair_asked, lq "_law_pair_asked"), (Ptops_asked, lq "_law_tops_asked"), (Ptwo_asked, lq "_law_two_asked"), (Plot_refusals, lq "_law_lot_refusals"), (Prow_refusals, lq "_law_row_refusals"), (Plong_asked, lq "_law_long_asked")] (seqR topsZ) := ⟨⟨_, _, (v_Ltops FLtops T rfl G_ordered G_lies), PySem.W.mg_of X G aLtops, kLtops, .all fun us hl => match us, hl with | [_], _ => rfl⟩, by
    intro ds Q h
    first | (obtain ⟨rfl, _⟩ := h; rfl) | (obtain ⟨_, rfl, _⟩ := h; rfl) | (obtain ⟨_, _, rfl, _⟩ := h; rfl) | (obtain ⟨_, _, _, rfl, _⟩ := h; rfl) | (obtain ⟨_, _, _, _, rfl, _⟩ := h; rfl) | (obtain ⟨_, _, _, _, _, rfl, _⟩ := h; rfl) | (obtain ⟨_, _, _, _, _, _, rfl, _⟩ := h; rfl) | (obtain ⟨_, _, _, _, _, _, _, rfl, _⟩ := h; rfl) | (obtain ⟨_, _, _, _, _, _, _, _, rfl, _⟩ := h; rfl) | (obtain ⟨_, _, _, _, _, _, _, _, _, rfl, _⟩ := h; rfl) | (obtain ⟨_, _, _, _, _, _, _, _, _, _, rfl, _⟩ := h; rfl) | (obtain ⟨_, _, _, _, _, _, _, _, _, _, _, rfl, _⟩ := h; rfl) | (obtain ⟨rfl | rfl, _⟩ := h <;> rfl) | (obtain ⟨_, rfl | rfl, _⟩ := h <;> rfl) | (obtain ⟨_, _, rfl | rfl, _⟩ := h <;> rfl) | (obtain ⟨_, _, _, rfl | rfl, _⟩ := h <;> rfl) | (obtain ⟨_, _, _, _, rfl | rfl, _⟩ := h <;> rfl) | (obtain ⟨_, _, _, _, _, rfl | rfl, _⟩ := h <;> rfl) | (obtain ⟨_, _, _, _, _, _, rfl | rfl, _⟩ := h <;> rfl) | (obtain ⟨_, _, _, _, _, _, _, rfl | rfl, _⟩ := h <;> rfl) | (dsimp only [gPick] at h; split at h <;> first | rfl | exact h.elim)⟩
  have P_in_order : FnV P w K mg base 4 "in_order" ["lots"] (WdOf K P w [("BadLot", yBadLot)]) fOrd6 := ⟨⟨_, _, (v_in_order Fin_order T rfl rfl rfl), PySem.W.mg_of X G ain_order, kin_order, bin_order⟩, by
    intro ds Q R h
    first | (obtain ⟨rfl, _⟩ := h; rfl) | (obtain ⟨_, rfl, _⟩ := h; rfl) | (obtain ⟨_, _, rfl, _⟩ := h; rfl) | (obtain ⟨_, _, _, rfl, _⟩ := h; rfl) | (obtain ⟨_, _, _, _, rfl, _⟩ := h; rfl) | (obtain ⟨_, _, _, _, _, rfl, _⟩ := h; rfl) | (obtain ⟨_, _, _, _, _, _, rfl, _⟩ := h; rfl) | (obtain ⟨_, _, _, _, _, _, _, rfl, _⟩ := h; rfl) | (obtain ⟨_, _, _, _, _, _, _, _, rfl, _⟩ := h; rfl) | (obtain ⟨_, _, _, _, _, _, _, _, _, rfl, _⟩ := h; rfl) | (obtain ⟨_, _, _, _, _, _, _, _, _, _, rfl, _⟩ := h; rfl) | (obtain ⟨_, _, _, _, _, _, _, _, _, _, _, rfl, _⟩ := h; rfl) | (obtain ⟨rfl | rfl, _⟩ := h <;> rfl) | (obtain ⟨_, rfl | rfl, _⟩ := h <;> rfl) | (obtain ⟨_, _, rfl | rfl, _⟩ := h <;> rfl) | (obtain ⟨_, _, _, rfl | rfl, _⟩ := h <;> rfl) | (obtain ⟨_, _, _, _, rfl | rfl, _⟩ := h <;> rfl) | (obtain ⟨_, _, _, _, _, rfl | rfl, _⟩ := h <;> rfl) | (obtain ⟨_, _, _, _, _, _, rfl | rfl, _⟩ := h <;> rfl) | (obtain ⟨_, _, _, _, _, _, _, rfl | rfl, _⟩ := h <;> rfl) | (dsimp only [fOrd6] at h; split at h <;> first | rfl | exact h.elim)⟩
  have P_is_within : FnV P w K mg base 1 "is_within" ["one", "two"] (WdOf K P w [("BadLot", yBadLot)]) fWithin := ⟨⟨_, _, (v_is_within Fis_within T rfl), PySem.W.mg_of X G ais_within, kis_within, bis_within⟩, by
    intro ds Q R h
    first | (obtain ⟨rfl, _⟩ := h; rfl) | (obtain ⟨_, rfl, _⟩ := h; rfl) | (obtain ⟨_, _, rfl, _⟩ := h; rfl) | (obtain ⟨_, _, _, rfl, _⟩ := h; rfl) | (obtain ⟨_, _, _, _, rfl, _⟩ := h; rfl) | (obtain ⟨_, _, _, _, _, rfl, _⟩ := h; rfl) | (obtain ⟨_, _, _, _, _, _, rfl, _⟩ := h; rfl) | (obtain ⟨_, _, _, _, _, _, _, rfl, _⟩ := h; rfl) | (obtain ⟨_, _, _, _, _, _, _, _, rfl, _⟩ := h; rfl) | (obtain ⟨_, _, _, _, _, _, _, _, _, rfl, _⟩ := h; rfl) | (obtain ⟨_, _, _, _, _, _, _, _, _, _, rfl, _⟩ := h; rfl) | (obtain ⟨_, _, _, _, _, _, _, _, _, _, _, rfl, _⟩ := h; rfl) | (obtain ⟨rfl | rfl, _⟩ := h <;> rfl) | (obtain ⟨_, rfl | rfl, _⟩ := h <;> rfl) | (obtain ⟨_, _, rfl | rfl, _⟩ := h <;> rfl) | (obtain ⟨_, _, _, rfl | rfl, _⟩ := h <;> rfl) | (obtain ⟨_, _, _, _, rfl | rfl, _⟩ := h <;> rfl) | (obtain ⟨_, _, _, _, _, rfl | rfl, _⟩ := h <;> rfl) | (obtain ⟨_, _, _, _, _, _, rfl | rfl, _⟩ := h <;> rfl) | (obtain ⟨_, _, _, _, _, _, _, rfl | rfl, _⟩ := h <;> rfl) | (dsimp only [fWithin] at h; split at h <;> first | rfl | exact h.elim)⟩
  have P_greatest : FnF P w K mg base 5 "greatest" ["lots"] (WdOf K P w [("BadLot", yBadLot)]) fGreat := ⟨⟨_, _, (v_greatest Fgreatest T rfl P_in_order P_is_within), PySem.W.mg_of X G agreatest, kgreatest, bgreatest⟩, by
    intro ds Q R h
    first | (obtain ⟨rfl, _⟩ := h; rfl) | (obtain ⟨_, rfl, _⟩ := h; rfl) | (obtain ⟨_, _, rfl, _⟩ := h; rfl) | (obtain ⟨_, _, _, rfl, _⟩ := h; rfl) | (obtain ⟨_, _, _, _, rfl, _⟩ := h; rfl) | (obtain ⟨_, _, _, _, _, rfl, _⟩ := h; rfl) | (obtain ⟨_, _, _, _, _, _, rfl, _⟩ := h; rfl) | (obtain ⟨_, _, _, _, _, _, _, rfl, _⟩ := h; rfl) | (obtain ⟨_, _, _, _, _, _, _, _, rfl, _⟩ := h; rfl) | (obtain ⟨_, _, _, _, _, _, _, _, _, rfl, _⟩ := h; rfl) | (obtain ⟨_, _, _, _, _, _, _, _, _, _, rfl, _⟩ := h; rfl) | (obtain ⟨_, _, _, _, _, _, _, _, _, _, _, rfl, _⟩ := h; rfl) | (obtain ⟨rfl | rfl, _⟩ := h <;> rfl) | (obtain ⟨_, rfl | rfl, _⟩ := h <;> rfl) | (obtain ⟨_, _, rfl | rfl, _⟩ := h <;> rfl) | (obtain ⟨_, _, _, rfl | rfl, _⟩ := h <;> rfl) | (obtain ⟨_, _, _, _, rfl | rfl, _⟩ := h <;> rfl) | (obtain ⟨_, _, _, _, _, rfl | rfl, _⟩ := h <;> rfl) | (obtain ⟨_, _, _, _, _, _, rfl | rfl, _⟩ := h <;> rfl) | (obtain ⟨_, _, _, _, _, _, _, rfl | rfl, _⟩ := h <;> rfl) | (dsimp only [fGreat] at h; split at h <;> first | rfl | exact h.elim)⟩
  have P_slots_below : FnV P w K mg base 1 "slots_below" ["size"] (WdOf K P w [("BadLot", yBadLot)]) fSlots := ⟨⟨_, _, (v_slots_below Fslots_below T Cc rfl E_BadLot), PySem.W.mg_of X G aslots_below, kslots_below, bslots_below⟩, by
    intro ds Q R h
    first | (obtain ⟨rfl, _⟩ := h; rfl) | (obtain ⟨_, rfl, _⟩ := h; rfl) | (obtain ⟨_, _, rfl, _⟩ := h; rfl) | (obtain ⟨_, _, _, rfl, _⟩ := h; rfl) | (obtain ⟨_, _, _, _, rfl, _⟩ := h; rfl) | (obtain ⟨_, _, _, _, _, rfl, _⟩ := h; rfl) | (obtain ⟨_, _, _, _, _, _, rfl, _⟩ := h; rfl) | (obtain ⟨_, _, _, _, _, _, _, rfl, _⟩ := h; rfl) | (obtain ⟨_, _, _, _, _, _, _, _, rfl, _⟩ := h; rfl) | (obtain ⟨_, _, _, _, _, _, _, _, _, rfl, _⟩ := h; rfl) | (obtain ⟨_, _, _, _, _, _, _, _, _, _, rfl, _⟩ := h; rfl) | (obtain ⟨_, _, _, _, _, _, _, _, _, _, _, rfl, _⟩ := h; rfl) | (obtain ⟨rfl | rfl, _⟩ := h <;> rfl) | (obtain ⟨_, rfl | rfl, _⟩ := h <;> rfl) | (obtain ⟨_, _, rfl | rfl, _⟩ := h <;> rfl) | (obtain ⟨_, _, _, rfl | rfl, _⟩ := h <;> rfl) | (obtain ⟨_, _, _, _, rfl | rfl, _⟩ := h <;> rfl) | (obtain ⟨_, _, _, _, _, rfl | rfl, _⟩ := h <;> rfl) | (obtain ⟨_, _, _, _, _, _, rfl | rfl, _⟩ := h <;> rfl) | (obtain ⟨_, _, _, _, _, _, _, rfl | rfl, _⟩ := h <;> rfl) | (dsimp only [fSlots] at h; split at h <;> first | rfl | exact h.elim)⟩
  obtain ⟨dscheck_lot, vdcheck_lot, bdcheck_lot⟩ := Fcheck_lot.binds1 (ps := ["lot", "size"]) 1 0 (by simp) rfl fun _ _ _ _ _ _ _ us its h1 h2 => match us, its, h1, h2 with | [_], [_], _, _ => ⟨_, rfl, rfl⟩
  have PD_check_lot : FnVD P w K mg base 2 "check_lot" ["lot", "size"] (WdOf K P w [("BadLot", yBadLot)]) fChk 1 [.int 6] [.int 6] := ⟨⟨_, _, dscheck_lot, (v_check_lot Fcheck_lot T rfl E_BadLot P_slots_below), PySem.W.mg_of X G acheck_lot, kcheck_lot, vdcheck_lot, bdcheck_lot, fun S H => .cons (by constructor) (.nil)⟩⟩
  have P_check_lots : FnV P w K mg base 3 "check_lots" ["lots"] (WdOf K P w [("BadLot", yBadLot)]) fChks := ⟨⟨_, _, (v_check_lots Fcheck_lots T rfl E_BadLot PD_check_lot), PySem.W.mg_of X G acheck_lots, kcheck_lots, bcheck_lots⟩, by
    intro ds Q R h
    first | (obtain ⟨rfl, _⟩ := h; rfl) | (obtain ⟨_, rfl, _⟩ := h; rfl) | (obtain ⟨_, _, rfl, _⟩ := h; rfl) | (obtain ⟨_, _, _, rfl, _⟩ := h; rfl) | (obtain ⟨_, _, _, _, rfl, _⟩ := h; rfl) | (obtain ⟨_, _, _, _, _, rfl, _⟩ := h; rfl) | (obtain ⟨_, _, _, _, _, _, rfl, _⟩ := h; rfl) | (obtain ⟨_, _, _, _, _, _, _, rfl, _⟩ := h; rfl) | (obtain ⟨_, _, _, _, _, _, _, _, rfl, _⟩ := h; rfl) | (obtain ⟨_, _, _, _, _, _, _, _, _, rfl, _⟩ := h; rfl) | (obtain ⟨_, _, _, _, _, _, _, _, _, _, rfl, _⟩ := h; rfl) | (obtain ⟨_, _, _, _, _, _, _, _, _, _, _, rfl, _⟩ := h; rfl) | (obtain ⟨rfl | rfl, _⟩ := h <;> rfl) | (obtain ⟨_, rfl | rfl, _⟩ := h <;> rfl) | (obtain ⟨_, _, rfl | rfl, _⟩ := h <;> rfl) | (obtain ⟨_, _, _, rfl | rfl, _⟩ := h <;> rfl) | (obtain ⟨_, _, _, _, rfl | rfl, _⟩ := h <;> rfl) | (obtain ⟨_, _, _, _, _, rfl | rfl, _⟩ := h <;> rfl) | (obtain ⟨_, _, _, _, _, _, rfl | rfl, _⟩ := h <;> rfl) | (obtain ⟨_, _, _, _, _, _, _, rfl | rfl, _⟩ := h <;> rfl) | (dsimp only [fChks] at h; split at h <;> first | rfl | exact h.elim)⟩
  have P_tops : FnF P w K mg base 6 "tops" ["lots"] (WdOf K P w [("BadLot", yBadLot)]) fTops := ⟨⟨_, _, (v_tops Ftops T rfl P_greatest P_check_lots), PySem.W.mg_of X G atops, ktops, btops⟩, by
    intro ds Q R h
    first | (obtain ⟨rfl, _⟩ := h; rfl) | (obtain ⟨_, rfl, _⟩ := h; rfl) | (obtain ⟨_, _, rfl, _⟩ := h; rfl) | (obtain ⟨_, _, _, rfl, _⟩ := h; rfl) | (obtain ⟨_, _, _, _, rfl, _⟩ := h; rfl) | (obtain ⟨_, _, _, _, _, rfl, _⟩ := h; rfl) | (obtain ⟨_, _, _, _, _, _, rfl, _⟩ := h; rfl) | (obtain ⟨_, _, _, _, _, _, _, rfl, _⟩ := h; rfl) | (obtain ⟨_, _, _, _, _, _, _, _, rfl, _⟩ := h; rfl) | (obtain ⟨_, _, _, _, _, _, _, _, _, rfl, _⟩ := h; rfl) | (obtain ⟨_, _, _, _, _, _, _, _, _, _, rfl, _⟩ := h; rfl) | (obtain ⟨_, _, _, _, _, _, _, _, _, _, _, rfl, _⟩ := h; rfl) | (obtain ⟨rfl | rfl, _⟩ := h <;> rfl) | (obtain ⟨_, rfl | rfl, _⟩ := h <;> rfl) | (obtain ⟨_, _, rfl | rfl, _⟩ := h <;> rfl) | (obtain ⟨_, _, _, rfl | rfl, _⟩ := h <;> rfl) | (obtain ⟨_, _, _, _, rfl | rfl, _⟩ := h <;> rfl) | (obtain ⟨_, _, _, _, _, rfl | rfl, _⟩ := h <;> rfl) | (obtain ⟨_, _, _, _, _, _, rfl | rfl, _⟩ := h <;> rfl) | (obtain ⟨_, _, _, _, _, _, _, rfl | rfl, _⟩ := h <;> rfl) | (dsimp only [fTops] at h; split at h <;> first | rfl | exact h.elim)⟩
  have G_same : FnN P w K mg base 1 "_law_same" ["told", "due"] (WdOf K P w [("BadLot", yBadLot)]) gSame := ⟨⟨_, _, (v_same Fsame T rfl), PySem.W.mg_of X G asame, ksame, bsame⟩, by
    intro ds Q h
    first | (obtain ⟨rfl, _⟩ := h; rfl) | (obtain ⟨_, rfl, _⟩ := h; rfl) | (obtain ⟨_, _, rfl, _⟩ := h; rfl) | (obtain ⟨_, _, _, rfl, _⟩ := h; rfl) | (obtain ⟨_, _, _, _, rfl, _⟩ := h; rfl) | (obtain ⟨_, _, _, _, _, rfl, _⟩ := h; rfl) | (obtain ⟨_, _, _, _, _, _, rfl, _⟩ := h; rfl) | (obtain ⟨_, _, _, _, _, _, _, rfl, _⟩ := h; rfl) | (obtain ⟨_, _, _, _, _, _, _, _, rfl, _⟩ := h; rfl) | (obtain ⟨_, _, _, _, _, _, _, _, _, rfl, _⟩ := h; rfl) | (obtain ⟨_, _, _, _, _, _, _, _, _, _, rfl, _⟩ := h; rfl) | (obtain ⟨_, _, _, _, _, _, _, _, _, _, _, rfl, _⟩ := h; rfl) | (obtain ⟨rfl | rfl, _⟩ := h <;> rfl) | (obtain ⟨_, rfl | rfl, _⟩ := h <;> rfl) | (obtain ⟨_, _, rfl | rfl, _⟩ := h <;> rfl) | (obtain ⟨_, _, _, rfl | rfl, _⟩ := h <;> rfl) | (obtain ⟨_, _, _, _, rfl | rfl, _⟩ := h <;> rfl) | (obtain ⟨_, _, _, _, _, rfl | rfl, _⟩ := h <;> rfl) | (obtain ⟨_, _, _, _, _, _, rfl | rfl, _⟩ := h <;> rfl) | (obtain ⟨_, _, _, _, _, _, _, rfl | rfl, _⟩ := h <;> rfl) | (dsimp only [gSame] at h; split at h <;> first | rfl | exact h.elim)⟩
  have G_covered : FnN P w K mg base 2 "_law_covered" ["lot", "lots"] (WdOf K P w [("BadLot", yBadLot)]) gCovered := ⟨⟨_, _, (v_covered Fcovered T rfl G_lies), PySem.W.mg_of X G acovered, kcovered, bcovered⟩, by
    intro ds Q h
    first | (obtain ⟨rfl, _⟩ := h; rfl) | (obtain ⟨_, rfl, _⟩ := h; rfl) | (obtain ⟨_, _, rfl, _⟩ := h; rfl) | (obtain ⟨_, _, _, rfl, _⟩ := h; rfl) | (obtain ⟨_, _, _, _, rfl, _⟩ := h; rfl) | (obtain ⟨_, _, _, _, _, rfl, _⟩ := h; rfl) | (obtain ⟨_, _, _, _, _, _, rfl, _⟩ := h; rfl) | (obtain ⟨_, _, _, _, _, _, _, rfl, _⟩ := h; rfl) | (obtain ⟨_, _, _, _, _, _, _, _, rfl, _⟩ := h; rfl) | (obtain ⟨_, _, _, _, _, _, _, _, _, rfl, _⟩ := h; rfl) | (obtain ⟨_, _, _, _, _, _, _, _, _, _, rfl, _⟩ := h; rfl) | (obtain ⟨_, _, _, _, _, _, _, _, _, _, _, rfl, _⟩ := h; rfl) | (obtain ⟨rfl | rfl, _⟩ := h <;> rfl) | (obtain ⟨_, rfl | rfl, _⟩ := h <;> rfl) | (obtain ⟨_, _, rfl | rfl, _⟩ := h <;> rfl) | (obtain ⟨_, _, _, rfl | rfl, _⟩ := h <;> rfl) | (obtain ⟨_, _, _, _, rfl | rfl, _⟩ := h <;> rfl) | (obtain ⟨_, _, _, _, _, rfl | rfl, _⟩ := h <;> rfl) | (obtain ⟨_, _, _, _, _, _, rfl | rfl, _⟩ := h <;> rfl) | (obtain ⟨_, _, _, _, _, _, _, rfl | rfl, _⟩ := h <;> rfl) | (dsimp only [gCovered] at h; split at h <;> first | rfl | exact h.elim)⟩
  have PK_tops_0_lots : FnFK P w K mg base 6 "tops" ["lots"] (WdOf K P w [("BadLot", yBadLot)]) fTops 0 ["lots"] (fun _ zs => zs) := ⟨⟨ftops, _, (fun _ ws => ws), (fun _ ws => ws), (v_tops Ftops T rfl P_greatest P_check_lots), PySem.W.mg_of X G atops, ktops, ⟨fun s us ws _ h1 h2 => match us, ws, h1, h2 with | [], [_], _, _ => .of_eq rfl, fun r1 r2 => r2⟩, fun S H vs zs ds es l1 l2 r1 r2 => r2⟩⟩
  have P_is_covered : FnV P w K mg base 4 "is_covered" ["lot", "lots"] (WdOf K P w [("BadLot", yBadLot)]) fCov := ⟨⟨_, _, (v_is_covered Fis_covered T rfl PD_check_lot P_is_within P_check_lots), PySem.W.mg_of X G ais_covered, kis_covered, bis_covered⟩, by
    intro ds Q R h
    first | (obtain ⟨rfl, _⟩ := h; rfl) | (obtain ⟨_, rfl, _⟩ := h; rfl) | (obtain ⟨_, _, rfl, _⟩ := h; rfl) | (obtain ⟨_, _, _, rfl, _⟩ := h; rfl) | (obtain ⟨_, _, _, _, rfl, _⟩ := h; rfl) | (obtain ⟨_, _, _, _, _, rfl, _⟩ := h; rfl) | (obtain ⟨_, _, _, _, _, _, rfl, _⟩ := h; rfl) | (obtain ⟨_, _, _, _, _, _, _, rfl, _⟩ := h; rfl) | (obtain ⟨_, _, _, _, _, _, _, _, rfl, _⟩ := h; rfl) | (obtain ⟨_, _, _, _, _, _, _, _, _, rfl, _⟩ := h; rfl) | (obtain ⟨_, _, _, _, _, _, _, _, _, _, rfl, _⟩ := h; rfl) | (obtain ⟨_, _, _, _, _, _, _, _, _, _, _, rfl, _⟩ := h; rfl) | (obtain ⟨rfl | rfl, _⟩ := h <;> rfl) | (obtain ⟨_, rfl | rfl, _⟩ := h <;> rfl) | (obtain ⟨_, _, rfl | rfl, _⟩ := h <;> rfl) | (obtain ⟨_, _, _, rfl | rfl, _⟩ := h <;> rfl) | (obtain ⟨_, _, _, _, rfl | rfl, _⟩ := h <;> rfl) | (obtain ⟨_, _, _, _, _, rfl | rfl, _⟩ := h <;> rfl) | (obtain ⟨_, _, _, _, _, _, rfl | rfl, _⟩ := h <;> rfl) | (obtain ⟨_, _, _, _, _, _, _, rfl | rfl, _⟩ := h <;> rfl) | (dsimp only [fCov] at h; split at h <;> first | rfl | exact h.elim)⟩
  have PK_is_covered_0_lots_lot : FnVK P w K mg base 4 "is_covered" ["lot", "lots"] (WdOf K P w [("BadLot", yBadLot)]) fCov 0 ["lots", "lot"] (fun _ zs => permL [1, 0] zs) := ⟨⟨fis_covered, _, (fun _ zs => permL [1, 0] zs), (fun _ zs => permL [1, 0] zs), (v_is_covered Fis_covered T rfl PD_check_lot P_is_within P_check_lots), PySem.W.mg_of X G ais_covered, kis_covered, ⟨fun s us ws _ h1 h2 => match us, ws, h1, h2 with | [], [_, _], _, _ => .of_eq rfl, fun r1 r2 => vals_perm _ r2⟩, fun S H vs zs ds es l1 l2 r1 r2 => rep_perm r2 _⟩⟩
  have G_tops_asked : FnM P w K mg base 10 "_law_tops_asked" ["lots", "pair"] (WdOf K P w [("BadLot", yBadLot)]) [(Pordered, lq "_law_ordered"), (Ppair_asked, lq "_law_pair_asked"), (Ptops_asked, lq "_law_tops_asked"), (Ptwo_asked, lq "_law_two_asked"), (Plot_refusals, lq "_law_lot_refusals"), (Prow_refusals, lq "_law_row_refusals"), (Plong_asked, lq "_law_long_asked")] gTopsA := ⟨⟨_, _, (v_tops_asked Ftops_asked T rfl Wa hEt M_tops_asked G_tops P_tops G_same G_covered PK_tops_0_lots P_is_covered PK_is_covered_0_lots_lot), PySem.W.mg_of X G atops_asked, ktops_asked, .all fun us hl => match us, hl with | [_, _], _ => rfl⟩, by
    intro ds Q h
    first | (obtain ⟨rfl, _⟩ := h; rfl) | (obtain ⟨_, rfl, _⟩ := h; rfl) | (obtain ⟨_, _, rfl, _⟩ := h; rfl) | (obtain ⟨_, _, _, rfl, _⟩ := h; rfl) | (obtain ⟨_, _, _, _, rfl, _⟩ := h; rfl) | (obtain ⟨_, _, _, _, _, rfl, _⟩ := h; rfl) | (obtain ⟨_, _, _, _, _, _, rfl, _⟩ := h; rfl) | (obtain ⟨_, _, _, _, _, _, _, rfl, _⟩ := h; rfl) | (obtain ⟨_, _, _, _, _, _, _, _, rfl, _⟩ := h; rfl) | (obtain ⟨_, _, _, _, _, _, _, _, _, rfl, _⟩ := h; rfl) | (obtain ⟨_, _, _, _, _, _, _, _, _, _, rfl, _⟩ := h; rfl) | (obtain ⟨_, _, _, _, _, _, _, _, _, _, _, rfl, _⟩ := h; rfl) | (obtain ⟨rfl | rfl, _⟩ := h <;> rfl) | (obtain ⟨_, rfl | rfl, _⟩ := h <;> rfl) | (obtain ⟨_, _, rfl | rfl, _⟩ := h <;> rfl) | (obtain ⟨_, _, _, rfl | rfl, _⟩ := h <;> rfl) | (obtain ⟨_, _, _, _, rfl | rfl, _⟩ := h <;> rfl) | (obtain ⟨_, _, _, _, _, rfl | rfl, _⟩ := h <;> rfl) | (obtain ⟨_, _, _, _, _, _, rfl | rfl, _⟩ := h <;> rfl) | (obtain ⟨_, _, _, _, _, _, _, rfl | rfl, _⟩ := h <;> rfl) | (dsimp only [gTopsA] at h; split at h <;> first | rfl | exact h.elim)⟩
  have P_union : FnV P w K mg base 3 "union" ["one", "two"] (WdOf K P w [("BadLot", yBadLot)]) (fTwo uniD) := ⟨⟨_, _, (v_union Funion T Cc rfl PD_check_lot), PySem.W.mg_of X G aunion, kunion, bunion⟩, by
    intro ds Q R h
    first | (obtain ⟨rfl, _⟩ := h; rfl) | (obtain ⟨_, rfl, _⟩ := h; rfl) | (obtain ⟨_, _, rfl, _⟩ := h; rfl) | (obtain ⟨_, _, _, rfl, _⟩ := h; rfl) | (obtain ⟨_, _, _, _, rfl, _⟩ := h; rfl) | (obtain ⟨_, _, _, _, _, rfl, _⟩ := h; rfl) | (obtain ⟨_, _, _, _, _, _, rfl, _⟩ := h; rfl) | (obtain ⟨_, _, _, _, _, _, _, rfl, _⟩ := h; rfl) | (obtain ⟨_, _, _, _, _, _, _, _, rfl, _⟩ := h; rfl) | (obtain ⟨_, _, _, _, _, _, _, _, _, rfl, _⟩ := h; rfl) | (obtain ⟨_, _, _, _, _, _, _, _, _, _, rfl, _⟩ := h; rfl) | (obtain ⟨_, _, _, _, _, _, _, _, _, _, _, rfl, _⟩ := h; rfl) | (obtain ⟨rfl | rfl, _⟩ := h <;> rfl) | (obtain ⟨_, rfl | rfl, _⟩ := h <;> rfl) | (obtain ⟨_, _, rfl | rfl, _⟩ := h <;> rfl) | (obtain ⟨_, _, _, rfl | rfl, _⟩ := h <;> rfl) | (obtain ⟨_, _, _, _, rfl | rfl, _⟩ := h <;> rfl) | (obtain ⟨_, _, _, _, _, rfl | rfl, _⟩ := h <;> rfl) | (obtain ⟨_, _, _, _, _, _, rfl | rfl, _⟩ := h <;> rfl) | (obtain ⟨_, _, _, _, _, _, _, rfl | rfl, _⟩ := h <;> rfl) | (dsimp only [gPick] at h; split at h <;> first | rfl | exact h.elim)⟩
  have PK_union_0_two_one : FnVK P w K mg base 3 "union" ["one", "two"] (WdOf K P w [("BadLot", yBadLot)]) (fTwo uniD) 0 ["two", "one"] (fun _ zs => permL [1, 0] zs) := ⟨⟨funion, _, (fun _ zs => permL [1, 0] zs), (fun _ zs => permL [1, 0] zs), (v_union Funion T Cc rfl PD_check_lot), PySem.W.mg_of X G aunion, kunion, ⟨fun s us ws _ h1 h2 => match us, ws, h1, h2 with | [], [_, _], _, _ => .of_eq rfl, fun r1 r2 => vals_perm _ r2⟩, fun S H vs zs ds es l1 l2 r1 r2 => rep_perm r2 _⟩⟩
  have P_shared : FnV P w K mg base 1 "shared" ["one", "two"] (WdOf K P w [("BadLot", yBadLot)]) fShared := ⟨⟨_, _, (v_shared Fshared T rfl), PySem.W.mg_of X G ashared, kshared, bshared⟩, by
    intro ds Q R h
    first | (obtain ⟨rfl, _⟩ := h; rfl) | (obtain ⟨_, rfl, _⟩ := h; rfl) | (obtain ⟨_, _, rfl, _⟩ := h; rfl) | (obtain ⟨_, _, _, rfl, _⟩ := h; rfl) | (obtain ⟨_, _, _, _, rfl, _⟩ := h; rfl) | (obtain ⟨_, _, _, _, _, rfl, _⟩ := h; rfl) | (obtain ⟨_, _, _, _, _, _, rfl, _⟩ := h; rfl) | (obtain ⟨_, _, _, _, _, _, _, rfl, _⟩ := h; rfl) | (obtain ⟨_, _, _, _, _, _, _, _, rfl, _⟩ := h; rfl) | (obtain ⟨_, _, _, _, _, _, _, _, _, rfl, _⟩ := h; rfl) | (obtain ⟨_, _, _, _, _, _, _, _, _, _, rfl, _⟩ := h; rfl) | (obtain ⟨_, _, _, _, _, _, _, _, _, _, _, rfl, _⟩ := h; rfl) | (obtain ⟨rfl | rfl, _⟩ := h <;> rfl) | (obtain ⟨_, rfl | rfl, _⟩ := h <;> rfl) | (obtain ⟨_, _, rfl | rfl, _⟩ := h <;> rfl) | (obtain ⟨_, _, _, rfl | rfl, _⟩ := h <;> rfl) | (obtain ⟨_, _, _, _, rfl | rfl, _⟩ := h <;> rfl) | (obtain ⟨_, _, _, _, _, rfl | rfl, _⟩ := h <;> rfl) | (obtain ⟨_, _, _, _, _, _, rfl | rfl, _⟩ := h <;> rfl) | (obtain ⟨_, _, _, _, _, _, _, rfl | rfl, _⟩ := h <;> rfl) | (dsimp only [fShared] at h; split at h <;> first | rfl | exact h.elim)⟩
  have P_common : FnV P w K mg base 3 "common" ["one", "two"] (WdOf K P w [("BadLot", yBadLot)]) (fTwo comD) := ⟨⟨_, _, (v_common Fcommon T rfl PD_check_lot P_shared), PySem.W.mg_of X G acommon, kcommon, bcommon⟩, by
    intro ds Q R h
    first | (obtain ⟨rfl, _⟩ := h; rfl) | (obtain ⟨_, rfl, _⟩ := h; rfl) | (obtain ⟨_, _, rfl, _⟩ := h; rfl) | (obtain ⟨_, _, _, rfl, _⟩ := h; rfl) | (obtain ⟨_, _, _, _, rfl, _⟩ := h; rfl) | (obtain ⟨_, _, _, _, _, rfl, _⟩ := h; rfl) | (obtain ⟨_, _, _, _, _, _, rfl, _⟩ := h; rfl) | (obtain ⟨_, _, _, _, _, _, _, rfl, _⟩ := h; rfl) | (obtain ⟨_, _, _, _, _, _, _, _, rfl, _⟩ := h; rfl) | (obtain ⟨_, _, _, _, _, _, _, _, _, rfl, _⟩ := h; rfl) | (obtain ⟨_, _, _, _, _, _, _, _, _, _, rfl, _⟩ := h; rfl) | (obtain ⟨_, _, _, _, _, _, _, _, _, _, _, rfl, _⟩ := h; rfl) | (obtain ⟨rfl | rfl, _⟩ := h <;> rfl) | (obtain ⟨_, rfl | rfl, _⟩ := h <;> rfl) | (obtain ⟨_, _, rfl | rfl, _⟩ := h <;> rfl) | (obtain ⟨_, _, _, rfl | rfl, _⟩ := h <;> rfl) | (obtain ⟨_, _, _, _, rfl | rfl, _⟩ := h <;> rfl) | (obtain ⟨_, _, _, _, _, rfl | rfl, _⟩ := h <;> rfl) | (obtain ⟨_, _, _, _, _, _, rfl | rfl, _⟩ := h <;> rfl) | (obtain ⟨_, _, _, _, _, _, _, rfl | rfl, _⟩ := h <;> rfl) | (dsimp only [gPick] at h; split at h <;> first | rfl | exact h.elim)⟩
  have PK_common_0_two_one : FnVK P w K mg base 3 "common" ["one", "two"] (WdOf K P w [("BadLot", yBadLot)]) (fTwo comD) 0 ["two", "one"] (fun _ zs => permL [1, 0] zs) := ⟨⟨fcommon, _, (fun _ zs => permL [1, 0] zs), (fun _ zs => permL [1, 0] zs), (v_common Fcommon T rfl PD_check_lot P_shared), PySem.W.mg_of X G acommon, kcommon, ⟨fun s us ws _ h1 h2 => match us, ws, h1, h2 with | [], [_, _], _, _ => .of_eq rfl, fun r1 r2 => vals_perm _ r2⟩, fun S H vs zs ds es l1 l2 r1 r2 => rep_perm r2 _⟩⟩
  have P_minus : FnV P w K mg base 3 "minus" ["one", "two"] (WdOf K P w [("BadLot", yBadLot)]) (fTwo minD) := ⟨⟨_, _, (v_minus Fminus T rfl PD_check_lot), PySem.W.mg_of X G aminus, kminus, bminus⟩, by
    intro ds Q R h
    first | (obtain ⟨rfl, _⟩ := h; rfl) | (obtain ⟨_, rfl, _⟩ := h; rfl) | (obtain ⟨_, _, rfl, _⟩ := h; rfl) | (obtain ⟨_, _, _, rfl, _⟩ := h; rfl) | (obtain ⟨_, _, _, _, rfl, _⟩ := h; rfl) | (obtain ⟨_, _, _, _, _, rfl, _⟩ := h; rfl) | (obtain ⟨_, _, _, _, _, _, rfl, _⟩ := h; rfl) | (obtain ⟨_, _, _, _, _, _, _, rfl, _⟩ := h; rfl) | (obtain ⟨_, _, _, _, _, _, _, _, rfl, _⟩ := h; rfl) | (obtain ⟨_, _, _, _, _, _, _, _, _, rfl, _⟩ := h; rfl) | (obtain ⟨_, _, _, _, _, _, _, _, _, _, rfl, _⟩ := h; rfl) | (obtain ⟨_, _, _, _, _, _, _, _, _, _, _, rfl, _⟩ := h; rfl) | (obtain ⟨rfl | rfl, _⟩ := h <;> rfl) | (obtain ⟨_, rfl | rfl, _⟩ := h <;> rfl) | (obtain ⟨_, _, rfl | rfl, _⟩ := h <;> rfl) | (obtain ⟨_, _, _, rfl | rfl, _⟩ := h <;> rfl) | (obtain ⟨_, _, _, _, rfl | rfl, _⟩ := h <;> rfl) | (obtain ⟨_, _, _, _, _, rfl | rfl, _⟩ := h <;> rfl) | (obtain ⟨_, _, _, _, _, _, rfl | rfl, _⟩ := h <;> rfl) | (obtain ⟨_, _, _, _, _, _, _, rfl | rfl, _⟩ := h <;> rfl) | (dsimp only [gPick] at h; split at h <;> first | rfl | exact h.elim)⟩
  have PK_minus_0_two_one : FnVK P w K mg base 3 "minus" ["one", "two"] (WdOf K P w [("BadLot", yBadLot)]) (fTwo minD) 0 ["two", "one"] (fun _ zs => permL [1, 0] zs) := ⟨⟨fminus, _, (fun _ zs => permL [1, 0] zs), (fun _ zs => permL [1, 0] zs), (v_minus Fminus T rfl PD_check_lot), PySem.W.mg_of X G aminus, kminus, ⟨fun s us ws _ h1 h2 => match us, ws, h1, h2 with | [], [_, _], _, _ => .of_eq rfl, fun r1 r2 => vals_perm _ r2⟩, fun S H vs zs ds es l1 l2 r1 r2 => rep_perm r2 _⟩⟩
  have P_lies_in : FnV P w K mg base 3 "lies_in" ["one", "two"] (WdOf K P w [("BadLot", yBadLot)]) (fTwo liesD) := ⟨⟨_, _, (v_lies_in Flies_in T rfl PD_check_lot P_is_within), PySem.W.mg_of X G alies_in, klies_in, blies_in⟩, by
    intro ds Q R h
    first | (obtain ⟨rfl, _⟩ := h; rfl) | (obtain ⟨_, rfl, _⟩ := h; rfl) | (obtain ⟨_, _, rfl, _⟩ := h; rfl) | (obtain ⟨_, _, _, rfl, _⟩ := h; rfl) | (obtain ⟨_, _, _, _, rfl, _⟩ := h; rfl) | (obtain ⟨_, _, _, _, _, rfl, _⟩ := h; rfl) | (obtain ⟨_, _, _, _, _, _, rfl, _⟩ := h; rfl) | (obtain ⟨_, _, _, _, _, _, _, rfl, _⟩ := h; rfl) | (obtain ⟨_, _, _, _, _, _, _, _, rfl, _⟩ := h; rfl) | (obtain ⟨_, _, _, _, _, _, _, _, _, rfl, _⟩ := h; rfl) | (obtain ⟨_, _, _, _, _, _, _, _, _, _, rfl, _⟩ := h; rfl) | (obtain ⟨_, _, _, _, _, _, _, _, _, _, _, rfl, _⟩ := h; rfl) | (obtain ⟨rfl | rfl, _⟩ := h <;> rfl) | (obtain ⟨_, rfl | rfl, _⟩ := h <;> rfl) | (obtain ⟨_, _, rfl | rfl, _⟩ := h <;> rfl) | (obtain ⟨_, _, _, rfl | rfl, _⟩ := h <;> rfl) | (obtain ⟨_, _, _, _, rfl | rfl, _⟩ := h <;> rfl) | (obtain ⟨_, _, _, _, _, rfl | rfl, _⟩ := h <;> rfl) | (obtain ⟨_, _, _, _, _, _, rfl | rfl, _⟩ := h <;> rfl) | (obtain ⟨_, _, _, _, _, _, _, rfl | rfl, _⟩ := h <;> rfl) | (dsimp only [gPick] at h; split at h <;> first | rfl | exact h.elim)⟩
  have PK_lies_in_0_two_one : FnVK P w K mg base 3 "lies_in" ["one", "two"] (WdOf K P w [("BadLot", yBadLot)]) (fTwo liesD) 0 ["two", "one"] (fun _ zs => permL [1, 0] zs) := ⟨⟨flies_in, _, (fun _ zs => permL [1, 0] zs), (fun _ zs => permL [1, 0] zs), (v_lies_in Flies_in T rfl PD_check_lot P_is_within), PySem.W.mg_of X G alies_in, klies_in, ⟨fun s us ws _ h1 h2 => match us, ws, h1, h2 with | [], [_, _], _, _ => .of_eq rfl, fun r1 r2 => vals_perm _ r2⟩, fun S H vs zs ds es l1 l2 r1 r2 => rep_perm r2 _⟩⟩
  have G_pair_asked : FnM P w K mg base 10 "_law_pair_asked" ["one", "two"] (WdOf K P w [("BadLot", yBadLot)]) [(Pordered, lq "_law_ordered"), (Ppair_asked, lq "_law_pair_asked"), (Ptops_asked, lq "_law_tops_asked"), (Ptwo_asked, lq "_law_two_asked"), (Plot_refusals, lq "_law_lot_refusals"), (Prow_refusals, lq "_law_row_refusals"), (Plong_asked, lq "_law_long_asked")] gPair := ⟨⟨_, _, (v_pair_asked Fpair_asked T rfl Wa hEt M_pair_asked P_union PK_union_0_two_one P_common PK_common_0_two_one P_minus PK_minus_0_two_one P_lies_in PK_lies_in_0_two_one), PySem.W.mg_of X G apair_asked, kpair_asked, .all fun us hl => match us, hl with | [_, _], _ => rfl⟩, by
    intro ds Q h
    first | (obtain ⟨rfl, _⟩ := h; rfl) | (obtain ⟨_, rfl, _⟩ := h; rfl) | (obtain ⟨_, _, rfl, _⟩ := h; rfl) | (obtain ⟨_, _, _, rfl, _⟩ := h; rfl) | (obtain ⟨_, _, _, _, rfl, _⟩ := h; rfl) | (obtain ⟨_, _, _, _, _, rfl, _⟩ := h; rfl) | (obtain ⟨_, _, _, _, _, _, rfl, _⟩ := h; rfl) | (obtain ⟨_, _, _, _, _, _, _, rfl, _⟩ := h; rfl) | (obtain ⟨_, _, _, _, _, _, _, _, rfl, _⟩ := h; rfl) | (obtain ⟨_, _, _, _, _, _, _, _, _, rfl, _⟩ := h; rfl) | (obtain ⟨_, _, _, _, _, _, _, _, _, _, rfl, _⟩ := h; rfl) | (obtain ⟨_, _, _, _, _, _, _, _, _, _, _, rfl, _⟩ := h; rfl) | (obtain ⟨rfl | rfl, _⟩ := h <;> rfl) | (obtain ⟨_, rfl | rfl, _⟩ := h <;> rfl) | (obtain ⟨_, _, rfl | rfl, _⟩ := h <;> rfl) | (obtain ⟨_, _, _, rfl | rfl, _⟩ := h <;> rfl) | (obtain ⟨_, _, _, _, rfl | rfl, _⟩ := h <;> rfl) | (obtain ⟨_, _, _, _, _, rfl | rfl, _⟩ := h <;> rfl) | (obtain ⟨_, _, _, _, _, _, rfl | rfl, _⟩ := h <;> rfl) | (obtain ⟨_, _, _, _, _, _, _, rfl | rfl, _⟩ := h <;> rfl) | (dsimp only [gPair] at h; split at h <;> first | rfl | exact h.elim)⟩
  have G_meeting : FnM P w K mg base 6 "_law_meeting" ["ones", "twos"] (WdOf K P w [("BadLot", yBadLot)]) [(Pordered, lq "_law_ordered"), (Ppair_asked, lq "_law_pair_asked"), (Ptops_asked, lq "_law_tops_asked"), (Ptwo_asked, lq "_law_two_asked"), (Plot_refusals, lq "_law_lot_refusals"), (Prow_refusals, lq "_law_row_refusals"), (Plong_asked, lq "_law_long_asked")] gMeeting := ⟨⟨_, _, (v_meeting Fmeeting T rfl G_tops), PySem.W.mg_of X G ameeting, kmeeting, .all fun us hl => match us, hl with | [_, _], _ => rfl⟩, by
    intro ds Q h
    first | (obtain ⟨rfl, _⟩ := h; rfl) | (obtain ⟨_, rfl, _⟩ := h; rfl) | (obtain ⟨_, _, rfl, _⟩ := h; rfl) | (obtain ⟨_, _, _, rfl, _⟩ := h; rfl) | (obtain ⟨_, _, _, _, rfl, _⟩ := h; rfl) | (obtain ⟨_, _, _, _, _, rfl, _⟩ := h; rfl) | (obtain ⟨_, _, _, _, _, _, rfl, _⟩ := h; rfl) | (obtain ⟨_, _, _, _, _, _, _, rfl, _⟩ := h; rfl) | (obtain ⟨_, _, _, _, _, _, _, _, rfl, _⟩ := h; rfl) | (obtain ⟨_, _, _, _, _, _, _, _, _, rfl, _⟩ := h; rfl) | (obtain ⟨_, _, _, _, _, _, _, _, _, _, rfl, _⟩ := h; rfl) | (obtain ⟨_, _, _, _, _, _, _, _, _, _, _, rfl, _⟩ := h; rfl) | (obtain ⟨rfl | rfl, _⟩ := h <;> rfl) | (obtain ⟨_, rfl | rfl, _⟩ := h <;> rfl) | (obtain ⟨_, _, rfl | rfl, _⟩ := h <;> rfl) | (obtain ⟨_, _, _, rfl | rfl, _⟩ := h <;> rfl) | (obtain ⟨_, _, _, _, rfl | rfl, _⟩ := h <;> rfl) | (obtain ⟨_, _, _, _, _, rfl | rfl, _⟩ := h <;> rfl) | (obtain ⟨_, _, _, _, _, _, rfl | rfl, _⟩ := h <;> rfl) | (obtain ⟨_, _, _, _, _, _, _, rfl | rfl, _⟩ := h <;> rfl) | (dsimp only [gMeeting] at h; split at h <;> first | rfl | exact h.elim)⟩
  have P_joined : FnF P w K mg base 6 "joined" ["ones", "twos"] (WdOf K P w [("BadLot", yBadLot)]) (fTwoQ joinR 2000 2000) := ⟨⟨_, _, (v_joined Fjoined T rfl P_greatest P_check_lots), PySem.W.mg_of X G ajoined, kjoined, bjoined⟩, by
    intro ds Q R h
    first | (obtain ⟨rfl, _⟩ := h; rfl) | (obtain ⟨_, rfl, _⟩ := h; rfl) | (obtain ⟨_, _, rfl, _⟩ := h; rfl) | (obtain ⟨_, _, _, rfl, _⟩ := h; rfl) | (obtain ⟨_, _, _, _, rfl, _⟩ := h; rfl) | (obtain ⟨_, _, _, _, _, rfl, _⟩ := h; rfl) | (obtain ⟨_, _, _, _, _, _, rfl, _⟩ := h; rfl) | (obtain ⟨_, _, _, _, _, _, _, rfl, _⟩ := h; rfl) | (obtain ⟨_, _, _, _, _, _, _, _, rfl, _⟩ := h; rfl) | (obtain ⟨_, _, _, _, _, _, _, _, _, rfl, _⟩ := h; rfl) | (obtain ⟨_, _, _, _, _, _, _, _, _, _, rfl, _⟩ := h; rfl) | (obtain ⟨_, _, _, _, _, _, _, _, _, _, _, rfl, _⟩ := h; rfl) | (obtain ⟨rfl | rfl, _⟩ := h <;> rfl) | (obtain ⟨_, rfl | rfl, _⟩ := h <;> rfl) | (obtain ⟨_, _, rfl | rfl, _⟩ := h <;> rfl) | (obtain ⟨_, _, _, rfl | rfl, _⟩ := h <;> rfl) | (obtain ⟨_, _, _, _, rfl | rfl, _⟩ := h <;> rfl) | (obtain ⟨_, _, _, _, _, rfl | rfl, _⟩ := h <;> rfl) | (obtain ⟨_, _, _, _, _, _, rfl | rfl, _⟩ := h <;> rfl) | (obtain ⟨_, _, _, _, _, _, _, rfl | rfl, _⟩ := h <;> rfl) | (dsimp only [gPick] at h; split at h <;> first | rfl | exact h.elim)⟩
  have P_met : FnF P w K mg base 6 "met" ["ones", "twos"] (WdOf K P w [("BadLot", yBadLot)]) fMet := ⟨⟨_, _, (v_met Fmet T rfl P_in_order P_greatest P_check_lots P_shared), PySem.W.mg_of X G amet, kmet, bmet⟩, by
    intro ds Q R h
    first | (obtain ⟨rfl, _⟩ := h; rfl) | (obtain ⟨_, rfl, _⟩ := h; rfl) | (obtain ⟨_, _, rfl, _⟩ := h; rfl) | (obtain ⟨_, _, _, rfl, _⟩ := h; rfl) | (obtain ⟨_, _, _, _, rfl, _⟩ := h; rfl) | (obtain ⟨_, _, _, _, _, rfl, _⟩ := h; rfl) | (obtain ⟨_, _, _, _, _, _, rfl, _⟩ := h; rfl) | (obtain ⟨_, _, _, _, _, _, _, rfl, _⟩ := h; rfl) | (obtain ⟨_, _, _, _, _, _, _, _, rfl, _⟩ := h; rfl) | (obtain ⟨_, _, _, _, _, _, _, _, _, rfl, _⟩ := h; rfl) | (obtain ⟨_, _, _, _, _, _, _, _, _, _, rfl, _⟩ := h; rfl) | (obtain ⟨_, _, _, _, _, _, _, _, _, _, _, rfl, _⟩ := h; rfl) | (obtain ⟨rfl | rfl, _⟩ := h <;> rfl) | (obtain ⟨_, rfl | rfl, _⟩ := h <;> rfl) | (obtain ⟨_, _, rfl | rfl, _⟩ := h <;> rfl) | (obtain ⟨_, _, _, rfl | rfl, _⟩ := h <;> rfl) | (obtain ⟨_, _, _, _, rfl | rfl, _⟩ := h <;> rfl) | (obtain ⟨_, _, _, _, _, rfl | rfl, _⟩ := h <;> rfl) | (obtain ⟨_, _, _, _, _, _, rfl | rfl, _⟩ := h <;> rfl) | (obtain ⟨_, _, _, _, _, _, _, rfl | rfl, _⟩ := h <;> rfl) | (dsimp only [fMet] at h; split at h <;> first | rfl | exact h.elim)⟩
  have PK_joined_0_twos_ones : FnFK P w K mg base 6 "joined" ["ones", "twos"] (WdOf K P w [("BadLot", yBadLot)]) (fTwoQ joinR 2000 2000) 0 ["twos", "ones"] (fun _ zs => permL [1, 0] zs) := ⟨⟨fjoined, _, (fun _ zs => permL [1, 0] zs), (fun _ zs => permL [1, 0] zs), (v_joined Fjoined T rfl P_greatest P_check_lots), PySem.W.mg_of X G ajoined, kjoined, ⟨fun s us ws _ h1 h2 => match us, ws, h1, h2 with | [], [_, _], _, _ => .of_eq rfl, fun r1 r2 => vals_perm _ r2⟩, fun S H vs zs ds es l1 l2 r1 r2 => rep_perm r2 _⟩⟩
  have PK_met_0_twos_ones : FnFK P w K mg base 6 "met" ["ones", "twos"] (WdOf K P w [("BadLot", yBadLot)]) fMet 0 ["twos", "ones"] (fun _ zs => permL [1, 0] zs) := ⟨⟨fmet, _, (fun _ zs => permL [1, 0] zs), (fun _ zs => permL [1, 0] zs), (v_met Fmet T rfl P_in_order P_greatest P_check_lots P_shared), PySem.W.mg_of X G amet, kmet, ⟨fun s us ws _ h1 h2 => match us, ws, h1, h2 with | [], [_, _], _, _ => .of_eq rfl, fun r1 r2 => vals_perm _ r2⟩, fun S H vs zs ds es l1 l2 r1 r2 => rep_perm r2 _⟩⟩
  have G_two_asked : FnM P w K mg base 10 "_law_two_asked" ["ones", "twos"] (WdOf K P w [("BadLot", yBadLot)]) [(Pordered, lq "_law_ordered"), (Ppair_asked, lq "_law_pair_asked"), (Ptops_asked, lq "_law_tops_asked"), (Ptwo_asked, lq "_law_two_asked"), (Plot_refusals, lq "_law_lot_refusals"), (Prow_refusals, lq "_law_row_refusals"), (Plong_asked, lq "_law_long_asked")] gTwoA := ⟨⟨_, _, (v_two_asked Ftwo_asked T rfl Wa hEt M_two_asked G_tops G_same G_meeting P_joined P_met PK_joined_0_twos_ones PK_met_0_twos_ones), PySem.W.mg_of X G atwo_asked, ktwo_asked, .all fun us hl => match us, hl with | [_, _], _ => rfl⟩, by
    intro ds Q h
    first | (obtain ⟨rfl, _⟩ := h; rfl) | (obtain ⟨_, rfl, _⟩ := h; rfl) | (obtain ⟨_, _, rfl, _⟩ := h; rfl) | (obtain ⟨_, _, _, rfl, _⟩ := h; rfl) | (obtain ⟨_, _, _, _, rfl, _⟩ := h; rfl) | (obtain ⟨_, _, _, _, _, rfl, _⟩ := h; rfl) | (obtain ⟨_, _, _, _, _, _, rfl, _⟩ := h; rfl) | (obtain ⟨_, _, _, _, _, _, _, rfl, _⟩ := h; rfl) | (obtain ⟨_, _, _, _, _, _, _, _, rfl, _⟩ := h; rfl) | (obtain ⟨_, _, _, _, _, _, _, _, _, rfl, _⟩ := h; rfl) | (obtain ⟨_, _, _, _, _, _, _, _, _, _, rfl, _⟩ := h; rfl) | (obtain ⟨_, _, _, _, _, _, _, _, _, _, _, rfl, _⟩ := h; rfl) | (obtain ⟨rfl | rfl, _⟩ := h <;> rfl) | (obtain ⟨_, rfl | rfl, _⟩ := h <;> rfl) | (obtain ⟨_, _, rfl | rfl, _⟩ := h <;> rfl) | (obtain ⟨_, _, _, rfl | rfl, _⟩ := h <;> rfl) | (obtain ⟨_, _, _, _, rfl | rfl, _⟩ := h <;> rfl) | (obtain ⟨_, _, _, _, _, rfl | rfl, _⟩ := h <;> rfl) | (obtain ⟨_, _, _, _, _, _, rfl | rfl, _⟩ := h <;> rfl) | (obtain ⟨_, _, _, _, _, _, _, rfl | rfl, _⟩ := h <;> rfl) | (dsimp only [gTwoA] at h; split at h <;> first | rfl | exact h.elim)⟩
  have G_no : FnN P w K mg base 1 "_law_no" ["name"] (WdOf K P w [("BadLot", yBadLot)]) gNo := ⟨⟨_, _, (v_no Fno T rfl), PySem.W.mg_of X G ano, kno, bno⟩, by
    intro ds Q h
    first | (obtain ⟨rfl, _⟩ := h; rfl) | (obtain ⟨_, rfl, _⟩ := h; rfl) | (obtain ⟨_, _, rfl, _⟩ := h; rfl) | (obtain ⟨_, _, _, rfl, _⟩ := h; rfl) | (obtain ⟨_, _, _, _, rfl, _⟩ := h; rfl) | (obtain ⟨_, _, _, _, _, rfl, _⟩ := h; rfl) | (obtain ⟨_, _, _, _, _, _, rfl, _⟩ := h; rfl) | (obtain ⟨_, _, _, _, _, _, _, rfl, _⟩ := h; rfl) | (obtain ⟨_, _, _, _, _, _, _, _, rfl, _⟩ := h; rfl) | (obtain ⟨_, _, _, _, _, _, _, _, _, rfl, _⟩ := h; rfl) | (obtain ⟨_, _, _, _, _, _, _, _, _, _, rfl, _⟩ := h; rfl) | (obtain ⟨_, _, _, _, _, _, _, _, _, _, _, rfl, _⟩ := h; rfl) | (obtain ⟨rfl | rfl, _⟩ := h <;> rfl) | (obtain ⟨_, rfl | rfl, _⟩ := h <;> rfl) | (obtain ⟨_, _, rfl | rfl, _⟩ := h <;> rfl) | (obtain ⟨_, _, _, rfl | rfl, _⟩ := h <;> rfl) | (obtain ⟨_, _, _, _, rfl | rfl, _⟩ := h <;> rfl) | (obtain ⟨_, _, _, _, _, rfl | rfl, _⟩ := h <;> rfl) | (obtain ⟨_, _, _, _, _, _, rfl | rfl, _⟩ := h <;> rfl) | (obtain ⟨_, _, _, _, _, _, _, rfl | rfl, _⟩ := h <;> rfl) | (dsimp only [gNo] at h; split at h <;> first | rfl | exact h.elim)⟩
  have G_lot_refusals : FnM P w K mg base 10 "_law_lot_refusals" ["lot", "bad"] (WdOf K P w [("BadLot", yBadLot)]) [(Pordered, lq "_law_ordered"), (Ppair_asked, lq "_law_pair_asked"), (Ptops_asked, lq "_law_tops_asked"), (Ptwo_asked, lq "_law_two_asked"), (Plot_refusals, lq "_law_lot_refusals"), (Prow_refusals, lq "_law_row_refusals"), (Plong_asked, lq "_law_long_asked")] gLotR := ⟨⟨_, _, (v_lot_refusals Flot_refusals T rfl Wa hEt M_lot_refusals G_no P_union P_common P_minus P_lies_in P_is_covered), PySem.W.mg_of X G alot_refusals, klot_refusals, .all fun us hl => match us, hl with | [_, _], _ => rfl⟩, by
    intro ds Q h
    first | (obtain ⟨rfl, _⟩ := h; rfl) | (obtain ⟨_, rfl, _⟩ := h; rfl) | (obtain ⟨_, _, rfl, _⟩ := h; rfl) | (obtain ⟨_, _, _, rfl, _⟩ := h; rfl) | (obtain ⟨_, _, _, _, rfl, _⟩ := h; rfl) | (obtain ⟨_, _, _, _, _, rfl, _⟩ := h; rfl) | (obtain ⟨_, _, _, _, _, _, rfl, _⟩ := h; rfl) | (obtain ⟨_, _, _, _, _, _, _, rfl, _⟩ := h; rfl) | (obtain ⟨_, _, _, _, _, _, _, _, rfl, _⟩ := h; rfl) | (obtain ⟨_, _, _, _, _, _, _, _, _, rfl, _⟩ := h; rfl) | (obtain ⟨_, _, _, _, _, _, _, _, _, _, rfl, _⟩ := h; rfl) | (obtain ⟨_, _, _, _, _, _, _, _, _, _, _, rfl, _⟩ := h; rfl) | (obtain ⟨rfl | rfl, _⟩ := h <;> rfl) | (obtain ⟨_, rfl | rfl, _⟩ := h <;> rfl) | (obtain ⟨_, _, rfl | rfl, _⟩ := h <;> rfl) | (obtain ⟨_, _, _, rfl | rfl, _⟩ := h <;> rfl) | (obtain ⟨_, _, _, _, rfl | rfl, _⟩ := h <;> rfl) | (obtain ⟨_, _, _, _, _, rfl | rfl, _⟩ := h <;> rfl) | (obtain ⟨_, _, _, _, _, _, rfl | rfl, _⟩ := h <;> rfl) | (obtain ⟨_, _, _, _, _, _, _, rfl | rfl, _⟩ := h <;> rfl) | (dsimp only [gLotR] at h; split at h <;> first | rfl | exact h.elim)⟩
  have G_row_refusals : FnM P w K mg base 10 "_law_row_refusals" ["lot", "lots", "bad"] (WdOf K P w [("BadLot", yBadLot)]) [(Pordered, lq "_law_ordered"), (Ppair_asked, lq "_law_pair_asked"), (Ptops_asked, lq "_law_tops_asked"), (Ptwo_asked, lq "_law_two_asked"), (Plot_refusals, lq "_law_lot_refusals"), (Prow_refusals, lq "_law_row_refusals"), (Plong_asked, lq "_law_long_asked")] gRowR := ⟨⟨_, _, (v_row_refusals Frow_refusals T rfl Wa hEt M_row_refusals G_no P_tops P_is_covered P_joined P_met), PySem.W.mg_of X G arow_refusals, krow_refusals, .all fun us hl => match us, hl with | [_, _, _], _ => rfl⟩, by
    intro ds Q h
    first | (obtain ⟨rfl, _⟩ := h; rfl) | (obtain ⟨_, rfl, _⟩ := h; rfl) | (obtain ⟨_, _, rfl, _⟩ := h; rfl) | (obtain ⟨_, _, _, rfl, _⟩ := h; rfl) | (obtain ⟨_, _, _, _, rfl, _⟩ := h; rfl) | (obtain ⟨_, _, _, _, _, rfl, _⟩ := h; rfl) | (obtain ⟨_, _, _, _, _, _, rfl, _⟩ := h; rfl) | (obtain ⟨_, _, _, _, _, _, _, rfl, _⟩ := h; rfl) | (obtain ⟨_, _, _, _, _, _, _, _, rfl, _⟩ := h; rfl) | (obtain ⟨_, _, _, _, _, _, _, _, _, rfl, _⟩ := h; rfl) | (obtain ⟨_, _, _, _, _, _, _, _, _, _, rfl, _⟩ := h; rfl) | (obtain ⟨_, _, _, _, _, _, _, _, _, _, _, rfl, _⟩ := h; rfl) | (obtain ⟨rfl | rfl, _⟩ := h <;> rfl) | (obtain ⟨_, rfl | rfl, _⟩ := h <;> rfl) | (obtain ⟨_, _, rfl | rfl, _⟩ := h <;> rfl) | (obtain ⟨_, _, _, rfl | rfl, _⟩ := h <;> rfl) | (obtain ⟨_, _, _, _, rfl | rfl, _⟩ := h <;> rfl) | (obtain ⟨_, _, _, _, _, rfl | rfl, _⟩ := h <;> rfl) | (obtain ⟨_, _, _, _, _, _, rfl | rfl, _⟩ := h <;> rfl) | (obtain ⟨_, _, _, _, _, _, _, rfl | rfl, _⟩ := h <;> rfl) | (dsimp only [gRowR] at h; split at h <;> first | rfl | exact h.elim)⟩
  have G_long_asked : FnDM P w K mg base 10 "_law_long_asked" ["store", "lot"] (WdOf K P w [("BadLot", yBadLot)]) [(Pordered, lq "_law_ordered"), (Ppair_asked, lq "_law_pair_asked"), (Ptops_asked, lq "_law_tops_asked"), (Ptwo_asked, lq "_law_two_asked"), (Plot_refusals, lq "_law_lot_refusals"), (Prow_refusals, lq "_law_row_refusals"), (Plong_asked, lq "_law_long_asked")] gLong := ⟨⟨_, _, (v_long_asked Flong_asked T rfl Wa hEt M_long_asked G_take P_is_covered P_tops), PySem.W.mg_of X G along_asked, klong_asked, .all fun us hl => match us, hl with | [_, _], _ => rfl⟩, by
    intro ds Q h
    first | (obtain ⟨rfl, _⟩ := h; rfl) | (obtain ⟨_, rfl, _⟩ := h; rfl) | (obtain ⟨_, _, rfl, _⟩ := h; rfl) | (obtain ⟨_, _, _, rfl, _⟩ := h; rfl) | (obtain ⟨_, _, _, _, rfl, _⟩ := h; rfl) | (obtain ⟨_, _, _, _, _, rfl, _⟩ := h; rfl) | (obtain ⟨_, _, _, _, _, _, rfl, _⟩ := h; rfl) | (obtain ⟨_, _, _, _, _, _, _, rfl, _⟩ := h; rfl) | (obtain ⟨_, _, _, _, _, _, _, _, rfl, _⟩ := h; rfl) | (obtain ⟨_, _, _, _, _, _, _, _, _, rfl, _⟩ := h; rfl) | (obtain ⟨_, _, _, _, _, _, _, _, _, _, rfl, _⟩ := h; rfl) | (obtain ⟨_, _, _, _, _, _, _, _, _, _, _, rfl, _⟩ := h; rfl) | (obtain ⟨rfl | rfl, _⟩ := h <;> rfl) | (obtain ⟨_, rfl | rfl, _⟩ := h <;> rfl) | (obtain ⟨_, _, rfl | rfl, _⟩ := h <;> rfl) | (obtain ⟨_, _, _, rfl | rfl, _⟩ := h <;> rfl) | (obtain ⟨_, _, _, _, rfl | rfl, _⟩ := h <;> rfl) | (obtain ⟨_, _, _, _, _, rfl | rfl, _⟩ := h <;> rfl) | (obtain ⟨_, _, _, _, _, _, rfl | rfl, _⟩ := h <;> rfl) | (obtain ⟨_, _, _, _, _, _, _, rfl | rfl, _⟩ := h <;> rfl) | (dsimp only [gLong] at h; split at h <;> first | rfl | exact h.elim)⟩
  exact run_lawV (st := s_law) (n := 9) (k := 10) (rest := (defBody s_law).tail) rfl rfl rfl sc_law ⟨rfl, by decide, by decide⟩ (by decide) (Or.inl rfl) (Or.inl rfl) (by rfl) Flaw (.of_eq rfl) e0 (tl_at (TL := [(Pordered, lq "_law_ordered"), (Ppair_asked, lq "_law_pair_asked"), (Ptops_asked, lq "_law_tops_asked"), (Ptwo_asked, lq "_law_two_asked"), (Plot_refusals, lq "_law_lot_refusals"), (Prow_refusals, lq "_law_row_refusals"), (Plong_asked, lq "_law_long_asked")]) rfl hHT) hS hlen G_storeE
    fun cdv A ast cst hA sA M dm hr hgd => v_law_rest T rfl hA sA M dm hr hgd hsy G_drawn G_tops_asked G_pair_asked G_two_asked G_lot_refusals G_row_refusals G_long_asked
end K0
open PySem PySem.W PyProof.Rows
set_option maxHeartbeats 0 in
theorem PySem.Challenge.cw_boundslots_k01_lots_as_sets_holds : PySem.Challenge.rw_boundslots_k01_lots_as_sets.Holds := by
  w_on; o_law; k_head; (case hw => w_witness2)
  k_fill
  refine Bs.walk (l := PySem.Challenge.rw_boundslots_k01_lots_as_sets) rfl rfl rfl (by decide +kernel) (fun w h Y => km_in_of Y) ?F
  case F =>
    intro w mg h Y G
    have KX := km_in_of Y
    have hT8 := km_tabs_of Y
    refine' Bs.fin KX (K0.all_mk (P := PySem.Challenge.rw_boundslots_k01_lots_as_sets.prog) (w := w) (Pordered := 437) (Ppair_asked := 492) (Ptops_asked := 507) (Ptwo_asked := 514) (Plot_refusals := 521) (Prow_refusals := 528) (Plong_asked := 535) KX G ?ais ?lis ?cis ?kis ?atold ?ltold ?ctold ?ktold ?amix ?lmix ?cmix ?kmix ?aopen ?lopen ?copen ?kopen ?atake ?ltake ?ctake ?ktake ?astore ?lstore ?cstore ?kstore ?asame ?lsame ?csame ?ksame ?aslots_below ?lslots_below ?cslots_below ?kslots_below ?acheck_lot ?lcheck_lot ?ccheck_lot ?kcheck_lot ?dcheck_lot ?echeck_lot ?acheck_lots ?lcheck_lots ?ccheck_lots ?kcheck_lots ?ain_order ?lin_order ?cin_order ?kin_order ?ais_within ?lis_within ?cis_within ?kis_within ?aunion ?lunion ?cunion ?kunion ?ashared ?lshared ?cshared ?kshared ?acommon ?lcommon ?ccommon ?kcommon ?aminus ?lminus ?cminus ?kminus ?alies_in ?llies_in ?clies_in ?klies_in ?agreatest ?lgreatest ?cgreatest ?kgreatest ?atops ?ltops ?ctops ?ktops ?ajoined ?ljoined ?cjoined ?kjoined ?ais_covered ?lis_covered ?cis_covered ?kis_covered ?amet ?lmet ?cmet ?kmet ?apick ?lpick ?cpick ?kpick ?ashuffled ?lshuffled ?cshuffled ?kshuffled ?adoubled ?ldoubled ?cdoubled ?kdoubled ?asequence ?lsequence ?csequence ?ksequence ?ainserted ?linserted ?cinserted ?kinserted ?ano ?lno ?cno ?kno ?abad_sequence ?lbad_sequence ?cbad_sequence ?kbad_sequence ?acount ?lcount ?ccount ?kcount ?alot ?llot ?clot ?klot ?alots ?llots ?clots ?klots ?abad_lot ?lbad_lot ?cbad_lot ?kbad_lot ?alies ?llies ?clies ?klies ?aordered ?lordered ?cordered ?kordered ?aLtops ?lLtops ?cLtops ?kLtops ?aevery_lot ?levery_lot ?cevery_lot ?kevery_lot ?agroup ?lgroup ?cgroup ?kgroup ?adrawn ?ldrawn ?cdrawn ?kdrawn ?acovered ?lcovered ?ccovered ?kcovered ?ameeting ?lmeeting ?cmeeting ?kmeeting ?apair_asked ?lpair_asked ?cpair_asked ?kpair_asked ?atops_asked ?ltops_asked ?ctops_asked ?ktops_asked ?atwo_asked ?ltwo_asked ?ctwo_asked ?ktwo_asked ?alot_refusals ?llot_refusals ?clot_refusals ?klot_refusals ?arow_refusals ?lrow_refusals ?crow_refusals ?krow_refusals ?along_asked ?llong_asked ?clong_asked ?klong_asked ?alaw ?llaw ?claw ?klaw ?gRefused ?gBadWord ?gBadLot ?gBadTerm ?gBadStep ?gBadShape ?gBadPlace ?gBadNumber ?gBadFilling ?gBadPlan ?gBadTarget ?gBadPaper ?gBadCall ?gNotAllowed ?gBadText ?gBadStack ?gTooMany ?qALL_SLOTS ?zint ?zmax ?zlen ?zrange ?zisinstance ?zstr ?zbool ?zall ?zlist ?zrepr ?zzip ?ztuple ?zdict ?zany ?zsum ?zmin ?zset ?zsorted ?zenumerate ?zValueError ?EBadLot ?kBadLot ?xBadLot ?sBadLot ?tBadLot) ?hT ?nT ?C ?nd
    case ais => k_is
    case lis => k_is
    case cis => k_is
    case kis => k_is
    case atold => k_is
    case ltold => k_is
    case ctold => k_is
    case ktold => k_is
    case amix => k_is
    case lmix => k_is
    case cmix => k_is
    case kmix => k_is
    case aopen => k_is
    case lopen => k_is
    case copen => k_is
    case kopen => k_is
    case atake => k_is
    case ltake => k_is
    case ctake => k_is
    case ktake => k_is
    case astore => k_is
    case lstore => k_is
    case cstore => k_is
    case kstore => k_is
    case asame => k_is
    case lsame => k_is
    case csame => k_is
    case ksame => k_is
    case aslots_below => k_is
    case lslots_below => k_is
    case cslots_below => k_is
    case kslots_below => k_is
    case acheck_lot => k_is
    case lcheck_lot => k_is
    case ccheck_lot => k_is
    case kcheck_lot => k_is
    case dcheck_lot => k_is
    case echeck_lot => exact rfl
    case acheck_lots => k_is
    case lcheck_lots => k_is
    case ccheck_lots => k_is
    case kcheck_lots => k_is
    case ain_order => k_is
    case lin_order => k_is
    case cin_order => k_is
    case kin_order => k_is
    case ais_within => k_is
    case lis_within => k_is
    case cis_within => k_is
    case kis_within => k_is
    case aunion => k_is
    case lunion => k_is
    case cunion => k_is
    case kunion => k_is
    case ashared => k_is
    case lshared => k_is
    case cshared => k_is
    case kshared => k_is
    case acommon => k_is
    case lcommon => k_is
    case ccommon => k_is
    case kcommon => k_is
    case aminus => k_is
    case lminus => k_is
    case cminus => k_is
    case kminus => k_is
    case alies_in => k_is
    case llies_in => k_is
    case clies_in => k_is
    case klies_in => k_is
    case agreatest => k_is
    case lgreatest => k_is
    case cgreatest => k_is
    case kgreatest => k_is
    case atops => k_is
    case ltops => k_is
    case ctops => k_is
    case ktops => k_is
    case ajoined => k_is
    case ljoined => k_is
    case cjoined => k_is
    case kjoined => k_is
    case ais_covered => k_is
    case lis_covered => k_is
    case cis_covered => k_is
    case kis_covered => k_is
    case amet => k_is
    case lmet => k_is
    case cmet => k_is
    case kmet => k_is
    case apick => k_is
    case lpick => k_is
    case cpick => k_is
    case kpick => k_is
    case ashuffled => k_is
    case lshuffled => k_is
    case cshuffled => k_is
    case kshuffled => k_is
    case adoubled => k_is
    case ldoubled => k_is
    case cdoubled => k_is
    case kdoubled => k_is
    case asequence => k_is
    case lsequence => k_is
    case csequence => k_is
    case ksequence => k_is
    case ainserted => k_is
    case linserted => k_is
    case cinserted => k_is
    case kinserted => k_is
    case ano => k_is
    case lno => k_is
    case cno => k_is
    case kno => k_is
    case abad_sequence => k_is
    case lbad_sequence => k_is
    case cbad_sequence => k_is
    case kbad_sequence => k_is
    case acount => k_is
    case lcount => k_is
    case ccount => k_is
    case kcount => k_is
    case alot => k_is
    case llot => k_is
    case clot => k_is
    case klot => k_is
    case alots => k_is
    case llots => k_is
    case clots => k_is
    case klots => k_is
    case abad_lot => k_is
    case lbad_lot => k_is
    case cbad_lot => k_is
    case kbad_lot => k_is
    case alies => k_is
    case llies => k_is
    case clies => k_is
    case klies => k_is
    case aordered => k_is
    case lordered => k_is
    case cordered => k_is
    case kordered => k_is
    case aLtops => k_is
    case lLtops => k_is
    case cLtops => k_is
    case kLtops => k_is
    case aevery_lot => k_is
    case levery_lot => k_is
    case cevery_lot => k_is
    case kevery_lot => k_is
    case agroup => k_is
    case lgroup => k_is
    case cgroup => k_is
    case kgroup => k_is
    case adrawn => k_is
    case ldrawn => k_is
    case cdrawn => k_is
    case kdrawn => k_is
    case acovered => k_is
    case lcovered => k_is
    case ccovered => k_is
    case kcovered => k_is
    case ameeting => k_is
    case lmeeting => k_is
    case cmeeting => k_is
    case kmeeting => k_is
    case apair_asked => k_is
    case lpair_asked => k_is
    case cpair_asked => k_is
    case kpair_asked => k_is
    case atops_asked => k_is
    case ltops_asked => k_is
    case ctops_asked => k_is
    case ktops_asked => k_is
    case atwo_asked => k_is
    case ltwo_asked => k_is
    case ctwo_asked => k_is
    case ktwo_asked => k_is
    case alot_refusals => k_is
    case llot_refusals => k_is
    case clot_refusals => k_is
    case klot_refusals => k_is
    case arow_refusals => k_is
    case lrow_refusals => k_is
    case crow_refusals => k_is
    case krow_refusals => k_is
    case along_asked => k_is
    case llong_asked => k_is
    case clong_asked => k_is
    case klong_asked => k_is
    case alaw => k_is
    case llaw => k_is
    case claw => k_is
    case klaw => k_is
    case gRefused => k_is
    case gBadWord => k_is
    case gBadLot => k_is
    case gBadTerm => k_is
    case gBadStep => k_is
    case gBadShape => k_is
    case gBadPlace => k_is
    case gBadNumber => k_is
    case gBadFilling => k_is
    case gBadPlan => k_is
    case gBadTarget => k_is
    case gBadPaper => k_is
    case gBadCall => k_is
    case gNotAllowed => k_is
    case gBadText => k_is
    case gBadStack => k_is
    case gTooMany => k_is
    case qALL_SLOTS => k_is
    case zint => k_is
    case zmax => k_is
    case zlen => k_is
    case zrange => k_is
    case zisinstance => k_is
    case zstr => k_is
    case zbool => k_is
    case zall => k_is
    case zlist => k_is
    case zrepr => k_is
    case zzip => k_is
    case ztuple => k_is
    case zdict => k_is
    case zany => k_is
    case zsum => k_is
    case zmin => k_is
    case zset => k_is
    case zsorted => k_is
    case zenumerate => k_is
    case zValueError => k_is
    case EBadLot => exact ⟨⟨by k_is, by k_is, by k_is, by k_is, by k_is, by k_is, by k_is, by k_is⟩, by first | kernel_rfl | rfl | k_is, by first | kernel_rfl | rfl | k_is, by first | kernel_rfl | rfl | k_is, by first | kernel_rfl | rfl | k_is, by first | kernel_rfl | rfl | k_is, by first | kernel_rfl | rfl | k_is, by first | kernel_rfl | rfl | k_is, by first | kernel_rfl | rfl | k_is, by first | kernel_rfl | rfl | k_is, by first | kernel_rfl | rfl | k_is, by first | kernel_rfl | rfl | k_is, by first | kernel_rfl | rfl | k_is, by first | kernel_rfl | rfl | k_is, by first | kernel_rfl | rfl | k_is, by first | kernel_rfl | rfl | k_is, by first | kernel_rfl | rfl | k_is, by first | kernel_rfl | rfl | k_is, by first | kernel_rfl | rfl | k_is, by decide⟩
    case kBadLot => k_is
    case xBadLot => first | kernel_rfl | rfl | k_is
    case sBadLot => first | kernel_rfl | rfl | k_is
    case tBadLot => k_is
    case hT =>
      intro p hp
      simp only [List.mem_cons, List.not_mem_nil, or_false] at hp
      rcases hp with rfl | rfl | rfl | rfl | rfl | rfl | rfl <;> exact hT8 _ (by simp)
    case nT =>
      intro p hp
      simp only [List.mem_cons, List.not_mem_nil, or_false] at hp
      rcases hp with rfl | rfl | rfl | rfl | rfl | rfl | rfl <;> kernel_rfl
    case C =>
      intro p hp
      simp only [List.mem_cons, List.not_mem_nil, or_false] at hp
      rcases hp with rfl | rfl | rfl | rfl | rfl | rfl | rfl <;> exact codeHd_of_K KX (by kernel_rfl)
    case nd => decide
#print axioms PySem.Challenge.cw_boundslots_k01_lots_as_sets_holds

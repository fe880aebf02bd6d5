import PyProof.Rows.All
import Wide.All
import OpenK.AllK
import Wide.FinOn
import HandS.ForMost
import HandS.ForExc
import HandS.Wide
import HandS.Defaults
import HandS.IsInst
import HandS.ExcIs
import HandS.Lambda
import HandS.Flow
import HandS.StrMore
import HandS.TupAny
import KE.KDictZip
import HandS.ListItems
import HandS.Zip
import HandS.MakeKw
import HandS.EndTab
import PyProof.ReprRoads
import PyProof.RowDictHeap
import PySem.Challenge.RW_boundslots_k00_lots_of_letters
set_option Elab.async false
set_option linter.all false
set_option maxRecDepth 100000
set_option maxHeartbeats 0
/-! Rules whose readings compute: a name, a constant, an operator leave nothing to be said where the values are known. -/
namespace Bs
open PySem PySem.Spec PyProof.Rows L2
section
variable {X : Cx}
theorem PE.imp {e : Expr} {t t' : TE} (h : PE X e t) (i : ∀ σ H Q, t' σ H Q → t σ H Q) : PE X e t' := ⟨fun p s σ H Q I q => h.run p s σ H Q I (i σ H Q q)⟩
theorem PT.imp {e : Expr} {t t' : TT} (h : PT X e t) (i : ∀ σ H Q, t' σ H Q → t σ H Q) : PT X e t' := ⟨fun p s σ H Q I q => h.run p s σ H Q I (i σ H Q q)⟩
theorem OpR.imp {f : Value → Value → Sem Value} {r r' : R2} (h : OpR X f r) (i : ∀ x y H Q, r' x y H Q → r x y H Q) : OpR X f r' :=
  fun p s σ H x y v u Q I rx ry q => h p s σ H x y v u Q I rx ry (i x y H Q q)
theorem CallR.imp {f : Value} {r r' : List V → Hp → VK → Prop} (h : CallR X f r) (i : ∀ xs H Q, r' xs H Q → r xs H Q) : CallR X f r' :=
  fun p s σ H xs us Q I rx q => h p s σ H xs us Q I rx (i xs H Q q)
/-! ### names -/
def vr (i : Nat) : TE := fun σ H Q => match σ[i]? with
  | some (some v) => Q v H
  | _ => False
theorem nm (i : Nat) {x : Str} {pos : Pos} (hN : X.N[i]? = some x := by rfl) (hv : Vis X.env.scope x := by first | exact Or.inl rfl | exact Or.inr (Or.inl rfl) | exact Or.inr (Or.inr rfl)) (hd : (x == ("__debug__" : Str)) = false := by decide)
    (hcd : (x == ("__classdict__" : Str)) = false := by decide) : PE X (.Name x pos) (vr i) := by
  refine PE.imp (pe_var (i := i) hN hv hd hcd) fun σ H Q h => ?_
  unfold vr at h
  split at h
  · rename_i v e
    exact ⟨v, e, h⟩
  · exact h.elim
/-! ### values as tests -/
def asB (t : TE) : TT := fun σ H Q => t σ H fun x H1 => match x with
  | .bl k => Q k H1
  | _ => False
/-- the ends of a reading may be weakened: a PE with any end -/
theorem tst {e : Expr} {t : TE} (h : PE X e t) (he : ∀ whole, isTrue e X.env whole = (do let v ← whole; standAt e.pos; holding [v] (truthy v)) := by intro _; rfl) : PT X e (asB t) := by
  refine ⟨fun pins s σ H Q I hw => ?_⟩
  refine isTrue_plain (thn (h.run pins s σ H _ I hw) fun v s1 ⟨x, H1, I1, r1, q1⟩ => ?_) (he _)
  cases x with
  | bl d =>
    cases r1
    exact wpAny_truthy_bool ⟨H1, I1, q1⟩
  | _ => exact (show False from q1).elim
theorem cmpT {op : CmpOp} {r : R2} {a b : Expr} {ta tb : TE} {pos : Pos} (ho : OpR X (compareOp op) r) (ha : PE X a ta) (hb : PE X b tb) (hm : behindInMarks op b = false) : PT X (.Compare a [op] [b] pos) (asB (tOp r ta tb)) := by
  refine ⟨fun pins s σ H Q I h => ?_⟩
  refine wpAny_isTrue_Compare1 (thn (ha.run pins s σ H _ I h) fun v s1 ⟨x, H1, I1, r1, q1⟩ => thn (hb.run pins s1 σ H1 _ I1 q1) fun u s2 ⟨y, H2, I2, r2, q2⟩ =>
    thn (ho pins s2 σ H2 x y v u _ I2 r1 r2 q2) fun c s3 ⟨z, H3, I3, r3, q3⟩ => ?_) hm
  cases z with
  | bl k =>
    cases r3
    exact wpAny_truthy_bool ⟨H3, I3, q3⟩
  | _ => exact (show False from q3).elim
/-! ### operators -/
/-- a list or a tuple may be read -/
abbrev Sq (K : PySem.W.Frag) (H : Hp) (a : Addr) (xs : List V) : Prop := SqL K H a xs ∨ SqT K H a xs
def uAdd : R2 := fun x y H Q => match x, y with
  | .int i, .int j => Q (.int (i + j)) H
  | .str a, .str b => a.length + b.length ≤ sizeLine ∧ Q (.str (a ++ b)) H
  | .ref p, .ref q => ∃ xs ys, H p = some (.lst xs) ∧ H q = some (.lst ys) ∧ xs.length + ys.length ≤ sizeLine ∧ ∀ l, H l = none → Q (.ref l) (upd H l (.lst (xs ++ ys)))
  | _, _ => False
theorem o_add : OpR X (binaryOp .Add) uAdd := by
  refine OpR.imp (op_add.or (op_add_str.or op_cat)) fun x y H Q h => ?_
  unfold uAdd at h
  split at h
  · exact .inl ⟨_, _, rfl, rfl, h⟩
  · exact .inr (.inl ⟨_, _, rfl, rfl, h.1, h.2⟩)
  · obtain ⟨xs, ys, h1, h2, h3, h4⟩ := h
    exact .inr (.inr ⟨_, _, xs, ys, rfl, rfl, h1, h2, h3, h4⟩)
  · exact h.elim
def uI (C : Int → Int → Prop) (g : Int → Int → V) : R2 := fun x y H Q => match x, y with
  | .int i, .int j => C i j ∧ Q (g i j) H
  | _, _ => False
theorem uI_of {f : Value → Value → Sem Value} {C : Int → Int → Prop} {g : Int → Int → V} (h : OpR X f (rI C g)) : OpR X f (uI C g) := OpR.imp h fun x y H Q q => by
  unfold uI at q
  split at q
  · exact ⟨_, _, rfl, rfl, q.1, q.2⟩
  · exact q.elim
def uI0 (g : Int → Int → V) : R2 := fun x y H Q => match x, y with
  | .int i, .int j => Q (g i j) H
  | _, _ => False
theorem uI0_of {f : Value → Value → Sem Value} {g : Int → Int → V} (h : OpR X f (rI0 g)) : OpR X f (uI0 g) := OpR.imp h fun x y H Q q => by
  unfold uI0 at q
  split at q
  · exact ⟨_, _, rfl, rfl, q⟩
  · exact q.elim
theorem o_sub : OpR X (binaryOp .Sub) (uI0 fun i j => .int (i - j)) := uI0_of op_sub
theorem o_mod : OpR X (binaryOp .Mod) (uI (fun _ j => 0 < j) fun i j => .int (i % j)) := uI_of op_mod
theorem o_fdiv : OpR X (binaryOp .FloorDiv) (uI CDivW fun i j => .int (i / j)) := uI_of op_fdivW
theorem o_pow : OpR X (binaryOp .Pow) (uI CPow fun i j => .int (i ^ j.toNat)) := uI_of op_pow
theorem o_lt : OpR X (compareOp .Lt) (uI0 fun i j => .bl (decide (i < j))) := uI0_of op_lt
theorem o_le0 : OpR X (compareOp .LtE) (uI0 fun i j => .bl (decide (i ≤ j))) := uI0_of op_le
theorem o_gt : OpR X (compareOp .Gt) (uI0 fun i j => .bl (decide (j < i))) := uI0_of op_gt
theorem o_ge : OpR X (compareOp .GtE) (uI0 fun i j => .bl (decide (j ≤ i))) := uI0_of op_ge
/-- a product: small on one side, or together below a million bits; a list by an int; a text by an int -/
def uMul : R2 := fun x y H Q => match x, y with
  | .int i, .int j => (CMul i j ∨ CMulW i j) ∧ Q (.int (i * j)) H
  | .ref p, .int k => ∃ xs, H p = some (.lst xs) ∧ -(2 ^ 63) ≤ k ∧ k < 2 ^ 63 ∧ xs.length * k.toNat ≤ sizeLine ∧ ∀ l, H l = none → Q (.ref l) (upd H l (.lst (List.replicate k.toNat xs).flatten))
  | .str z, .int k => (-(2 ^ 20) ≤ k ∧ k ≤ 2 ^ 20) ∧ z.length * k.toNat ≤ sizeLine ∧ Q (.str (Txt.mul z k)) H
  | _, _ => False
theorem op_mulS : OpR X (binaryOp .Mult) (fun x y H Q => ∃ z k, x = .str z ∧ y = .int k ∧ (-(2 ^ 20) ≤ k ∧ k ≤ 2 ^ 20) ∧ z.length * k.toNat ≤ sizeLine ∧ Q (.str (Txt.mul z k)) H) := by
  intro pins s σ H x y v u Q I rx ry h
  obtain ⟨z, k, rfl, rfl, ⟨hk0, hk1⟩, hz, q⟩ := h
  obtain ⟨t, rfl⟩ := rx
  obtain ⟨t', rfl⟩ := ry
  have hz' : z.length * k.toNat ≤ 2 ^ 24 := hz
  refine SB.mul ⟨?_, fun h1 h2 h3 => ?_, fun _ _ => ?_⟩ fun t' tk => ⟨.str _, H, I.tok _, ⟨_, rfl⟩, q⟩
  · have h1 : decide (k < -(2 ^ 63 : Int)) = false := decide_eq_false (by omega)
    have h2 : decide (k ≥ 2 ^ 63) = false := decide_eq_false (by omega)
    rw [h1, h2]; rfl
  · have hk : k = (k.toNat : Int) := by omega
    have hp : (0 : Int) < k := by omega
    have h4 : (z.length : Int) * k ≤ 2 ^ 24 := by rw [hk]; exact_mod_cast hz'
    have h5 : ((2 ^ 63 - 1) / k + 1) ≤ (z.length : Int) := h3
    have h6 : (2 ^ 63 - 1) / k * k + (2 ^ 63 - 1) % k = 2 ^ 63 - 1 := by rw [Int.mul_comm]; exact Int.mul_ediv_add_emod _ _
    have h7 : (2 ^ 63 - 1) % k < k := Int.emod_lt_of_pos _ hp
    have h8 : ((2 ^ 63 - 1) / k + 1) * k ≤ (z.length : Int) * k := Int.mul_le_mul_of_nonneg_right h5 (by omega)
    rw [Int.add_mul] at h8
    omega
  · exact decide_eq_false (by have : sizeLine = 2 ^ 24 := rfl; omega)
theorem o_mul : OpR X (binaryOp .Mult) uMul := by
  refine OpR.imp (op_mul.or (op_mulW.or (op_rep.or op_mulS))) fun x y H Q h => ?_
  unfold uMul at h
  split at h
  · obtain ⟨h1 | h1, h2⟩ := h
    · exact .inl ⟨_, _, rfl, rfl, h1, h2⟩
    · exact .inr (.inl ⟨_, _, rfl, rfl, h1, h2⟩)
  · obtain ⟨xs, h1, h2⟩ := h
    exact .inr (.inr (.inl ⟨_, _, xs, rfl, rfl, h1, h2⟩))
  · obtain ⟨h1, h2, h3⟩ := h
    exact .inr (.inr (.inr ⟨_, _, rfl, rfl, h1, h2, h3⟩))
  · exact h.elim
def uNeg : V → Hp → VK → Prop := fun x H Q => match x with
  | .int i => Q (.int (-i)) H
  | _ => False
theorem u_neg : UnR X (unaryOp .USub) uNeg := by
  intro pins s σ H x v Q I rx h
  refine un_neg pins s σ H x v Q I rx ?_
  unfold uNeg at h
  split at h
  · exact ⟨_, rfl, h⟩
  · exact h.elim
/-! ### places, cuts -/
def uIx (K : PySem.W.Frag) : R2 := fun x y H Q => match x, y with
  | .ref p, .int i => ∃ xs v, Sq K H p xs ∧ atI xs i = some v ∧ Q v H
  | .str z, .int i => z.length ≤ sizeLine ∧ ∃ c, atI z.cps.toList i = some c ∧ Q (.str ⟨#[c]⟩) H
  | _, _ => False
theorem x_any : IxR X (uIx X.K) := by
  have h : IxR X (rIx X.K) := ix_seq
  intro value slice pins s σ H x y v u Q I rx ry q hs
  refine h value slice pins s σ H x y v u Q I rx ry ?_ hs
  unfold uIx at q
  split at q
  · obtain ⟨xs, w, h1 | h1, h2, h3⟩ := q
    · exact .inl ⟨_, xs, _, w, rfl, rfl, h1, h2, h3⟩
    · exact .inr (.inl ⟨_, xs, _, w, rfl, rfl, h1, h2, h3⟩)
  · obtain ⟨h1, c, h2, h3⟩ := q
    exact .inr (.inr ⟨_, _, c, rfl, rfl, h1, h2, h3⟩)
  · exact q.elim
def uSet : V → V → V → Hp → (Hp → Prop) → Prop := fun o i v H Q => match o, i with
  | .ref p, .int k => ∃ xs j, H p = some (.lst xs) ∧ ixN xs.length k = some j ∧ Q (upd H p (.lst (xs.set j v)))
  | _, _ => False
theorem s_list : PSet X uSet := by
  intro pins s σ H o i v ov iv vv Q I r1 r2 r3 q
  refine set_list pins s σ H o i v ov iv vv Q I r1 r2 r3 ?_
  unfold uSet at q
  split at q
  · obtain ⟨xs, j, h1, h2, h3⟩ := q
    exact ⟨_, xs, _, j, rfl, rfl, h1, h2, h3⟩
  · exact q.elim

/-! ### parts: of a list, of a tuple, of a text -/
theorem SlR.imp {r r' : V → Option Int → Option Int → Hp → VK → Prop} (h : SlR X r) (i : ∀ x l u H Q, r' x l u H Q → r x l u H Q) : SlR X r' :=
  fun p s σ H x v vl vu lo hi sl Q I rx hs pl pu q => h p s σ H x v vl vu lo hi sl Q I rx hs pl pu (i x lo hi H Q q)
def uSl (K : PySem.W.Frag) : V → Option Int → Option Int → Hp → VK → Prop := fun x lo hi H Q => match x with
  | .str z => z.length ≤ sizeLine ∧ Q (.str (cutS z lo hi)) H
  | .ref p => (∃ xs, SqL K H p xs ∧ ∀ l, H l = none → Q (.ref l) (upd H l (.lst (cutV xs lo hi)))) ∨
      ∃ xs, SqT K H p xs ∧ (HT.sIx xs.length 0 lo = 0 ∧ HT.sIx xs.length xs.length hi = xs.length → Q (.ref p) H) ∧
        (¬(HT.sIx xs.length 0 lo = 0 ∧ HT.sIx xs.length xs.length hi = xs.length) → ∀ l, H l = none → Q (.ref l) (upd H l (.tup (cutV xs lo hi))))
  | _ => False
theorem sl_any : SlR X (uSl X.K) := by
  refine SlR.imp (sl_str.or (sl_list.or sl_tupA)) fun x l u H Q h => ?_
  unfold uSl at h
  split at h
  · exact .inl ⟨_, rfl, h.1, h.2⟩
  · rcases h with ⟨xs, h1, h2⟩ | ⟨xs, h1, h2, h3⟩
    · exact .inr (.inl ⟨_, xs, rfl, h1, h2⟩)
    · exact .inr (.inr ⟨_, xs, rfl, h1, h2, h3⟩)
  · exact h.elim
/-- an expression whose value is an int -/
theorem PEi {e : Expr} {te : TE} (h : PE X e te) : PE X e (fun σ H Q => te σ H fun x H1 => Q x H1) := h
def pI (te : TE) : TO := fun σ H Q => te σ H fun x H1 => match x with
  | .int i => Q (some i) H1
  | _ => False
theorem po {i : Expr} {te : TE} (h : PE X i te) : PO X (some i) (pI te) := by
  have key : ∀ (pins : List (Addr × Obj)) (s : Shared) (σ : L2.St) (H : Hp) (Q : Option Int → Hp → Prop), L2.Inv X pins σ H s → pI te σ H Q →
      wpAny (model X.prog X.w) X.A (evalPart (some i) X.env) (fun u s' => ∃ o H', L2.Inv X pins σ H' s' ∧ IsPart u o ∧ Q o H') X.xe s := by
    intro pins s σ H Q I hw
    show wpAny (model X.prog X.w) X.A (eval i X.env) _ X.xe s
    refine thn (h.run pins s σ H _ I hw) fun v s1 ⟨x, H1, I1, r1, q1⟩ => ?_
    cases x with
    | int j =>
      obtain ⟨t, rfl⟩ := r1
      exact ⟨some j, H1, I1, .int j t, q1⟩
    | _ => exact (show False from q1).elim
  exact ⟨key⟩
/-! ### comparing -/
def uEq (K : PySem.W.Frag) : R2 := fun x y H Q => match x, y with
  | .ref p, .ref q => ∃ d e, Dp K H (.ref p) d ∧ Dp K H (.ref q) e ∧ SeqAt.shaped d = true ∧ SeqAt.shaped e = true ∧ Q (.bl (PyData.eqv d e)) H
  | x, y => scal x y = true ∧ Q (.bl (decide (x = y))) H
theorem o_eq {k : Nat} (hr : Room k X.A) : OpR X (compareOp .Eq) (uEq X.K) := by
  refine OpR.imp (op_eq.or (op_eqD hr.units)) fun x y H Q h => ?_
  unfold uEq at h
  split at h
  · obtain ⟨d, e, h⟩ := h
    exact .inr ⟨d, e, h⟩
  · exact .inl h
def uNe (K : PySem.W.Frag) : R2 := fun x y H Q => match x, y with
  | .ref p, .ref q => ∃ d e, Dp K H (.ref p) d ∧ Dp K H (.ref q) e ∧ SeqAt.shaped d = true ∧ SeqAt.shaped e = true ∧ Q (.bl (!PyData.eqv d e)) H
  | x, y => scal x y = true ∧ Q (.bl (!decide (x = y))) H
theorem o_ne {k : Nat} (hr : Room k X.A) : OpR X (compareOp .NotEq) (uNe X.K) := by
  refine OpR.imp (op_ne.or (op_neD hr.units)) fun x y H Q h => ?_
  unfold uNe at h
  split at h
  · obtain ⟨d, e, h⟩ := h
    exact .inr ⟨d, e, h⟩
  · exact .inl h
/-- texts: is it behind, or the same -/
def uLe : R2 := fun x y H Q => match x, y with
  | .int i, .int j => Q (.bl (decide (i ≤ j))) H
  | .str a, .str b => Q (.bl (!decide (b.cps.toList < a.cps.toList))) H
  | _, _ => False
theorem o_le : OpR X (compareOp .LtE) uLe := by
  refine OpR.imp (op_le.or op_le_str) fun x y H Q h => ?_
  unfold uLe at h
  split at h
  · exact .inl ⟨_, _, rfl, rfl, h⟩
  · exact .inr ⟨_, _, rfl, rfl, h⟩
  · exact h.elim
/-- a text within a text; a flat thing in a list or a tuple of flat things -/
def inS (a b : Str) : Bool := !(Builtin.Str.occurrences b a 0 b.length 1).isEmpty
def uIn (K : PySem.W.Frag) (neg : Bool) : R2 := fun x y H Q => match x, y with
  | .str a, .str b => Q (.bl (if neg then !inS a b else inS a b)) H
  | x, .ref p => ∃ xs, Sq K H p xs ∧ flatV x = true ∧ xs.all flatV = true ∧ Q (.bl (if neg then !inV x xs else inV x xs)) H
  | _, _ => False
theorem o_in : OpR X (compareOp .In) (uIn X.K false) := by
  refine OpR.imp (op_in_str.or op_in_seq) fun x y H Q h => ?_
  unfold uIn at h
  split at h
  · exact .inl ⟨_, _, rfl, rfl, h⟩
  · obtain ⟨xs, h1, h2, h3, h4⟩ := h
    exact .inr ⟨_, xs, rfl, h1, h2, h3, h4⟩
  · exact h.elim
theorem o_notIn : OpR X (compareOp .NotIn) (uIn X.K true) := by
  refine OpR.imp (op_notIn_str.or op_notIn_seq) fun x y H Q h => ?_
  unfold uIn at h
  split at h
  · exact .inl ⟨_, _, rfl, rfl, h⟩
  · obtain ⟨xs, h1, h2, h3, h4⟩ := h
    exact .inr ⟨_, xs, rfl, h1, h2, h3, h4⟩
  · exact h.elim
def uIs : R2 := fun x y H Q => match y with
  | .non => Q (.bl (decide (x = .non))) H
  | _ => False
theorem o_is : OpR X (compareOp .Is) uIs := by
  refine OpR.imp op_isN fun x y H Q h => ?_
  unfold uIs at h
  split at h
  · exact ⟨rfl, h⟩
  · exact h.elim
def uIsNot : R2 := fun x y H Q => match y with
  | .non => Q (.bl (!decide (x = .non))) H
  | _ => False
theorem o_isNot : OpR X (compareOp .IsNot) uIsNot := by
  refine OpR.imp op_notN fun x y H Q h => ?_
  unfold uIsNot at h
  split at h
  · exact ⟨rfl, h⟩
  · exact h.elim
/-! ### built-ins -/
/-- the built-in type of a value -/
def tyOf (H : Hp) : V → Option String
  | .non => some "NoneType"
  | .bl _ => some "bool"
  | .int _ => some "int"
  | .str _ => some "str"
  | .ref p => match H p with
    | some (.lst _) => some "list"
    | some (.tup _) => some "tuple"
    | some (.dK _) => some "dict"
    | some (.dT _) => some "dict"
    | _ => none
  | _ => none
def tys : List String := ["NoneType", "bool", "int", "str", "list", "tuple", "dict"]
def isSub (t c : String) : Bool := t == c || (t == "bool" && c == "int")
theorem tyOf_mem {H : Hp} {x : V} {t : String} (h : tyOf H x = some t) : t ∈ tys := by
  unfold tyOf at h
  split at h <;> first
    | (cases h; done)
    | (cases h; decide)
    | (split at h <;> first | (cases h; done) | (cases h; decide))
theorem tyX_of {K : PySem.W.Frag} {H : Hp} {x : V} {t : String} (h : tyOf H x = some t) : TyX K H x (.type t) := by
  unfold tyOf at h
  split at h
  · cases h; exact .base .non
  · cases h; exact .base (.bl _)
  · cases h; exact .base (.int _)
  · cases h; exact .base (.str _)
  · split at h
    · rename_i e; cases h; exact .base (.lst e)
    · rename_i e; cases h; exact .base (.tup e)
    · rename_i e; cases h; exact .base (.dK e)
    · rename_i e; cases h; exact .base (.dT e)
    · cases h
  · cases h
theorem kitB_all : ∀ t ∈ tys, ∀ c ∈ tys, kitB t c = some (isSub t c) := by decide +kernel
def uIsi : List V → Hp → VK → Prop := fun xs H Q => match xs with
  | [x, .ty c] => ∃ t, tyOf H x = some t ∧ tys.contains c = true ∧ Q (.bl (isSub t c)) H
  | _ => False
theorem b_isi : CallR X (.builtin "isinstance") uIsi := by
  refine CallR.imp call_isi fun xs H Q h => ?_
  unfold uIsi at h
  split at h
  · rename_i x c
    obtain ⟨t, h1, h2, h3⟩ := h
    exact ⟨x, .ty c, .type t, .type c, _, rfl, .ty c, tyX_of h1, kit_ty (kitB_all t (tyOf_mem h1) c (by simpa using h2)), h3⟩
  · exact h.elim
def uLen (K : PySem.W.Frag) : List V → Hp → VK → Prop := fun xs H Q => match xs with
  | [.str z] => z.length ≤ sizeLine ∧ Q (.int z.length) H
  | [.ref p] => (∃ xs, Sq K H p xs ∧ Q (.int xs.length) H) ∨ ∃ kvs, H p = some (.dK kvs) ∧ Q (.int kvs.length) H
  | _ => False
theorem CallR.or {f : Value} {r r' : List V → Hp → VK → Prop} (h : CallR X f r) (h' : CallR X f r') : CallR X f (fun xs H Q => r xs H Q ∨ r' xs H Q) := by
  intro pins s σ H xs us Q I rx q
  rcases q with q | q
  · exact h pins s σ H xs us Q I rx q
  · exact h' pins s σ H xs us Q I rx q
theorem b_len : CallR X (.builtin "len") (uLen X.K) := by
  refine CallR.imp (call_len.or call_lenD) fun xs H Q h => ?_
  unfold uLen at h
  split at h
  · exact .inl ⟨_, _, rfl, ⟨h.1, rfl⟩, h.2⟩
  · rename_i p
    rcases h with ⟨ys, h1 | h1, h2⟩ | ⟨kvs, h1, h2⟩
    · exact .inl ⟨_, _, rfl, .inl ⟨ys, h1, rfl⟩, h2⟩
    · exact .inl ⟨_, _, rfl, .inr ⟨ys, h1, rfl⟩, h2⟩
    · exact .inr ⟨p, kvs, rfl, h1, h2⟩
  · exact h.elim
def uInt : List V → Hp → VK → Prop := fun xs H Q => match xs with
  | [.int i] => Q (.int i) H
  | [.bl k] => Q (.int (if k then 1 else 0)) H
  | _ => False
theorem b_int : CallR X (.type "int") uInt := by
  refine CallR.imp call_int1 fun xs H Q h => ?_
  unfold uInt at h
  split at h
  · exact .inl ⟨_, rfl, h⟩
  · exact .inr ⟨_, rfl, h⟩
  · exact h.elim
def uMax : List V → Hp → VK → Prop := fun xs H Q => match xs with
  | [.int i, .int j] => Q (.int (if j > i then j else i)) H
  | _ => False
theorem b_max (hc : X.calm = true) : CallR X (.builtin "max") uMax := by
  refine CallR.imp (call_max2 hc) fun xs H Q h => ?_
  unfold uMax at h
  split at h
  · exact ⟨_, _, rfl, h⟩
  · exact h.elim
def uList (K : PySem.W.Frag) : List V → Hp → VK → Prop := fun xs H Q => match xs with
  | [.ref p] => ∃ ys, Sq K H p ys ∧ ∀ l, H l = none → Q (.ref l) (upd H l (.lst ys))
  | _ => False
theorem b_list : CallR X (.type "list") (uList X.K) := by
  refine CallR.imp call_list_of fun xs H Q h => ?_
  unfold uList at h
  split at h
  · obtain ⟨ys, h1, h2⟩ := h
    exact ⟨_, ys, rfl, h1, h2⟩
  · exact h.elim
def uAll (K : PySem.W.Frag) : List V → Hp → VK → Prop := fun xs H Q => match xs with
  | [.ref p] => ∃ bs : List Bool, SqL K H p (bs.map V.bl) ∧ Q (.bl (bs.all id)) H
  | _ => False
theorem b_all (hc : X.calm = true) : CallR X (.builtin "all") (uAll X.K) := by
  refine CallR.imp (cr_all hc) fun xs H Q h => ?_
  unfold uAll at h
  split at h
  · obtain ⟨bs, h1, h2⟩ := h
    exact ⟨_, bs, rfl, h1, h2⟩
  · exact h.elim
/-- a list display, its place not that of the modules -/
def tLstN (t : TA) : TE := fun σ H Q => t σ H fun xs H1 => xs.length ≤ sizeLine ∧ ∀ p, H1 p = none → p ≠ sysModules → Q (.ref p) (upd H1 p (.lst xs))
theorem pe_lstN {es : List Expr} {t : TA} {pos : Pos} (h : PA X es t) : PE X (.List es pos) (tLstN t) := by
  refine ⟨fun pins s σ H Q I hq => ?_⟩
  refine wpAny_List_spliced (thn (h.run pos pins s σ H _ I hq) fun us s1 ⟨xs, H1, I1, r, z, q⟩ => ⟨by rw [← r.length]; exact z, ?_⟩)
  have hf : H1 s1.heap.objs.size = none := I1.hok.fresh (Nat.le_refl _)
  exact ⟨.ref s1.heap.objs.size, upd H1 s1.heap.objs.size (.lst xs), I1.laid (t' := s1.toks) (fun b u e => Heap.get?_push_of_some _ e) (Nat.le_refl _) ⟨z, us, 0, r, Heap.get?_push_size _ rfl⟩, rfl, q _ hf (Nat.ne_of_gt I1.big)⟩
/-- what is never reached -/
theorem pe_no {e : Expr} : PE X e (fun _ _ _ => False) := ⟨fun _ _ _ _ _ _ h => h.elim⟩
/-! ### constants of the module -/
section
variable {pos : Pos} {x : Str}
theorem pe_gS {z : Str} {t : Tok} (hg : Gl X x) (hm : X.mg x = some (.str z t)) (hd : (x == ("__debug__" : Str)) = false := by decide) : PE X (.Name x pos) (tC (.str z)) := pe_glob hg hm ⟨_, rfl⟩ hd
theorem pe_gI {i : Int} {t : Tok} (hg : Gl X x) (hm : X.mg x = some (.int i t)) (hd : (x == ("__debug__" : Str)) = false := by decide) : PE X (.Name x pos) (tC (.int i)) := pe_glob hg hm ⟨_, rfl⟩ hd
theorem pe_gR {a : Addr} (hg : Gl X x) (hm : X.mg x = some (.ref a)) (hd : (x == ("__debug__" : Str)) = false := by decide) : PE X (.Name x pos) (tC (.ref a)) := pe_glob hg hm rfl hd
end
/-! ### the names of built-in types -/
section
variable {pos : Pos}
theorem n_str (hg : Gl X "str") (hm : X.mg "str" = none) : PE X (.Name "str" pos) (tC (.ty "str")) := pe_bltn hg hm (by decide +kernel : bootBuiltins "str" = some (.type "str")) rfl
theorem n_int (hg : Gl X "int") (hm : X.mg "int" = none) : PE X (.Name "int" pos) (tC (.ty "int")) := pe_bltn hg hm (by decide +kernel : bootBuiltins "int" = some (.type "int")) rfl
theorem n_bool (hg : Gl X "bool") (hm : X.mg "bool" = none) : PE X (.Name "bool" pos) (tC (.ty "bool")) := pe_bltn hg hm (by decide +kernel : bootBuiltins "bool" = some (.type "bool")) rfl
theorem n_list (hg : Gl X "list") (hm : X.mg "list" = none) : PE X (.Name "list" pos) (tC (.ty "list")) := pe_bltn hg hm (by decide +kernel : bootBuiltins "list" = some (.type "list")) rfl
theorem n_tuple (hg : Gl X "tuple") (hm : X.mg "tuple" = none) : PE X (.Name "tuple" pos) (tC (.ty "tuple")) := pe_bltn hg hm (by decide +kernel : bootBuiltins "tuple" = some (.type "tuple")) rfl
theorem n_dict (hg : Gl X "dict") (hm : X.mg "dict" = none) : PE X (.Name "dict" pos) (tC (.ty "dict")) := pe_bltn hg hm (by decide +kernel : bootBuiltins "dict" = some (.type "dict")) rfl
end
end
end Bs
/-! Walks over whatever is walked, targets of several names, calls of defs by a bundle. -/
namespace Bs
open PySem PySem.Spec PyProof.Rows L2
section
variable {X : Cx} {tg : Expr}
/-- a list, a tuple, a text that is walked -/
def iAny (K : PySem.W.Frag) (te : TE) : TI := fun σ H R => te σ H fun x H1 => match x with
  | .str z => R (Its z) H1
  | .ref a => ((∃ xs, SqL K H1 a xs) ∧ R (Itl K a) H1) ∨ ((∃ xs, SqT K H1 a xs) ∧ R (Itt K a) H1)
  | _ => False
theorem pi_any {l : Expr} {tl : TE} (hl : PE X l tl) : PI X tg l (iAny X.K tl) := by
  refine ⟨fun pins s σ H R I h => ?_⟩
  refine thn (hl.run pins s σ H _ I h) fun v s1 ⟨x, H1, I1, r1, q1⟩ => ?_
  have one : ∀ (a : Expr) (t : TI), (∀ (tl : TE), PE X l tl → PI X tg l t) → True := fun _ _ _ => trivial
  cases x with
  | str z =>
    obtain ⟨t, rfl⟩ := r1
    cases ha : z.cps.all (· < 128)
    · exact wpAny_pyIter_wide ha (pi_one (tk := s1.toks) I1 _ (turn_str _ z t "str_iterator" (.inr rfl)) ⟨_, Heap.get?_push_size _ rfl, rfl, rfl⟩ q1)
    · exact wpAny_pyIter_ascii ha (pi_one (tk := s1.toks) I1 _ (turn_str _ z t "str_ascii_iterator" (.inl rfl)) ⟨_, Heap.get?_push_size _ rfl, rfl, rfl⟩ q1)
  | ref a =>
    cases r1
    rcases q1 with ⟨⟨xs, hq⟩, q⟩ | ⟨⟨xs, hq⟩, q⟩
    · obtain ⟨its, rv, p, hz⟩ := I1.list hq
      refine wpAny_pyIter_list p.isList ?_
      refine ⟨s1.heap.objs.size, [s1.heap.objs.size], _, _, H1, rfl, I1.kept (t' := s1.toks) fun b o e => Heap.get?_push_of_some _ e, turn_list a _, ⟨_, Heap.get?_push_size _ rfl, rfl, rfl⟩, fun b hb => ?_, q⟩
      have e : b = s1.heap.objs.size := by simpa using hb
      subst e
      exact I1.fpOk (Nat.le_refl _) (I1.hok.fresh (Nat.le_refl _))
    · obtain ⟨its, rv, p, hz⟩ := I1.tuple hq
      refine wpAny_pyIter_tuple (show s1.heap.IsTuple a its.toArray from p) ?_
      refine ⟨s1.heap.objs.size, [s1.heap.objs.size], _, _, H1, rfl, I1.kept (t' := s1.toks) fun b o e => Heap.get?_push_of_some _ e, turn_tuple a _, ⟨_, Heap.get?_push_size _ rfl, rfl, rfl⟩, fun b hb => ?_, q⟩
      have e : b = s1.heap.objs.size := by simpa using hb
      subst e
      exact I1.fpOk (Nat.le_refl _) (I1.hok.fresh (Nat.le_refl _))
  | _ => exact (show False from q1).elim
/-- a, b, .. = a list or a tuple of that length -/
def gAny (K : PySem.W.Frag) (n : Nat) (t : TGs) : TG := fun v σ H Q => match v with
  | .ref a => ∃ xs, Sq K H a xs ∧ xs.length = n ∧ t xs σ H Q
  | _ => False
theorem pg_any {es : List Expr} {k : Nat} {t : TGs} {n : Nat} {pos : Pos} (hc : X.calm = true) (h : PGs X es t)
    (hn : (assignEach es X.env).length = n := by rfl) (hst : (assignEach es X.env).findIdx? (·.1) = none := by rfl) : PG X (.Tuple es k pos) (gAny X.K n t) := by
  refine ⟨fun pins s σ H v u Q I r hw => ?_⟩
  unfold gAny at hw
  split at hw
  · obtain ⟨xs, h1 | h1, h2⟩ := hw
    · exact (pg_lst hc h hn hst).run pins s σ H _ u Q I r ⟨_, xs, rfl, h1, h2⟩
    · exact (pg_tup hc h hn hst).run pins s σ H _ u Q I r ⟨_, xs, rfl, h1, h2⟩
  · exact hw.elim
end
/-! ### loops, as they are told -/
section
variable {K : PySem.W.Frag} {a : Addr} {xs : List V} {g : TG} {tb : TS} {D : Ends} {σ : L2.St} {H : Hp} {x : V}
/-- for .. in a list or a tuple that the body leaves -/
theorem for_sq (Pv : Nat → L2.St → Hp → Prop) (h0 : Pv 0 σ H) (hl : (∀ i σ H, i ≤ xs.length → Pv i σ H → SqL K H a xs) ∨ (∀ i σ H, i ≤ xs.length → Pv i σ H → SqT K H a xs))
    (hs : ∀ i x σ H, xs[i]? = some x → Pv i σ H → g x σ H fun σ2 H2 => tb { D with nx := Pv (i + 1), ct := Pv (i + 1), bk := D.nx } σ2 H2) (hd : ∀ σ H, Pv xs.length σ H → D.nx σ H)
    {R : It → Hp → Prop} (hR : R = fun J H1 => ∃ W : Nat → Nat → L2.St → Hp → Prop, (∃ m, W 0 m σ H1) ∧ ∀ i m σ H, W i m σ H →
      (J.stop i H ∧ D.nx σ H) ∨ (J.go i H ∧ ∃ N : L2.St → Hp → Prop, (∀ σ' H', N σ' H' → ∃ m', m' < m ∧ W (i + 1) m' σ' H') ∧ ∀ x H', J.yld i H x H' → g x σ H' fun σ2 H2 => tb { D with nx := N, ct := N, bk := D.nx } σ2 H2)) :
    ((∃ xs, SqL K H a xs) ∧ R (Itl K a) H) ∨ ((∃ xs, SqT K H a xs) ∧ R (Itt K a) H) := by
  subst hR
  rcases hl with hl | hl
  · exact .inl ⟨⟨xs, hl 0 σ H (Nat.zero_le _) h0⟩, for_list Pv h0 hl hs hd⟩
  · exact .inr ⟨⟨xs, hl 0 σ H (Nat.zero_le _) h0⟩, for_tup Pv h0 hl hs hd⟩
/-- for c in a text -/
theorem for_txt {z : Str} (Pv : Nat → L2.St → Hp → Prop) (h0 : Pv 0 σ H)
    (hs : ∀ i c σ H, z.cps.toList[i]? = some c → Pv i σ H → g (.str ⟨#[c]⟩) σ H fun σ2 H2 => tb { D with nx := Pv (i + 1), ct := Pv (i + 1), bk := D.nx } σ2 H2) (hd : ∀ σ H, Pv z.cps.toList.length σ H → D.nx σ H) :
    ∃ W : Nat → Nat → L2.St → Hp → Prop, (∃ m, W 0 m σ H) ∧ ∀ i m σ H, W i m σ H →
      ((Its z).stop i H ∧ D.nx σ H) ∨ ((Its z).go i H ∧ ∃ N : L2.St → Hp → Prop, (∀ σ' H', N σ' H' → ∃ m', m' < m ∧ W (i + 1) m' σ' H') ∧ ∀ x H', (Its z).yld i H x H' → g x σ H' fun σ2 H2 => tb { D with nx := N, ct := N, bk := D.nx } σ2 H2) := by
  refine ⟨fun i m σ H => m = z.cps.toList.length - i ∧ i ≤ z.cps.toList.length ∧ Pv i σ H, ⟨_, rfl, Nat.zero_le _, h0⟩, ?_⟩
  rintro i m σ H ⟨rfl, hi, p⟩
  by_cases hlt : i < z.cps.toList.length
  · refine .inr ⟨(by have := hlt; simp at this; exact this : i < z.cps.size), Pv (i + 1), fun σ' H' p' => ⟨z.cps.toList.length - (i + 1), by omega, rfl, hlt, p'⟩, fun x H' y => ?_⟩
    obtain ⟨rfl, c, hc, rfl⟩ := y
    exact hs i c σ _ (by simpa using hc) p
  · have e : i = z.cps.toList.length := by omega
    subst e
    exact .inl ⟨by show z.cps.size ≤ _; simp, hd σ H p⟩
end
/-! ### a comprehension, as it is told -/
section
variable {K : PySem.W.Frag} {a : Addr} {xs : List V} {g : TG} {tt : TT} {te : TE} {vs : List Nat} {σ : L2.St} {H1 : Hp} {D : Addr} {Qd : Hp → Prop}
theorem lc_txt {z : Str} (Pv : Nat → Hp → Prop) (h0 : Pv 0 (upd H1 D (.lst [])))
    (hs : ∀ i c H, z.cps.toList[i]? = some c → Pv i H → g (.str ⟨#[c]⟩) (wipe σ vs) H fun σ2 H2 => wipe σ2 vs = wipe σ vs ∧ tt σ2 H2 fun b H3 =>
      if b = true then te σ2 H3 fun y H4 => ∃ acc, H4 D = some (.lst acc) ∧ acc.length < sizeLine ∧ Pv (i + 1) (upd H4 D (.lst (acc ++ [y]))) else Pv (i + 1) H3) (hd : ∀ H, Pv z.cps.toList.length H → Qd H) :
    ∃ W : Nat → Nat → Hp → Prop, (∃ m, W 0 m (upd H1 D (.lst []))) ∧ ∀ i m H, W i m H → ((Its z).stop i H ∧ Qd H) ∨ ((Its z).go i H ∧ ∃ Nx : Hp → Prop, (∀ H', Nx H' → ∃ m', m' < m ∧ W (i + 1) m' H') ∧
      ∀ x H', (Its z).yld i H x H' → g x (wipe σ vs) H' fun σ2 H2 => wipe σ2 vs = wipe σ vs ∧ tt σ2 H2 fun b H3 =>
        if b = true then te σ2 H3 fun y H4 => ∃ acc, H4 D = some (.lst acc) ∧ acc.length < sizeLine ∧ Nx (upd H4 D (.lst (acc ++ [y]))) else Nx H3) := by
  refine ⟨fun i m H => m = z.cps.toList.length - i ∧ i ≤ z.cps.toList.length ∧ Pv i H, ⟨_, rfl, Nat.zero_le _, h0⟩, ?_⟩
  rintro i m H ⟨rfl, hi, p⟩
  by_cases hlt : i < z.cps.toList.length
  · refine .inr ⟨(by have := hlt; simp at this; exact this : i < z.cps.size), Pv (i + 1), fun H' p' => ⟨z.cps.toList.length - (i + 1), by omega, rfl, hlt, p'⟩, fun x H' y => ?_⟩
    obtain ⟨rfl, c, hc, rfl⟩ := y
    exact hs i c _ (by simpa using hc) p
  · have e : i = z.cps.toList.length := by omega
    subst e
    exact .inl ⟨by show z.cps.size ≤ _; simp, hd H p⟩
end
/-! ### a def, as its callers know it -/
structure Fn (P : Program) (w : World) (K : PySem.W.Frag) (mg : Str → Option Value) (base : Heap) (CX : CXT) (k : Nat) (x : Str) (ps : List Str) (sp : Sp) (f : Addr) (fd : FuncData) : Prop where
  ok : FnOk P w K mg base CX k f fd ps sp
  hm : mg x = some (.ref f)
  kp : PySem.W.keepIn K (.ref f) = true
  bd : Binds K fd ps []
def tF (sp : Sp) (E : XK) (t : TA) : TE := fun σ H Q => t σ H fun vs H1 => sp vs H1 Q E
section
variable {X : Cx} {CX : CXT} {k : Nat} {f : Addr} {fd : FuncData} {ps : List Str} {sp : Sp} {E : XK} {x : Str} {p pos : Pos} {e : Expr} {es : List Expr} {t : TA}
theorem fn (F : Fn X.prog X.w X.K X.mg X.base CX k x ps sp f fd) (hr : Room k X.A) (hg : Gl X x) (hx : Passes CX X E)
    (ha : PA X (e :: es) t) (hdb : (x == ("__debug__" : Str)) = false := by decide) (he : starEach (e :: es) X.env = (false, eval e X.env) :: starEach es X.env := by rfl) (hpl : (backTo pos (starEach es X.env)).any (·.1) = false := by rfl) :
    PE X (.Call (.Name x p) (e :: es) [] pos) (tF sp E t) := by
  refine PE.imp (pe_call F.ok hr hg F.hm F.kp F.bd .nil hx ha hdb he hpl) fun σ H Q h => ?_
  show t σ H fun vs H1 => sp (vs ++ []) H1 Q E
  simp only [List.append_nil]
  exact h
end
/-! ### the same, the frag named: within a comprehension -/
section
variable {X : Cx} {tg : Expr} (K : PySem.W.Frag) (h : X.K = K)
include h
theorem x_anyK : IxR X (uIx K) := by subst h; exact x_any
theorem sl_anyK : SlR X (uSl K) := by subst h; exact sl_any
theorem o_eqK {k : Nat} (hr : Room k X.A) : OpR X (compareOp .Eq) (uEq K) := by subst h; exact o_eq hr
theorem o_neK {k : Nat} (hr : Room k X.A) : OpR X (compareOp .NotEq) (uNe K) := by subst h; exact o_ne hr
theorem o_inK : OpR X (compareOp .In) (uIn K false) := by subst h; exact o_in
theorem o_notInK : OpR X (compareOp .NotIn) (uIn K true) := by subst h; exact o_notIn
theorem b_lenK : CallR X (.builtin "len") (uLen K) := by subst h; exact b_len
theorem b_listK : CallR X (.type "list") (uList K) := by subst h; exact b_list
theorem b_allK (hc : X.calm = true) : CallR X (.builtin "all") (uAll K) := by subst h; exact b_all hc
theorem pi_anyK {l : Expr} {tl : TE} (hl : PE X l tl) : PI X tg l (iAny K tl) := by subst h; exact pi_any hl
theorem pg_anyK {es : List Expr} {k : Nat} {t : TGs} {n : Nat} {pos : Pos} (hc : X.calm = true) (h' : PGs X es t)
    (hn : (assignEach es X.env).length = n := by rfl) (hst : (assignEach es X.env).findIdx? (·.1) = none := by rfl) : PG X (.Tuple es k pos) (gAny K n t) := by subst h; exact pg_any hc h' hn hst
end
/-! ### what holds between two statements is named -/
def tCut (t u : TS) : TS := fun D σ H => ∃ J : L2.St → Hp → Prop, t { D with nx := J } σ H ∧ ∀ σ' H', J σ' H' → u D σ' H'
theorem pss_cut {X : Cx} {st : Stmt} {rest : List Stmt} {t u : TS} (h1 : PS X st t) (h2 : PSs X rest u) : PSs X (st :: rest) (tCut t u) := by
  refine ⟨fun pins s σ H D I h => ?_⟩
  obtain ⟨J, h, hJ⟩ := h
  refine wpAny_execs_cons (thn (h1.run pins s σ H { D with nx := J } I h) fun f s1 q => ?_)
  cases f with
  | next =>
    obtain ⟨σ', H', I', q⟩ := q
    exact h2.run pins s1 σ' H' D I' (hJ _ _ q)
  | ret v => exact q
  | brk => exact q
  | cont => exact q
end Bs
namespace Bs
open PySem PySem.Spec PyProof.Rows L2 TL
/-! ### texts as lists of code points -/
def tx (cs : List Nat) : Str := ⟨cs.toArray⟩
abbrev one (c : Nat) : Str := ⟨#[c]⟩
theorem tx_cps (cs : List Nat) : (tx cs).cps.toList = cs := by simp [tx]
theorem tx_of (z : Str) : tx z.cps.toList = z := by cases z; simp [tx]
theorem tx_len (cs : List Nat) : (tx cs).length = cs.length := by show (tx cs).cps.size = _; simp [tx]
theorem len_cps (z : Str) : z.length = z.cps.toList.length := by show z.cps.size = _; simp
theorem str_ext {a b : Str} (h : a.cps.toList = b.cps.toList) : a = b := by rw [← tx_of a, ← tx_of b, h]
theorem app_cps (a b : Str) : (a ++ b).cps.toList = a.cps.toList ++ b.cps.toList := by
  show (a.cps ++ b.cps).toList = _
  simp
theorem app_len (a b : Str) : (a ++ b).length = a.length + b.length := by rw [len_cps, len_cps, len_cps, app_cps, List.length_append]
theorem joinL_ones : ∀ cs : List Nat, joinL [] (cs.map fun c => [c]) = cs
  | [] => rfl
  | [_] => rfl
  | a :: b :: r => by
    show [a] ++ ([] ++ joinL [] ((b :: r).map fun c => [c])) = _
    rw [joinL_ones (b :: r)]
    rfl
theorem join_ones {e : Str} (he : e.cps.toList = []) (cs : List Nat) : Txt.join e (cs.map one) = tx cs := by
  refine str_ext ?_
  rw [join_eq, tx_cps]
  have h := tl_join e (cs.map one)
  have h2 : (cs.map one).map tl = cs.map fun c => [c] := by simp [tl]
  rw [h2, show tl e = [] from he, joinL_ones] at h
  exact h
theorem sum_ones (cs : List Nat) : ((cs.map one).map (·.length)).sum = cs.length := by
  induction cs with
  | nil => rfl
  | cons a r ih =>
    show (one a).length + ((r.map one).map (·.length)).sum = r.length + 1
    rw [ih]
    show 1 + _ = _
    omega
theorem cutS_cps (z : Str) (lo hi : Option Int) : (cutS z lo hi).cps.toList = (z.cps.toList.drop (HT.sIx z.length 0 lo)).take (HT.sIx z.length z.length hi - HT.sIx z.length 0 lo) := by
  unfold cutS
  simp
theorem inS_one (c : Nat) (z : Str) : inS (one c) z = decide (c ∈ z.cps.toList) := (PySem.StrLaws.found_one z c)
def abc : Str := "abcdef"
/-- the slots below a size -/
def below (n : Int) : Str := cutS abc none (some n)
theorem below_len {n : Int} (h1 : 1 ≤ n) (h2 : n ≤ 6) : (below n).length = n.toNat := by
  have : n = 1 ∨ n = 2 ∨ n = 3 ∨ n = 4 ∨ n = 5 ∨ n = 6 := by omega
  rcases this with rfl | rfl | rfl | rfl | rfl | rfl <;> decide +kernel
theorem below_eq {n : Int} (h1 : 1 ≤ n) (h2 : n ≤ 6) : (below n).cps.toList = [97, 98, 99, 100, 101, 102].take n.toNat := by
  have : n = 1 ∨ n = 2 ∨ n = 3 ∨ n = 4 ∨ n = 5 ∨ n = 6 := by omega
  rcases this with rfl | rfl | rfl | rfl | rfl | rfl <;> decide +kernel
theorem fold_size : ∀ (l : List (Array Nat)) (n : Nat) (acc : Array Nat), (∀ x ∈ l, x.size = n) → (l.foldl (· ++ ·) acc).size = acc.size + l.length * n
  | [], n, acc, _ => by simp
  | x :: r, n, acc, h => by
    show (r.foldl (· ++ ·) (acc ++ x)).size = _
    rw [fold_size r n _ fun y hy => h y (List.mem_cons_of_mem _ hy), Array.size_append, h x List.mem_cons_self, List.length_cons, Nat.add_mul]
    omega
theorem mul_len (z : Str) (k : Int) : (Txt.mul z k).length ≤ z.length * k.toNat := by
  unfold Txt.mul
  split
  · exact Nat.zero_le _
  · split
    · rename_i h1 h2
      have h3 : 1 ≤ k.toNat := by omega
      exact Nat.le_mul_of_pos_right _ h3
    · show ((List.replicate k.toNat z.cps).foldl (· ++ ·) #[]).size ≤ _
      rw [fold_size _ z.cps.size _ fun x hx => by rw [(List.mem_replicate.mp hx).2]]
      rw [List.length_replicate, Nat.mul_comm]
      show 0 + z.cps.size * k.toNat ≤ z.cps.size * k.toNat
      omega
/-! ### small data -/
def sc1 : V → Bool
  | .non => true
  | .bl _ => true
  | .int _ => true
  | .str _ => true
  | _ => false
/-- a scalar, or a list or a tuple of scalars, or a dict of at most one text -/
def Jk (H : Hp) : V → Prop
  | .ref p => (∃ xs, H p = some (.lst xs) ∧ xs.all sc1 = true ∧ xs.length ≤ 3) ∨ (∃ xs, H p = some (.tup xs) ∧ xs.all sc1 = true ∧ xs.length ≤ 3) ∨ H p = some (.dK []) ∨ ∃ a b, H p = some (.dK [(Sum.inr a, .str b)])
  | .str z => decide (z.length ≤ 100000) = true
  | v => sc1 v = true
theorem Jk.mono {H H' : Hp} {v : V} (j : Jk H v) (h : ∀ p o, v = .ref p → H p = some o → (∀ ps, o ≠ .tbl ps) → H' p = some o) : Jk H' v := by
  cases v with
  | ref p =>
    rcases j with ⟨xs, e, r⟩ | ⟨xs, e, r⟩ | e | ⟨a, b, e⟩
    · exact .inl ⟨xs, h p _ rfl e (fun _ z => by cases z), r⟩
    · exact .inr (.inl ⟨xs, h p _ rfl e (fun _ z => by cases z), r⟩)
    · exact .inr (.inr (.inl (h p _ rfl e (fun _ z => by cases z))))
    · exact .inr (.inr (.inr ⟨a, b, h p _ rfl e (fun _ z => by cases z)⟩))
  | non => exact j
  | bl _ => exact j
  | int _ => exact j
  | str _ => exact j
  | _ => cases j
theorem Jk.ty {H : Hp} {v : V} (j : Jk H v) : ∃ t, tyOf H v = some t ∧ (t = "str" ↔ ∃ z, v = .str z) ∧ (t = "int" ↔ ∃ i, v = .int i) ∧ (t = "bool" ↔ ∃ b, v = .bl b) := by
  cases v with
  | ref p =>
    have key : ∃ t, tyOf H (.ref p) = some t ∧ (t = "list" ∨ t = "tuple" ∨ t = "dict") := by
      rcases j with ⟨xs, e, r⟩ | ⟨xs, e, r⟩ | e | ⟨a, b, e⟩
      · exact ⟨"list", by simp [tyOf, e], .inl rfl⟩
      · exact ⟨"tuple", by simp [tyOf, e], .inr (.inl rfl)⟩
      · exact ⟨"dict", by simp [tyOf, e], .inr (.inr rfl)⟩
      · exact ⟨"dict", by simp [tyOf, e], .inr (.inr rfl)⟩
    obtain ⟨t, e, h⟩ := key
    exact ⟨t, e, by rcases h with rfl | rfl | rfl <;> simp, by rcases h with rfl | rfl | rfl <;> simp, by rcases h with rfl | rfl | rfl <;> simp⟩
  | non => exact ⟨_, rfl, by simp, by simp, by simp⟩
  | bl b => exact ⟨_, rfl, by simp, by simp, by simp⟩
  | int i => exact ⟨_, rfl, by simp, by simp, by simp⟩
  | str z => exact ⟨_, rfl, by simp, by simp, by simp⟩
  | _ => cases j
/-! ### what can be shown -/
def scD : V → Option PyData
  | .non => some .none
  | .bl b => some (.bool b)
  | .int i => some (.int i)
  | .str z => some (.str z)
  | _ => none
def allD : List V → Option (List PyData)
  | [] => some []
  | v :: r => match scD v, allD r with
    | some d, some ds => some (d :: ds)
    | _, _ => none
def showOk (d : PyData) : Bool := d.showable && (decide (d.shown.length ≤ 2000) && decide (d.depth ≤ 10))
/-- a value stands for data -/
inductive Jd (H : Hp) : V → PyData → Prop
  | sc {v : V} {d : PyData} : scD v = some d → Jd H v d
  | lst {p : Addr} {xs : List V} {ds : List PyData} : H p = some (.lst xs) → p ≠ sysModules → allD xs = some ds → Jd H (.ref p) (.list ds)
  | tup {p : Addr} {xs : List V} {ds : List PyData} : H p = some (.tup xs) → allD xs = some ds → Jd H (.ref p) (.tuple ds)
  | d0 {p : Addr} : H p = some (.dK []) → Jd H (.ref p) (.dict [])
  | d1 {p : Addr} {a b : Str} : H p = some (.dK [(Sum.inr a, .str b)]) → Jd H (.ref p) (.dict [(.str a, .str b)])
def Sh (H : Hp) (v : V) : Prop := ∃ d, Jd H v d ∧ showOk d = true
theorem Jd.mono {H H' : Hp} {v : V} {d : PyData} (j : Jd H v d) (h : ∀ p o, v = .ref p → H p = some o → (∀ ps, o ≠ .tbl ps) → H' p = some o) : Jd H' v d := by
  cases j with
  | sc e => exact .sc e
  | lst e n r => exact .lst (h _ _ rfl e (fun _ z => by cases z)) n r
  | tup e r => exact .tup (h _ _ rfl e (fun _ z => by cases z)) r
  | d0 e => exact .d0 (h _ _ rfl e (fun _ z => by cases z))
  | d1 e => exact .d1 (h _ _ rfl e (fun _ z => by cases z))
theorem Sh.mono {H H' : Hp} {v : V} (j : Sh H v) (h : ∀ p o, v = .ref p → H p = some o → (∀ ps, o ≠ .tbl ps) → H' p = some o) : Sh H' v := by
  obtain ⟨d, j, r⟩ := j
  exact ⟨d, j.mono h, r⟩
def okS (v : V) : Bool := match scD v with
  | some d => showOk d
  | none => false
theorem sh_sc {H : Hp} {v : V} (h : okS v = true) : Sh H v := by
  unfold okS at h
  split at h
  · rename_i d e; exact ⟨d, .sc e, h⟩
  · cases h
def okL (c : List PyData → PyData) (xs : List V) : Bool := match allD xs with
  | some ds => showOk (c ds)
  | none => false
theorem sh_lst {H : Hp} {p : Addr} {xs : List V} (e : H p = some (.lst xs)) (n : p ≠ sysModules) (h : okL .list xs = true) : Sh H (.ref p) := by
  unfold okL at h
  split at h
  · rename_i ds r; exact ⟨_, .lst e n r, h⟩
  · cases h
theorem sh_tup {H : Hp} {p : Addr} {xs : List V} (e : H p = some (.tup xs)) (h : okL .tuple xs = true) : Sh H (.ref p) := by
  unfold okL at h
  split at h
  · rename_i ds r; exact ⟨_, .tup e r, h⟩
  · cases h
theorem sh_d0 {H : Hp} {p : Addr} (e : H p = some (.dK [])) : Sh H (.ref p) := ⟨_, .d0 e, by decide +kernel⟩
theorem sh_d1 {H : Hp} {p : Addr} {a b : Str} (e : H p = some (.dK [(Sum.inr a, .str b)])) (h : showOk (.dict [(.str a, .str b)]) = true) : Sh H (.ref p) := ⟨_, .d1 e, h⟩
/-! ### what a word is, what a lot is -/
def alpha : Str := "abcdefghijklmnopqrstuvwxyz"
def alnum : Str := "abcdefghijklmnopqrstuvwxyz0123456789"
def wordL : List Nat → Bool
  | [] => false
  | c :: r => decide ((c :: r).length ≤ 8) && (decide (c ∈ alpha.cps.toList) && (c :: r).all fun x => decide (x ∈ alnum.cps.toList))
def isW (z : Str) : Bool := wordL z.cps.toList
theorem wordL_cons (c : Nat) (r : List Nat) : wordL (c :: r) = (decide ((c :: r).length ≤ 8) && (decide (c ∈ alpha.cps.toList) && (c :: r).all fun x => decide (x ∈ alnum.cps.toList))) := rfl
theorem atI_zero {α : Type} (c : α) (r : List α) : atI (c :: r) 0 = some c := by
  unfold atI ixN
  rw [if_pos (by decide), if_pos (by simp only [List.length_cons]; omega)]
  rfl
/-- from the last sign on -/
def after : Option Nat → Nat → Bool
  | none, _ => true
  | some d, c => decide (d < c)
def lotL (B : List Nat) : Option Nat → List Nat → Bool
  | _, [] => true
  | l, c :: r => decide (c ∈ B) && (after l c && lotL B (some c) r)
def isL (n : Int) (z : Str) : Bool := lotL (below n).cps.toList none z.cps.toList
def badW : V → Bool
  | .str z => !isW z
  | _ => true
def badL (n : Int) : V → Bool
  | .str z => !isL n z
  | _ => true
def badS : V → Bool
  | .int i => !(decide (1 ≤ i) && decide (i ≤ 6))
  | _ => true
def badT : V → Bool
  | .str _ => false
  | _ => true
/-! ### texts whose signs are signs -/
def okT (z : Str) : Prop := ∀ c ∈ z.cps.toList, c < 1114112
theorem okT.strOk {z : Str} (h : okT z) : PyData.strOk z = true := by
  unfold PyData.strOk
  rw [← Array.all_toList, List.all_eq_true]
  intro c hc
  exact decide_eq_true (h c hc)
theorem okT_app {a b : Str} (h : okT a) (h2 : okT b) : okT (a ++ b) := fun c hc => by
  rw [app_cps] at hc
  exact (List.mem_append.mp hc).elim (h c) (h2 c)
theorem okT_cut {z : Str} {lo hi : Option Int} (h : okT z) : okT (cutS z lo hi) := fun c hc => by
  rw [cutS_cps] at hc
  exact h c (List.mem_of_mem_drop (List.mem_of_mem_take hc))
theorem okT_one {c : Nat} (h : c < 1114112) : okT (one c) := fun d hd => by
  have : d = c := by simpa [one] using hd
  rw [this]; exact h
theorem okT_tx {cs : List Nat} (h : ∀ c ∈ cs, c < 1114112) : okT (tx cs) := fun c hc => h c (by rw [tx_cps] at hc; exact hc)
theorem fold_mem {x : Nat} : ∀ (l : List (Array Nat)) (acc : Array Nat), x ∈ (l.foldl (· ++ ·) acc).toList → x ∈ acc.toList ∨ ∃ y ∈ l, x ∈ y.toList
  | [], acc, h => .inl h
  | a :: r, acc, h => by
    rcases fold_mem r (acc ++ a) h with h | ⟨y, hy, h⟩
    · rw [Array.toList_append] at h
      rcases List.mem_append.mp h with h | h
      · exact .inl h
      · exact .inr ⟨a, List.mem_cons_self, h⟩
    · exact .inr ⟨y, List.mem_cons_of_mem _ hy, h⟩
theorem okT_mul {z : Str} {k : Int} (h : okT z) : okT (Txt.mul z k) := by
  unfold Txt.mul
  split
  · intro c hc; exact absurd hc (by simp [Str.empty])
  · split
    · exact h
    · intro c hc
      rcases fold_mem _ _ hc with q | ⟨y, hy, q⟩
      · exact absurd q (by simp)
      · rw [(List.mem_replicate.mp hy).2] at q
        exact h c q
theorem okT_abc : okT abc := by unfold okT; decide +kernel
/-! ### the signs of a text that a test keeps -/
def sgs (cs : List Nat) : List V := (cs.map one).map V.str
theorem sgs_len (cs : List Nat) : (sgs cs).length = cs.length := by simp [sgs]
theorem sgs_app (a b : List Nat) : sgs (a ++ b) = sgs a ++ sgs b := by simp [sgs]
theorem take_get {l : List Nat} {i : Nat} {c : Nat} (h : l[i]? = some c) : l.take (i + 1) = l.take i ++ [c] := by
  rw [List.take_succ, h]
  rfl
theorem filt_step {l : List Nat} {i : Nat} {c : Nat} (p : Nat → Bool) (h : l[i]? = some c) : (l.take (i + 1)).filter p = (l.take i).filter p ++ (if p c then [c] else []) := by
  rw [take_get h, List.filter_append]
  congr 1
  cases e : p c <;> simp [e]
theorem filt_len {l : List Nat} {i : Nat} (p : Nat → Bool) : ((l.take i).filter p).length ≤ l.length := Nat.le_trans (List.length_filter_le _ _) (by rw [List.length_take]; omega)
theorem lc_filt {z : Str} {g : TG} {tt : TT} {te : TE} {vs : List Nat} {σ : L2.St} {H1 : Hp} {D : Addr} {Qd : Hp → Prop} (p : Nat → Bool) (hz : z.length < sizeLine)
    (hs : ∀ c H (N M : Hp → Prop), c ∈ z.cps.toList → (∃ acc, H D = some (.lst acc) ∧ acc.length < sizeLine ∧ (p c = true → N (upd H D (.lst (acc ++ [.str (one c)]))))) → (p c = false → M H) →
      (∀ b o, b ≠ D → H1 b = some o → H b = some o) → g (.str ⟨#[c]⟩) (wipe σ vs) H fun σ2 H2 => wipe σ2 vs = wipe σ vs ∧ tt σ2 H2 fun b H3 =>
      if b = true then te σ2 H3 fun y H4 => ∃ acc, H4 D = some (.lst acc) ∧ acc.length < sizeLine ∧ N (upd H4 D (.lst (acc ++ [y]))) else M H3)
    (hd : Qd (upd H1 D (.lst (sgs (z.cps.toList.filter p))))) :
    ∃ W : Nat → Nat → Hp → Prop, (∃ m, W 0 m (upd H1 D (.lst []))) ∧ ∀ i m H, W i m H → ((Its z).stop i H ∧ Qd H) ∨ ((Its z).go i H ∧ ∃ Nx : Hp → Prop, (∀ H', Nx H' → ∃ m', m' < m ∧ W (i + 1) m' H') ∧
      ∀ x H', (Its z).yld i H x H' → g x (wipe σ vs) H' fun σ2 H2 => wipe σ2 vs = wipe σ vs ∧ tt σ2 H2 fun b H3 =>
        if b = true then te σ2 H3 fun y H4 => ∃ acc, H4 D = some (.lst acc) ∧ acc.length < sizeLine ∧ Nx (upd H4 D (.lst (acc ++ [y]))) else Nx H3) := by
  refine lc_txt (fun i H => H = upd H1 D (.lst (sgs ((z.cps.toList.take i).filter p)))) rfl ?_ ?_
  · rintro i c H hc rfl
    refine hs c _ (fun Hx => Hx = upd H1 D (.lst (sgs ((z.cps.toList.take (i + 1)).filter p)))) (fun Hx => Hx = upd H1 D (.lst (sgs ((z.cps.toList.take (i + 1)).filter p)))) (List.mem_of_getElem? hc) ⟨_, upd_same, ?_, fun hp => ?_⟩ (fun hp => ?_) (fun b o hb e => by rw [upd_ne hb]; exact e)
    · rw [sgs_len]
      have h1 := @filt_len z.cps.toList i p
      rw [len_cps] at hz
      omega
    · rw [upd_upd, filt_step p hc, sgs_app, hp]
      rfl
    · rw [filt_step p hc, hp]
      simp
  · rintro H rfl
    rw [List.take_length]
    exact hd
/-! ### answers -/
inductive Rs where
  | told (z : Str)
  | no (name : Str)
  deriving DecidableEq
def Rs.At (H : Hp) (p : Addr) : Rs → Prop
  | .told z => H p = some (.tup [.str "told", .str z])
  | .no name => ∃ q r, H p = some (.tup [.str "refused", .ref q, .ref r]) ∧ H q = some (.lst [.str name]) ∧ H r = some (.tup [])
def Rs.data : Rs → PyData
  | .told z => .tuple [.str "told", .str z]
  | .no name => .tuple [.str "refused", .list [.str name], .tuple []]
theorem Rs.At.mono {H H' : Hp} {p : Addr} {r : Rs} (h : r.At H p) (g : ∀ b o, H b = some o → (∀ ps, o ≠ .tbl ps) → H' b = some o) : r.At H' p := by
  cases r with
  | told z => exact g _ _ h (fun _ z => by cases z)
  | no name =>
    obtain ⟨q, t, h1, h2, h3⟩ := h
    exact ⟨q, t, g _ _ h1 (fun _ z => by cases z), g _ _ h2 (fun _ z => by cases z), g _ _ h3 (fun _ z => by cases z)⟩
end Bs
/-! list(zip(a, b)) of two lists. -/
namespace Zl
open PySem PySem.Calls PyProof.Rows PySem.Spec
theorem zip_len0 : typeLookup (.type "zip") "__len__" = pure none := by rw [typeLookup_type, builtinLookup_eq_fast]; kernel_rfl
theorem zip_hint0 : typeLookup (.type "zip") "__length_hint__" = pure none := by rw [typeLookup_type, builtinLookup_eq_fast]; kernel_rfl
/-- a zip z over the lists l1, l2, i pairs given out; the new list S stands apart from the tuple that is out -/
structure ZP (h : Heap) (S z TI TO i1 i2 l1 l2 : Addr) (xs ys : Array Value) (i : Nat) : Prop where
  ti : IsPair h TI (.ref i1) (.ref i2)
  a1 : h.IsListIter i1 l1 i
  a2 : h.IsListIter i2 l2 i
  b1 : h.IsList l1 xs
  b2 : h.IsList l2 ys
  st : (IsZip h z TI TO .none ∧ ∃ a b, IsPair h TO a b) ∨ ∃ T f oT, IsZipHeld h z TI TO T f ∧ h.get? T = some oT ∧ T ≠ z ∧ T ≠ i1 ∧ T ≠ i2 ∧ T ≠ S
/-- all of the zip's objects lie below the new list -/
structure Low (S z TI TO i1 i2 l1 l2 : Addr) : Prop where
  z : z < S
  TI : TI < S
  TO : TO < S
  i1 : i1 < S
  i2 : i2 < S
  l1 : l1 < S
  l2 : l2 < S
variable {S z TI TO i1 i2 l1 l2 : Addr} {xs ys : Array Value}
theorem ZP.ty {h : Heap} {i : Nat} (p : ZP h S z TI TO i1 i2 l1 l2 xs ys i) : ∃ o, h.get? z = some o ∧ o.cls = .type "zip" := by
  rcases p.st with ⟨h1, _⟩ | ⟨T, f, oT, h1, _⟩
  · exact ⟨_, h1, rfl⟩
  · exact ⟨_, h1, rfl⟩
theorem ZP.keep {h h' : Heap} {i : Nat} (p : ZP h S z TI TO i1 i2 l1 l2 xs ys i) (L : Low S z TI TO i1 i2 l1 l2) (k : ∀ b o, b ≠ S → h.get? b = some o → h'.get? b = some o) : ZP h' S z TI TO i1 i2 l1 l2 xs ys i where
  ti := k _ _ (Nat.ne_of_lt L.TI) p.ti
  a1 := p.a1.at fun o e => k _ o (Nat.ne_of_lt L.i1) e
  a2 := p.a2.at fun o e => k _ o (Nat.ne_of_lt L.i2) e
  b1 := p.b1.at fun o e => k _ o (Nat.ne_of_lt L.l1) e
  b2 := p.b2.at fun o e => k _ o (Nat.ne_of_lt L.l2) e
  st := by
    rcases p.st with ⟨h1, a, b, h2⟩ | ⟨T, f, oT, h1, h2, h3, h4, h5, h6⟩
    · exact .inl ⟨k _ _ (Nat.ne_of_lt L.z) h1, a, b, k _ _ (Nat.ne_of_lt L.TO) h2⟩
    · exact .inr ⟨T, f, oT, k _ _ (Nat.ne_of_lt L.z) h1, k _ _ h6 h2, h3, h4, h5, h6⟩
section
variable {prog : Program} {w : World} {A : Around} {E : Value → Shared → Prop} {s : Shared}
theorem item {i : Nat} {x y : Value} {Q : Option Value → Shared → Prop} (D : ZipApart z TI TO i1 i2 l1 l2) (L : Low S z TI TO i1 i2 l1 l2) (p : ZP s.heap S z TI TO i1 i2 l1 l2 xs ys i) (hS : S < s.heap.objs.size) (hx : xs[i]? = some x) (hy : ys[i]? = some y)
    (hQ : ∀ h', ZP h' S z TI TO i1 i2 l1 l2 xs ys (i + 1) → IsPair h' s.heap.objs.size x y → h'.objs.size = s.heap.objs.size + 1 → (∀ c o, S ≤ c → s.heap.get? c = some o → h'.get? c = some o) →
      (∀ c o, c ≠ z → c ≠ TO → c ≠ i1 → c ≠ i2 → s.heap.get? c = some o → h'.get? c = some o) → Q (some (.ref s.heap.objs.size)) { s with heap := h' }) : wpAny (model prog w) A (pyNext (.ref z)) Q E s := by
  have low : ∀ c, S ≤ c → c ≠ z ∧ c ≠ TO ∧ c ≠ i1 ∧ c ≠ i2 := fun c hc => ⟨Nat.ne_of_gt (Nat.lt_of_lt_of_le L.z hc), Nat.ne_of_gt (Nat.lt_of_lt_of_le L.TO hc), Nat.ne_of_gt (Nat.lt_of_lt_of_le L.i1 hc), Nat.ne_of_gt (Nat.lt_of_lt_of_le L.i2 hc)⟩
  have nl := low s.heap.objs.size (Nat.le_of_lt hS)
  rcases p.st with ⟨h1, a, b, h2⟩ | ⟨T, f, oT, h1, h2, h3, h4, h5, h6⟩
  · refine wpAny_pyNext_zip_item D h1 p.ti h2 p.a1 p.a2 p.b1 p.b2 hx hy fun h' q1 q2 q3 q4 q5 q6 q7 => hQ h' ⟨q7 _ _ D.TIz D.TITO D.TIi1 D.TIi2 p.ti, q3, q4, p.b1.at fun o e => q7 _ o D.l1z D.l1TO D.l1i1 D.l1i2 e, p.b2.at fun o e => q7 _ o D.l2z D.l2TO D.l2i1 D.l2i2 e, .inr ⟨_, false, _, q1, q5, nl.1, nl.2.2.1, nl.2.2.2, Nat.ne_of_gt hS⟩⟩ q5 q6 (fun c o hc e => q7 c o (low c hc).1 (low c hc).2.1 (low c hc).2.2.1 (low c hc).2.2.2 e) q7
  · refine wpAny_pyNext_zip_item_held D h1 h2 p.ti p.a1 p.a2 p.b1 p.b2 hx hy fun h' q1 q3 q4 q5 q6 q7 => hQ h' ⟨q7 _ _ D.TIz D.TIi1 D.TIi2 p.ti, q3, q4, p.b1.at fun o e => q7 _ o D.l1z D.l1i1 D.l1i2 e, p.b2.at fun o e => q7 _ o D.l2z D.l2i1 D.l2i2 e, .inr ⟨T, true, oT, q1, q7 _ _ h3 h4 h5 h2, h3, h4, h5, h6⟩⟩ q5 q6 (fun c o hc e => q7 c o (low c hc).1 (low c hc).2.2.1 (low c hc).2.2.2 e) (fun c o c1 _ c3 c4 e => q7 c o c1 c3 c4 e)
theorem done {i : Nat} {Q : Option Value → Shared → Prop} (hh : A.handled = none) (D : ZipApart z TI TO i1 i2 l1 l2) (p : ZP s.heap S z TI TO i1 i2 l1 l2 xs ys i) (hx : xs[i]? = none)
    (hQ : ∀ h', (∀ c o, c ≠ z → c ≠ TO → c ≠ i1 → c ≠ i2 → s.heap.get? c = some o → h'.get? c = some o) → Q none { s with heap := h' }) : wpAny (model prog w) A (pyNext (.ref z)) Q E s := by
  rcases p.st with ⟨h1, a, b, h2⟩ | ⟨T, f, oT, h1, h2, h3, h4, h5, h6⟩
  · exact wpAny_pyNext_zip_end hh D h1 p.ti h2 p.a1 p.a2 p.b1 p.b2 (.inl hx) fun h' k => hQ h' k
  · exact wpAny_pyNext_zip_end_held hh D h1 h2 p.ti p.a1 p.a2 p.b1 p.b2 (.inl hx) fun h' k => hQ h' fun c o c1 _ c3 c4 e => k c o c1 c3 c4 e
end
/-- the pairs that the new list holds -/
structure Prs (xs ys : Array Value) (S : Addr) (h : Heap) (as : List Addr) : Prop where
  up : as.Pairwise (· < ·)
  hi : ∀ a ∈ as, S < a
  at_ : ∀ (j : Nat) (a : Addr), as[j]? = some a → ∃ x y, xs[j]? = some x ∧ ys[j]? = some y ∧ IsPair h a x y
theorem Prs.lt {h : Heap} {as : List Addr} (g : Prs xs ys S h as) {a : Addr} (ha : a ∈ as) : a < h.objs.size := by
  obtain ⟨j, hj⟩ := List.mem_iff_getElem?.mp ha
  obtain ⟨x, y, _, _, e⟩ := g.at_ j a hj
  exact Heap.lt_size e
section
variable {prog : Program} {w : World} {A : Around} {s : Shared} {R : Result → Shared → Prop}
theorem loop (hh : A.handled = none) (D : ZipApart z TI TO i1 i2 l1 l2) (L : Low S z TI TO i1 i2 l1 l2) (hl : xs.size = ys.size) (hn : xs.size ≤ sizeLine) (res : Value) {h₁ : Heap}
    (hR : ∀ h' tk acc c as, (∀ b o, b ≠ S → b ≠ z → b ≠ TO → b ≠ i1 → b ≠ i2 → h₁.get? b = some o → h'.get? b = some o) → h'.get? S = some { cls := .type "list", dict := none, data := .seq acc c, slots := #[] } → as.length = xs.size → Prs xs ys S h' as →
      acc.toList = as.map Value.ref → R (.ok (.ret res)) { s with heap := h', toks := tk }) :
    ∀ (k i : Nat) (h : Heap) (tk c : Nat) (acc : Array Value) (as : List Addr), xs.size - i = k → i ≤ xs.size → ZP h S z TI TO i1 i2 l1 l2 xs ys i → (∀ b o, b ≠ S → b ≠ z → b ≠ TO → b ≠ i1 → b ≠ i2 → h₁.get? b = some o → h.get? b = some o) →
      h.get? S = some { cls := .type "list", dict := none, data := .seq acc c, slots := #[] } → acc.toList = as.map Value.ref → as.length = i → Prs xs ys S h as →
      codeAny (model prog w) A (.builtin "list.extend.loop" ⟨[.ref S, .ref z, res], []⟩) R { s with heap := h, toks := tk } := by
  intro k
  induction k with
  | zero =>
    intro i h tk c acc as hk hi hst hkeep hS hacc hal hG
    refine codeAny_builtin PySem.F.entry_extend_loop ?_
    rw [Around.under_plainId PySem.F.plain_extend_loop _]
    show wpAny _ A.in1 (pyNext (.ref z) >>= _) _ _ _
    refine wpAny_bind (done (s := { s with heap := h, toks := tk }) (A := A.in1) hh D hst (Array.getElem?_eq_none (by omega)) fun h' he => ?_)
    have hiS : ∀ b, S ≤ b → b ≠ z ∧ b ≠ TO ∧ b ≠ i1 ∧ b ≠ i2 := fun c hc => ⟨Nat.ne_of_gt (Nat.lt_of_lt_of_le L.z hc), Nat.ne_of_gt (Nat.lt_of_lt_of_le L.TO hc), Nat.ne_of_gt (Nat.lt_of_lt_of_le L.i1 hc), Nat.ne_of_gt (Nat.lt_of_lt_of_le L.i2 hc)⟩
    have ge : ∀ b o, S ≤ b → h.get? b = some o → h'.get? b = some o := fun b o hb e => he b o (hiS b hb).1 (hiS b hb).2.1 (hiS b hb).2.2.1 (hiS b hb).2.2.2 e
    refine wpAny_pure (hR h' tk acc c as (fun b o c1 c2 c3 c4 c5 e => he b o c2 c3 c4 c5 (hkeep b o c1 c2 c3 c4 c5 e)) (ge S _ (Nat.le_refl _) hS) (by omega) ⟨hG.up, hG.hi, fun j a hj => ?_⟩ hacc)
    obtain ⟨x, y, e1, e2, e3⟩ := hG.at_ j a hj
    exact ⟨x, y, e1, e2, ge a _ (Nat.le_of_lt (hG.hi a (List.mem_of_getElem? hj))) e3⟩
  | succ k ih =>
    intro i h tk c acc as hk hi hst hkeep hS hacc hal hG
    have hlt : i < xs.size := by omega
    have hsz : acc.size = i := by rw [← Array.length_toList, hacc, List.length_map, hal]
    have hSl : S < h.objs.size := Heap.lt_size hS
    refine codeAny_builtin PySem.F.entry_extend_loop ?_
    rw [Around.under_plainId PySem.F.plain_extend_loop _]
    show wpAny _ A.in1 (pyNext (.ref z) >>= _) _ _ _
    refine wpAny_bind (item (s := { s with heap := h, toks := tk }) D L hst hSl (Array.getElem?_eq_getElem hlt) (Array.getElem?_eq_getElem (by omega)) fun h' hst' ht hz hge hkp => ?_)
    dsimp only at ht hz hge hkp ⊢
    have hS' := hge S _ (Nat.le_refl _) hS
    have up : ∀ b o, b ≠ S → h'.get? b = some o → (h'.update S (Obj.mapSeq (·.push (Value.ref h.objs.size)))).get? b = some o := fun b o hb e => (Heap.get?_update_other _ _ (Ne.symm hb)).trans e
    show wpAny _ A.in1 (updateSeq S (·.push (Value.ref h.objs.size)) >>= _) _ _ _
    refine wpAny_bind ?_
    refine wpAny_updateSeq hS' rfl (wpAny_pure ⟨plainId_quiet PySem.F.plain_extend_loop _, ih (i + 1) _ tk _ (acc.push (Value.ref h.objs.size)) (as ++ [h.objs.size]) (by omega) hlt (hst'.keep L up)
      (fun b o c1 c2 c3 c4 c5 e => up b o c1 (hkp b o c2 c3 c4 c5 (hkeep b o c1 c2 c3 c4 c5 e))) (Heap.get?_update_self _ hS' rfl) (by rw [Array.toList_push, hacc, List.map_append]; rfl) (by rw [List.length_append, hal]; rfl) ⟨?_, ?_, ?_⟩⟩) (by rw [hsz]; omega) (by show (acc.push (Value.ref h.objs.size)).size ≤ sizeLine + 1; rw [Array.size_push, hsz]; omega)
    · refine List.pairwise_append.mpr ⟨hG.up, List.pairwise_singleton _ _, fun a ha b hb => ?_⟩
      rw [List.mem_singleton.mp hb]
      exact hG.lt ha
    · intro a ha
      rcases List.mem_append.mp ha with ha | ha
      · exact hG.hi a ha
      · rw [List.mem_singleton.mp ha]; exact hSl
    · intro j b hj
      rcases Nat.lt_trichotomy j as.length with h1 | h1 | h1
      · rw [List.getElem?_append_left h1] at hj
        obtain ⟨x, y, e1, e2, e3⟩ := hG.at_ j b hj
        have hb := hG.hi b (List.mem_of_getElem? hj)
        exact ⟨x, y, e1, e2, up b _ (Nat.ne_of_gt hb) (hge b _ (Nat.le_of_lt hb) e3)⟩
      · subst h1
        have hb : h.objs.size = b := by simpa using hj
        subst hb
        exact ⟨_, _, by subst hal; exact Array.getElem?_eq_getElem hlt, by subst hal; exact Array.getElem?_eq_getElem (by omega), up _ _ (Nat.ne_of_gt hSl) ht⟩
      · have hnone : (as ++ [h.objs.size])[j]? = none := List.getElem?_eq_none (by rw [List.length_append, List.length_singleton]; omega)
        rw [hnone] at hj; cases hj
theorem extend (hh : A.handled = none) (D : ZipApart z TI TO i1 i2 l1 l2) (L : Low S z TI TO i1 i2 l1 l2) (hl : xs.size = ys.size) (hn : xs.size ≤ sizeLine) (res : Value) (c₀ : Nat) (p : ZP s.heap S z TI TO i1 i2 l1 l2 xs ys 0) (p0 : IsZip s.heap z TI TO .none)
    (hS : s.heap.get? S = some { cls := .type "list", data := .seq #[] c₀ })
    (hR : ∀ h' tk acc c as, (∀ b o, b ≠ S → b ≠ z → b ≠ TO → b ≠ i1 → b ≠ i2 → s.heap.get? b = some o → h'.get? b = some o) → h'.get? S = some { cls := .type "list", dict := none, data := .seq acc c, slots := #[] } → as.length = xs.size → Prs xs ys S h' as →
      acc.toList = as.map Value.ref → R (.ok (.ret res)) { s with heap := h', toks := tk }) :
    wpAny (model prog w) A.in1 (Builtin.List.listExtendWith (.ref S) (.ref z) res)
      (fun fin s' => match fin with | .done f => R (.ok f) s' | .again c' => c'.quiet = true ∧ codeAny (model prog w) A c' R s') (fun e s' => R (.error e) s') s := by
  have hT : s.TypeIs (.ref z) "zip" := ⟨_, p0, rfl⟩
  have hne : S ≠ z := Nat.ne_of_gt L.z
  unfold Builtin.List.listExtendWith
  refine wpAny_bind (wpAny_typeOf hT ?_)
  have e1 : Builtin.List.listSameRef (.ref S) (.ref z) = false := by simp [Builtin.List.listSameRef, hne]
  have e2 : (Value.type "zip" == Value.type "list") = false := by decide
  have e3 : (Value.type "zip" == Value.type "tuple") = false := by decide
  simp only [e1, e2, e3, Bool.or_false, Bool.false_eq_true, if_false]
  refine wpAny_bind (wpAny_pyIter_zip p0 ?_)
  refine wpAny_bind (wpAny_holding ?_)
  unfold Builtin.List.listLengthHint
  refine wpAny_bind (wpAny_specialOf hT zip_len0 ?_)
  show wpAny _ A.in1 (specialOf (Value.ref z) (Str.ofString "__length_hint__") >>= _) _ _ _
  refine wpAny_bind (wpAny_specialOf hT zip_hint0 ?_)
  refine wpAny_pure ?_
  show wpAny _ A.in1 (rule "list.extend.makes-room" >>= fun _ => Builtin.List.listTouch (.ref S) >>= fun _ =>
    again (.builtin "list.extend.loop" ⟨[.ref S, .ref z, res], []⟩)) _ _ _
  refine wpAny_bind (wpAny_rule ?_)
  refine wpAny_bind ?_
  show wpAny _ A.in1 (updateSeq S (·.push .none) >>= fun _ => updateSeq S (·.pop)) _ _ _
  refine wpAny_bind (wpAny_updateSeq hS rfl ?_)
  have hS₂ := Heap.get?_update_self (Obj.mapSeq (·.push Value.none)) hS rfl
  refine wpAny_updateSeq (hz := by seq_fits) hS₂ rfl ?_
  have hS₃ := Heap.get?_update_self (Obj.mapSeq (·.pop)) hS₂ rfl
  have oth : ∀ b o, b ≠ S → s.heap.get? b = some o → ((s.heap.update S (Obj.mapSeq (·.push Value.none))).update S (Obj.mapSeq (·.pop))).get? b = some o :=
    fun b o hb e => (Heap.get?_update_other _ _ (Ne.symm hb)).trans ((Heap.get?_update_other _ _ (Ne.symm hb)).trans e)
  exact wpAny_pure ⟨plainId_quiet PySem.F.plain_extend_loop _, loop (s := s) (h₁ := s.heap) hh D L hl hn res hR xs.size 0 _ _ _ #[] [] (Nat.sub_zero _) (Nat.zero_le _) (p.keep L oth) (fun b o c1 _ _ _ _ e => oth b o c1 e) hS₃ rfl rfl ⟨List.Pairwise.nil, (fun _ ha => nomatch ha), (fun j a hj => by simp at hj)⟩⟩
end
section
variable {prog : Program} {w : World} {A : Around} {E : Value → Shared → Prop} {s : Shared}
theorem call_list {Q : Value → Shared → Prop} (hh : A.handled = none) (D : ZipApart z TI TO i1 i2 l1 l2) (L : Low s.heap.objs.size z TI TO i1 i2 l1 l2) (hl : xs.size = ys.size) (hn : xs.size ≤ sizeLine) (p : ZP s.heap s.heap.objs.size z TI TO i1 i2 l1 l2 xs ys 0) (p0 : IsZip s.heap z TI TO .none)
    (hQ : ∀ h' tk acc c as, (∀ b o, b ≠ z → b ≠ TO → b ≠ i1 → b ≠ i2 → s.heap.get? b = some o → h'.get? b = some o) → h'.get? s.heap.objs.size = some { cls := .type "list", dict := none, data := .seq acc c, slots := #[] } → as.length = xs.size → Prs xs ys s.heap.objs.size h' as →
      acc.toList = as.map Value.ref → Q (.ref s.heap.objs.size) { s with heap := h', toks := tk }) :
    wpAny (model prog w) A (call (.type "list") [.ref z]) Q E s := by
  refine callType_codes (Q₁ := fun obj s₁ => obj = .ref s.heap.objs.size ∧ s₁ = { s with heap := s.heap.push { cls := .type "list", data := .seq #[] } }) PySem.F.called_list (PySem.F.typeCall_list_1 _) PySem.F.entry_list_init
    (code_list_new _ ⟨rfl, rfl⟩) fun obj s₁ h₁ => ?_
  obtain ⟨rfl, rfl⟩ := h₁
  have hS : (s.heap.push { cls := .type "list", data := .seq #[] }).get? s.heap.objs.size = some { cls := .type "list", data := .seq #[] } := Heap.get?_push_size _ rfl
  have psh : ∀ b o, b ≠ s.heap.objs.size → s.heap.get? b = some o → (s.heap.push { cls := .type "list", data := .seq #[] }).get? b = some o := fun b o _ e => Heap.get?_push_of_some _ e
  refine ⟨⟨_, hS, rfl⟩, PySem.F.args_list_init_2 _ _, ?_⟩
  show wpAny _ _ (do let old ← Builtin.List.listItems (.ref s.heap.objs.size); Builtin.List.listUpdate (.ref s.heap.objs.size) (fun _ => #[]); letGo old.toList.reverse; Builtin.List.listExtendWith (.ref s.heap.objs.size) (.ref z) .none) _ _ _
  refine wpAny_bind ?_
  unfold Builtin.List.listItems
  refine wpAny_bind (wpAny_seqItems hS rfl (wpAny_pure ?_))
  show wpAny _ _ (updateSeq s.heap.objs.size (fun _ => #[]) >>= fun _ => letGo (#[] : Array Value).toList.reverse >>= fun _ => Builtin.List.listExtendWith (.ref s.heap.objs.size) (.ref z) .none) _ _ _
  refine wpAny_bind (wpAny_updateSeq hS rfl ?_)
  have hS₂ := Heap.get?_update_self (Obj.mapSeq (fun _ => (#[] : Array Value))) hS rfl
  have oth : ∀ b o, b ≠ s.heap.objs.size → s.heap.get? b = some o → ((s.heap.push { cls := .type "list", data := .seq #[] }).update s.heap.objs.size (Obj.mapSeq (fun _ => (#[] : Array Value)))).get? b = some o :=
    fun b o hb e => (Heap.get?_update_other _ _ (Ne.symm hb)).trans (psh b o hb e)
  refine wpAny_bind (wpAny_letGo ?_)
  refine extend (A := A.in1) hh D L hl hn .none _ (p.keep L oth) (oth _ _ (Nat.ne_of_lt L.z) p0) hS₂ fun h' tk acc c as hk hS' hl' hG hacc => ?_
  exact ⟨rfl, hQ h' tk acc c as (fun b o c2 c3 c4 c5 e => hk b o (Nat.ne_of_lt (Heap.lt_size e)) c2 c3 c4 c5 (oth b o (Nat.ne_of_lt (Heap.lt_size e)) e)) hS' hl' hG hacc⟩
end
end Zl
namespace Bs
open PySem PySem.Spec PyProof.Rows L2
/-- the new list at S of new pairs at as -/
def putP (H : Hp) (S : Addr) (as : List Addr) (xs ys : List V) : Hp := fun b => if b = S then some (.lst (as.map V.ref)) else if b ∈ as then some (.tup [xs.getD (as.idxOf b) .non, ys.getD (as.idxOf b) .non]) else H b
theorem idxOf_get {as : List Addr} (nd : as.Nodup) {j : Nat} {a : Addr} (h : as[j]? = some a) : as.idxOf a = j := by
  obtain ⟨hj, e⟩ := List.getElem?_eq_some_iff.mp h
  subst e
  exact List.Nodup.idxOf_getElem nd j hj
/-- what list(zip(a, b)) leaves -/
def rZip (K : PySem.W.Frag) : V → V → Hp → VK → Prop := fun a b H Q => match a, b with
  | .ref p, .ref q => ∃ xs ys, SqL K H p xs ∧ SqL K H q ys ∧ xs.length = ys.length ∧ ∀ (H' : Hp) (l : Addr) (ts : List Addr), (∀ b o, H b = some o → H' b = some o) → H l = none → (∀ t ∈ ts, H t = none) → ts.Nodup → l ∉ ts → H' l = some (.lst (ts.map V.ref)) → ts.length = xs.length →
      (∀ (j : Nat) (t : Addr), ts[j]? = some t → ∃ x y, xs[j]? = some x ∧ ys[j]? = some y ∧ H' t = some (.tup [x, y])) → Q (.ref l) H'
  | _, _ => False
def tZip (K : PySem.W.Frag) (ta : TA) : TE := fun σ H Q => ta σ H fun vs H1 => match vs with
  | [a, b] => rZip K a b H1 Q
  | _ => False
section
variable {X : Cx}
theorem pe_listzip {e e2 : Expr} {ta : TA} {p p2 pos pos2 : Pos} (hg : Gl X "list") (hm : X.mg "list" = none) (hgz : Gl X "zip") (hmz : X.mg "zip" = none) (ha : PA X [e, e2] ta) (hc : X.calm = true := by rfl)
    (hs : starEach [.Call (.Name "zip" p2) [e, e2] [] pos2] X.env = (false, eval (.Call (.Name "zip" p2) [e, e2] [] pos2) X.env) :: starEach [] X.env := by rfl)
    (hs2 : starEach [e, e2] X.env = (false, eval e X.env) :: starEach [e2] X.env := by rfl) (hpl : (backTo pos2 (starEach [e2] X.env)).any (·.1) = false := by rfl) :
    PE X (.Call (.Name "list" p) [.Call (.Name "zip" p2) [e, e2] [] pos2] [] pos) (tZip X.K ta) := by
  refine ⟨fun pins s σ H Q I hq => ?_⟩
  refine wpAny_Call_Name_kw (ld_blt I hg hm boot_list ?_)
  refine PyProof.Rows.callWith_type1 ?_ hs rfl
  rw [hs]
  show wpAny _ _ (spliced ((false, eval (.Call (.Name "zip" p2) [e, e2] [] pos2) X.env) :: backTo pos (starEach [] X.env))) _ _ s
  refine Calls.spliced_cons ?_
  refine Call_ (ld_blt I hgz hmz PyProof.Rows.boot_zip (PyProof.Rows.callWith_type1 (thn (ha.run pos2 pins s σ H _ I hq) fun us s1 ⟨vs, H1, I1, r1, q1⟩ => ?_) hs2 hpl))
  cases r1 with
  | nil => exact (show False from q1).elim
  | @cons va ua _ _ r rr =>
  cases rr with
  | nil => exact (show False from q1).elim
  | @cons vb ub _ _ r' rr =>
  cases rr with
  | cons _ _ => exact (show False from q1).elim
  | nil =>
  replace q1 : rZip X.K va vb H1 Q := q1
  unfold rZip at q1
  split at q1
  · rename_i a b
    obtain ⟨xs, ys, hx, hy, hl, q⟩ := q1
    cases r
    cases r'
    obtain ⟨its, rv, p1, z1⟩ := I1.list hx
    obtain ⟨its2, rv2, p2, _⟩ := I1.list hy
    have hl1 := rv.length
    have hl2 := rv2.length
    refine call_zip_2 p1.isList p2.isList fun h' hz hTI hTO h1 h2 hsz hk => ?_
    refine Calls.spliced_nil ?_
    have la : (a : Nat) < s1.heap.objs.size := p1.lt
    have lb : (b : Nat) < s1.heap.objs.size := p2.lt
    have lt1 : ∀ (b : Nat) o, s1.heap.get? b = some o → b < s1.heap.objs.size := fun b o e => Heap.lt_size e
    have s15 : s1.heap.objs.size ≤ h'.objs.size := by rw [hsz]; exact Nat.le_add_right _ _
    have S5 : h'.objs.size = s1.heap.objs.size + 5 := hsz
    refine Zl.call_list (s := { s1 with heap := h' }) (xs := its.toArray) (ys := its2.toArray) (I1.ok.hd hc) (PySem.W.ktu_apart s1.heap.objs.size a b la lb) ⟨by show _ < h'.objs.size; omega, by show _ < h'.objs.size; omega, by show _ < h'.objs.size; omega, by show _ < h'.objs.size; omega, by show _ < h'.objs.size; omega, Nat.lt_of_lt_of_le p1.lt s15, Nat.lt_of_lt_of_le p2.lt s15⟩
      (by rw [List.size_toArray, List.size_toArray]; omega) (by rw [List.size_toArray]; omega) ⟨hTI, h1, h2, p1.isList.at fun o e => hk _ o e, p2.isList.at fun o e => hk _ o e, .inl ⟨hz, _, _, hTO⟩⟩ hz fun h2 tk acc c as k1 k2 k3 k4 k5 => ?_
    have kk : ∀ b o, s1.heap.get? b = some o → h2.get? b = some o := fun b o e => k1 b o (Nat.ne_of_lt (Nat.lt_of_lt_of_le (lt1 b o e) (Nat.le_add_right _ _))) (Nat.ne_of_lt (Nat.lt_of_lt_of_le (lt1 b o e) (Nat.le_add_right _ _))) (Nat.ne_of_lt (lt1 b o e)) (Nat.ne_of_lt (Nat.lt_of_lt_of_le (lt1 b o e) (Nat.le_add_right _ _))) (hk b o e)
    have nd : as.Nodup := List.Pairwise.imp (fun {a b} (h : a < b) => Nat.ne_of_lt h) k4.up
    have hSn : h'.objs.size ∉ as := fun z => Nat.lt_irrefl _ (k4.hi _ z)
    have new : ∀ t ∈ as, H1 t = none := fun t ht => I1.hok.fresh (Nat.le_trans s15 (Nat.le_of_lt (k4.hi t ht)))
    have newS : H1 h'.objs.size = none := I1.hok.fresh (by omega)
    have off : ∀ b, b ∉ as → b ≠ h'.objs.size → putP H1 h'.objs.size as xs ys b = H1 b := fun b h1 h2 => by
      unfold putP
      rw [if_neg h2, if_neg h1]
    have low : ∀ b o, s1.heap.get? b = some o → b ∉ as ∧ b ≠ h'.objs.size := fun b o e => ⟨fun z => Nat.lt_irrefl _ (Nat.lt_trans (Nat.lt_of_lt_of_le (Heap.lt_size e) s15) (k4.hi b z)), Nat.ne_of_lt (Nat.lt_of_lt_of_le (Heap.lt_size e) s15)⟩
    have kp : ∀ b u, H1 b = some u → putP H1 h'.objs.size as xs ys b = some u := fun b u e => by
      rw [off b (fun z => by rw [new b z] at e; cases e) (fun z => by rw [z, newS] at e; cases e)]
      exact e
    have eS : putP H1 h'.objs.size as xs ys h'.objs.size = some (.lst (as.map V.ref)) := by
      unfold putP
      rw [if_pos rfl]
    have eP : ∀ (j : Nat) (t : Addr), as[j]? = some t → ∃ x y, xs[j]? = some x ∧ ys[j]? = some y ∧ putP H1 h'.objs.size as xs ys t = some (.tup [x, y]) := fun j t e => by
      obtain ⟨hj, _⟩ := List.getElem?_eq_some_iff.mp e
      have k3' : as.length = its.length := by simpa using k3
      have hjx : j < xs.length := by omega
      have hjy : j < ys.length := by omega
      refine ⟨xs[j], ys[j], List.getElem?_eq_getElem hjx, List.getElem?_eq_getElem hjy, ?_⟩
      have tm : t ∈ as := List.mem_of_getElem? e
      unfold putP
      rw [if_neg (fun z : t = h'.objs.size => hSn (z ▸ tm)), if_pos tm, idxOf_get nd e]
      simp [List.getD_eq_getElem?_getD, hjx, hjy]
    have J : Inv X pins σ (putP H1 h'.objs.size as xs ys) { s1 with heap := h2, toks := tk } := by
      refine I1.call' (ch := []) rfl ⟨fun b o q _ _ _ => kk b o q, fun b o q _ _ _ => ⟨o.slots, kk b o q⟩, fun b o q n _ => ?_, fun b o q _ => ⟨o, kk b o q⟩, fun b xs q => kp b _ q, fun b o u q => kp b _ q, fun b ps q => ⟨#[], by rw [kp b _ q]; simp⟩⟩ (fun b u q => ?_) I1.bare fun b z => by simp at z
      · obtain ⟨c1, c2⟩ := low b o q
        rw [off b c1 c2]
        exact n
      · by_cases hb : b ∈ as
        · obtain ⟨j, e1⟩ := List.mem_iff_getElem?.mp hb
          obtain ⟨x, y, f1, f2, f3⟩ := eP j b e1
          rw [f3] at q
          cases q
          obtain ⟨vx, vy, g1, g2, g3⟩ := k4.at_ j b e1
          obtain ⟨ux, m1, m2⟩ := rv.get f1
          obtain ⟨uy, m3, m4⟩ := rv2.get f2
          have n1 : its[j]? = some vx := by simpa using g1
          have n2 : its2[j]? = some vy := by simpa using g2
          rw [m1] at n1
          rw [m3] at n2
          cases n1
          cases n2
          exact ⟨by show 2 ≤ sizeLine; decide, [vx, vy], .cons m2 (.cons m4 .nil), ⟨_, g3, rfl, _, rfl⟩⟩
        · by_cases hb2 : b = h'.objs.size
          · rw [hb2] at q ⊢
            rw [eS] at q
            cases q
            have k3' : as.length = its.length := by simpa using k3
            refine ⟨by rw [List.length_map]; omega, acc.toList, c, by rw [k5]; exact LiI.vals_refs as, ?_⟩
            rw [Array.toArray_toList]
            exact k2
          · rw [off b hb hb2] at q
            exact (I1.hok b u q).stay (fun d v _ y => kk d v y) (fun d y => kp d _ y) fun d xs y => kp d _ y
    exact ⟨.ref _, _, J, rfl, q _ h'.objs.size as kp newS new nd hSn eS (k3.trans ((List.size_toArray).trans hl1.symm)) eP⟩
  · exact q1.elim
end
end Bs
/-! A lambda that is handed on: what is promised of its call, wherever it is called. -/
namespace Bs
open PySem PySem.Spec PyProof.Rows L2 LamX
theorem un_deep {fs : List Addr} {n : Addr} {H H1 H2 : Hp} {h h1 h2 : Heap} (a : Un fs [] H H1 h h1) (b : Un (n :: fs) [] H1 H2 h1 h2) (hn : ∀ o, h.get? n = some o → False) : Un fs [] H H2 h h2 where
  keep := fun c ob q z hc hx => b.keep c ob (a.keep c ob q z hc hx) (a.free c ob q z hx) (fun m => (List.mem_cons.mp m).elim (fun e => hn ob (e ▸ q)) hc) hx
  slot := fun c ob q z hc hx => by
    obtain ⟨sl, e1⟩ := a.slot c ob q z hc hx
    obtain ⟨sl2, e2⟩ := b.slot c _ e1 (a.free c ob q z hx) (List.mem_cons_of_mem _ hc) hx
    exact ⟨sl2, e2⟩
  free := fun c ob q z hx => by
    obtain ⟨o2, e1⟩ := a.there c ob q hx
    exact b.free c o2 e1 (a.free c ob q z hx) hx
  there := fun c ob q hx => by
    obtain ⟨o2, e1⟩ := a.there c ob q hx
    exact b.there c o2 e1 hx
  tups := fun c xs q => b.tups c xs (a.tups c xs q)
  frzs := fun c ob u q => b.frzs c ob u (a.frzs c ob u q)
  tbls := fun c ps q => by
    obtain ⟨m1, e1⟩ := a.tbls c ps q
    obtain ⟨m2, e2⟩ := b.tbls c _ e1
    exact ⟨m1 ++ m2, by rw [e2, Array.append_assoc]⟩
/-- f, called without arguments at a state that follows (s0, H0), keeps sp -/
def ThkOk (P : Program) (w : World) (K : PySem.W.Frag) (mg : Str → Option Value) (base : Heap) (k : Nat) (fs : List Addr) (s0 : Shared) (H0 : Hp) (f : Addr) (sp : XK → Hp → VK → Prop) : Prop :=
  (∀ (H : Hp) (s : Shared), Un fs [] H0 H s0.heap s.heap → PySem.W.FnAt f s.heap) ∧
  ∀ (A : Around) (outer : List Env) (s : Shared) (H : Hp) (Q : VK) (E : XK), Room k A → Env0 P w K mg base A outer s H → Un fs [] H0 H s0.heap s.heap → sp E H Q →
    codeAny (model P w) A (.call (.ref f) ⟨[], []⟩) (CR (L2.CX P w) outer P w H s Q E) s
section
variable {X : Cx} {pins : List (Addr × Obj)} {σ : L2.St} {H : Hp} {s : Shared}
theorem thk_of {f c' : Addr} {pm ctv : Value} {params : Arguments} {body : Expr} {scope : Scope} {k : Nat} {t : XK → TE}
    (I : Inv X pins σ H s) (L : LamS X.env.scope scope) (hf : s.heap.get? f = some (PySem.W.kla_obj "<lambda>" (X.env.qual ++ "<lambda>") params body scope (cloFrom X.env.cells scope.names []) pm c' ctv)) (hfn : H f = none) (hfr : f ∉ frs X.stack)
    (hbind : bindArgs (PySem.W.kla_fn "<lambda>" (X.env.qual ++ "<lambda>") params body scope (cloFrom X.env.cells scope.names []) pm (.ref c') ctv) ⟨[], []⟩ = pure [])
    (hbody : ∀ (A : Around) (outer : List Env) (s : Shared) (H : Hp) (E : XK), Room k (A.deeper (lamEnv X scope s.heap.objs.size f c')) → PE (lamCx X A outer s H E scope f c') body (t E)) :
    ThkOk X.prog X.w X.K X.mg X.base (k + 1) (frs X.stack) s H f (fun E HZ Q => HZ c' = some (CodeO c' (X.env.qual ++ "<lambda>")) ∧ t E σ HZ Q) := by
  have at_ : ∀ (HZ : Hp) (s1 : Shared), Un (frs X.stack) [] H HZ s.heap s1.heap → s1.heap.get? f = some (PySem.W.kla_obj "<lambda>" (X.env.qual ++ "<lambda>") params body scope (cloFrom X.env.cells scope.names []) pm c' ctv) := fun HZ s1 un => un.keep f _ hf hfn hfr (by simp)
  refine ⟨fun HZ s1 un => ⟨_, _, _, _, at_ HZ s1 un⟩, fun A outer s1 HZ Q E hr e0 un ⟨hc, ht⟩ => ?_⟩
  obtain ⟨⟨oc, vs, tk, hoc, hdc, hvc⟩, _, _⟩ := e0.hok c' _ hc
  have lim : s1.heap.NoLimit := e0.mod.nolimit.keeps fun b o e => (e0.bs b o e).1
  refine PySem.W.kla_callFunE hr.depth (at_ HZ s1 un) rfl L.co L.gen rfl ⟨c', oc, vs, tk, rfl, hoc, hdc, hvc⟩ ?_
  rw [hbind]
  refine wpAny_pure (wpAny_newFunctionEnv (fun y hy => (L.own y hy).2) (fun y hy => absurd hy (by simp)) (fun h₁ hns hsb => ⟨lim.fresh _ hsb, ?_⟩) L.kind)
  show codeAny _ _ (.expr body (lamEnv X scope s1.heap.objs.size f c')) _ _
  have kp : ∀ b o, s1.heap.get? b = some o → h₁.get? b = some o := fun b o e => hsb.extBut b o (Nat.ne_of_lt (Heap.lt_size e)) (Heap.get?_push_of_some _ e)
  have J : Inv (lamCx X A outer s1 HZ E scope f c') [] σ HZ { s1 with heap := h₁, toks := s1.toks + ([] : List (Str × Value)).length } := lam_start2 I L e0 hr.hd un hns kp
  refine PySem.W.kla_codeExpr (wpAny_mono ((hbody _ _ s1 HZ E (hr.deeper _)).run [] _ _ HZ Q J ht) (fun v s' hq => ?_) fun e s' hq => hq)
  obtain ⟨w', H', J', rv, q⟩ := hq
  exact ⟨w', H', J'.os, J'.bare, J'.base, J'.hok, rv, q⟩
/-- x(), in a context that follows the promise's state -/
theorem pe_thk {k i : Nat} {fs : List Addr} {s0 : Shared} {H0 : Hp} {f : Addr} {sp : XK → Hp → VK → Prop} {x : Str} {E : XK} {p1 p2 : Pos} (Th : ThkOk X.prog X.w X.K X.mg X.base k fs s0 H0 f sp) (hr : Room k X.A)
    (hU : ∀ (H : Hp) (h : Heap), Un X.fs X.ex X.H_0 H X.s_0.heap h → Un fs [] H0 H s0.heap h) (hx : Passes (L2.CX X.prog X.w) X E)
    (hN : X.N[i]? = some x) (hv : Vis X.env.scope x) (hd : (x == ("__debug__" : Str)) = false := by decide) (hcd : (x == ("__classdict__" : Str)) = false := by decide) :
    PE X (.Call (.Name x p1) [] [] p2) (fun σ H Q => σ[i]? = some (some (.ref f)) ∧ sp E H Q) := by
  refine ⟨fun pins s σ H Q I ⟨hs, h⟩ => ?_⟩
  refine wpAny_Call_Name_kw (thn ((pe_var (pos := p1) (i := i) hN hv hd hcd).run pins s σ H (fun v H1 => v = .ref f ∧ H1 = H) I ⟨.ref f, hs, rfl, rfl⟩) fun u s1 ⟨v, H1, I1, r1, ev, eH⟩ => ?_)
  subst ev
  subst eH
  obtain rfl : u = Value.ref f := r1
  have un := hU _ _ I1.base
  refine PySem.W.callWith_F0 (Th.1 _ s1 un) ?_
  refine wpAny_call (codeAny_mono (Th.2 _ _ s1 _ Q E hr I1.env0 un h) fun r s' hq => ?_)
  cases r with
  | error e => exact hx pins σ _ s1 e s' I1 hq
  | ok fl =>
    cases fl with
    | ret u => exact I1.after hq
    | next => exact False.elim hq
    | brk => exact False.elim hq
    | cont => exact False.elim hq
end
end Bs
namespace K0
open PySem PySem.Spec PyProof.Rows L2 Bs
def top (i : Nat) : Stmt := PySem.Challenge.pw_boundslots_k00_lots_of_letters.main.body.getD i (.Pass ⟨0, 0, 0, 0⟩)
structure Txt (K : PySem.W.Frag) (mg : Str → Option Value) : Prop where
  int : mg "int" = none
  max : mg "max" = none
  len : mg "len" = none
  range : mg "range" = none
  isinstance : mg "isinstance" = none
  str : mg "str" = none
  bool : mg "bool" = none
  all : mg "all" = none
  list : mg "list" = none
  repr : mg "repr" = none
  zip : mg "zip" = none
  tuple : mg "tuple" = none
  dict : mg "dict" = none
abbrev s_mix : Stmt := top 29
theorem sc_mix : FnScope ["cell", "turn", "prime", "number"] ["cell", "turn"] (defScope s_mix) := ⟨rfl, rfl, rfl, by decide +kernel, rfl, by decide +kernel, by decide +kernel⟩
/-- two ints; some int comes out -/
def spMix : Sp := fun vs H Q _ => ∃ i j : Int, vs = [.int i, .int j] ∧ ∀ r : Int, Q (.int r) H
section
variable {P : Program} {w : World} {K : PySem.W.Frag} {mg : Str → Option Value} {base : Heap}
theorem ok_mix {f : Addr} {fd : FuncData} (F : Fun K "_law_mix" "_law_mix" s_mix f fd) (T : Txt K mg) : FnOk P w K mg base CX0 1 f fd ["cell", "turn"] spMix := by
  have sc := sc_mix
  refine F.ok sc (fun vs H Q E h => ?_) (fun cdv A outer s H vs Q E hr h => ?_)
  · obtain ⟨i, j, rfl, _⟩ := h
    rfl
  · obtain ⟨i, j, rfl, k⟩ := h
    refine ⟨_, (pss_cons (ps_set (i := 2) sc.nd rfl (Or.inl rfl) pe_int)
      (pss_cons (ps_set (i := 3) sc.nd rfl (Or.inl rfl) (pe_op o_mod (pe_callTy b_int (by rfl) T.int (by decide +kernel) (pa_cons (pe_op o_add (pe_op o_mod (pe_callTy b_int (by rfl) T.int (by decide +kernel) (pa_cons (nm 0) pa_nil)) (nm 2)) (pe_op o_mul (pe_op o_add (nm 1) pe_int) pe_int)) pa_nil)) (nm 2)))
      (pss_cons (ps_set (i := 3) sc.nd rfl (Or.inl rfl) (pe_op o_mod (pe_callTy b_int (by rfl) T.int (by decide +kernel) (pa_cons (pe_op o_add (pe_op o_mul (nm 3) (nm 3)) pe_int) pa_nil)) (nm 2)))
      (pss_cons (ps_set (i := 3) sc.nd rfl (Or.inl rfl) (pe_op o_add (pe_op o_fdiv (nm 3) pe_int) (pe_op o_mul (pe_op o_mod (pe_callTy b_int (by rfl) T.int (by decide +kernel) (pa_cons (nm 3) pa_nil)) pe_int) pe_int)))
      (pss_cons (ps_set (i := 3) sc.nd rfl (Or.inl rfl) (pe_op o_mod (pe_callTy b_int (by rfl) T.int (by decide +kernel) (pa_cons (pe_op o_add (pe_op o_mul (nm 3) (nm 3)) (pe_op o_mul (pe_op o_add (nm 1) pe_int) pe_int)) pa_nil)) pe_int))
      (pss_one (ps_ret (pe_op o_fdiv (nm 3) pe_int)))))))), ?_⟩
    have p1 : (0 : Int) < 2305843009213693951 := by decide
    have p2 : (0 : Int) < 2305843009213693921 := by decide
    have p3 : (0 : Int) < 1073741824 := by decide
    have m1 : ∀ x : Int, 0 ≤ x % 2305843009213693951 ∧ x % 2305843009213693951 < 2305843009213693951 := fun x => ⟨Int.emod_nonneg x (by decide), Int.emod_lt_of_pos x p1⟩
    refine ⟨p1, .inl (.inr ⟨by decide, by decide⟩), p1, ?_⟩
    have h1 := m1 (i % 2305843009213693951 + (j + 1) * 1442695040888963407)
    refine ⟨.inl (.inl ⟨by show -(2 ^ 64) < _ % _; omega, by show _ % _ < 2 ^ 64; omega⟩), p1, ?_⟩
    refine ⟨⟨p3, by decide⟩, p3, .inl (.inr ⟨by decide, by decide⟩), ?_⟩
    have h2 := m1 (((i % 2305843009213693951 + (j + 1) * 1442695040888963407) % 2305843009213693951) * ((i % 2305843009213693951 + (j + 1) * 1442695040888963407) % 2305843009213693951) + 88172645463325252)
    generalize ((i % 2305843009213693951 + (j + 1) * 1442695040888963407) % 2305843009213693951) * ((i % 2305843009213693951 + (j + 1) * 1442695040888963407) % 2305843009213693951) + 88172645463325252 = y at h2
    refine ⟨.inl (.inl ⟨by show -(2 ^ 64) < _ % _ / _ + _ % _ % _ * _; omega, by show _ % _ / _ + _ % _ % _ * _ < 2 ^ 64; omega⟩), .inl (.inr ⟨by decide, by decide⟩), p2, ⟨by decide, by decide⟩, ?_⟩
    exact k _
end
end K0
namespace K0
open PySem PySem.Spec PyProof.Rows L2 Bs
/-- all but a stands, and nothing is new -/
def Only (a : Addr) (H H' : Hp) : Prop := ∀ b, b ≠ a → H' b = H b
theorem Only.refl {a : Addr} {H : Hp} : Only a H H := fun _ _ => rfl
theorem Only.upd {a : Addr} {H : Hp} {o : HO} : Only a H (L2.upd H a o) := fun b hb => upd_ne hb
theorem Only.trans {a : Addr} {H H1 H2 : Hp} (h : Only a H H1) (g : Only a H1 H2) : Only a H H2 := fun b hb => (g b hb).trans (h b hb)
/-- the store: its cells and its six numbers -/
structure StX (H : Hp) (a c : Addr) (cells : List Int) (p w x n t sd : Int) : Prop where
  at_ : H a = some (.lst [.ref c, .int p, .int w, .int x, .int n, .int t, .int sd])
  cl : H c = some (.lst (cells.map V.int))
  ne : c ≠ a
  pp : 0 ≤ p
def StAt (H : Hp) (a c : Addr) : Prop := ∃ cells p w x n t sd, StX H a c cells p w x n t sd
theorem StX.put {H H' : Hp} {a c : Addr} {cells : List Int} {p w x n t sd p' w' x' n' t' sd' : Int} (S : StX H a c cells p w x n t sd) (o : Only a H H') (h : H' a = some (.lst [.ref c, .int p', .int w', .int x', .int n', .int t', .int sd'])) (hp : 0 ≤ p') :
    StX H' a c cells p' w' x' n' t' sd' := ⟨h, by rw [o c S.ne]; exact S.cl, S.ne, hp⟩
theorem log62 {n : Nat} (h : n < 2 ^ 62) : n.log2 < 9000 := by
  by_cases z : n = 0
  · subst z; decide
  · exact Nat.lt_of_lt_of_le ((Nat.log2_lt z).mpr h) (by decide)
abbrev s_open : Stmt := top 31
theorem sc_open : FnScope ["store", "cell", "wide", "k"] ["store"] (defScope s_open) := ⟨rfl, rfl, rfl, by decide +kernel, rfl, by decide +kernel, by decide +kernel⟩
def spOpen : Sp := fun vs H Q _ => ∃ a c cells p w x n t sd, vs = [.ref a] ∧ StX H a c cells p w x n t sd ∧ p < (cells.length : Int) ∧ ∀ H', StAt H' a c → Only a H H' → Q .non H'
section
variable {P : Program} {w : World} {K : PySem.W.Frag} {mg : Str → Option Value} {base : Heap}
theorem ok_open {f : Addr} {fd : FuncData} (F : Fun K "_law_open" "_law_open" s_open f fd) (T : Txt K mg) : FnOk P w K mg base CX0 1 f fd ["store"] spOpen := by
  have sc := sc_open
  refine F.ok sc (fun vs H Q E h => ?_) (fun cdv A outer s H vs Q E hr h => ?_)
  · obtain ⟨a, c, cells, p, w, x, n, t, sd, rfl, _⟩ := h
    rfl
  · obtain ⟨a, c, cells, p, w, x, n, t, sd, rfl, S, hp, k⟩ := h
    refine ⟨_, (pss_cons (ps_set (i := 1) sc.nd rfl (Or.inl rfl) (pe_ix x_any (pe_ix x_any (nm 0) pe_int (fun _ _ => rfl)) (pe_ix x_any (nm 0) pe_int (fun _ _ => rfl)) (fun _ _ => rfl)))
      (pss_cons (ps_asg (pe_op o_add (pe_ix x_any (nm 0) pe_int (fun _ _ => rfl)) pe_int) (pg_sub (nm 0) pe_int s_list))
      (pss_one (ps_if (cmpT o_ge (nm 1) (pe_op o_pow pe_int pe_int) (nomark _)) (pss_cons (ps_set (i := 2) sc.nd rfl (Or.inl rfl) (pe_op o_pow pe_int pe_int))
      (pss_cons (ps_for PassesOwn.never rfl (pi_range1 rfl T.range (pa_cons pe_int pa_nil)) (pg_name (i := 3) sc.nd rfl (Or.inl rfl)) (pss_one (ps_set (i := 2) sc.nd rfl (Or.inl rfl) (pe_op o_mul (nm 2) (nm 2)))))
      (pss_one (ps_asg (pe_op o_mod (pe_callTy b_int (by rfl) T.int (by decide +kernel) (pa_cons (nm 1) pa_nil)) (nm 2)) (pg_sub (nm 0) pe_int s_list))))) (pss_cons (ps_asg (nm 1) (pg_sub (nm 0) pe_int s_list))
      (pss_one (ps_asg pe_int (pg_sub (nm 0) pe_int s_list)))))))), ?_⟩
    have hS := S.at_
    have hc := S.cl
    have hpp := S.pp
    have hat : atI (cells.map V.int) p = (cells.map V.int)[p.toNat]? := by
      have hl : p < ((cells.map V.int).length : Int) := by simpa using hp
      unfold atI ixN
      rw [if_pos hpp, if_pos hl]
      rfl
    have hlt : p.toNat < cells.length := by omega
    refine ⟨_, _, .inl (SqL.of hS), rfl, ⟨_, _, .inl (SqL.of hS), rfl, ?_⟩⟩
    refine ⟨_, .int cells[p.toNat], .inl (SqL.of hc), by rw [hat]; simp [hlt], ?_⟩
    refine ⟨_, _, .inl (SqL.of hS), rfl, ?_⟩
    refine ⟨_, _, hS, rfl, ?_⟩
    have hS1 : upd H a (.lst [V.ref c, V.int (p + 1), V.int w, V.int x, V.int n, V.int t, V.int sd]) a = some (.lst [V.ref c, V.int (p + 1), V.int w, V.int x, V.int n, V.int t, V.int sd]) := upd_same
    have fin : ∀ w' x' n' : Int, ∀ H', H' a = some (.lst [V.ref c, V.int (p + 1), V.int w', V.int x', V.int n', V.int t, V.int sd]) → Only a H H' → Q .non H' :=
      fun w' x' n' H' e o => k H' ⟨cells, p + 1, w', x', n', t, sd, S.put o e (by omega)⟩ o
    refine ⟨⟨by decide, by decide, by decide⟩, ite2 (fun _ => ?_) (fun _ => ?_)⟩
    · refine ⟨⟨by decide, by decide, by decide⟩, ⟨_, rfl, by decide, by decide, for_range (lo := 0) (n := 4) (fun i σ H' => H' = upd H a (.lst [V.ref c, V.int (p + 1), V.int w, V.int x, V.int n, V.int t, V.int sd]) ∧
        ∃ v, σ = [some (.ref a), some (.int cells[p.toNat]), some (.int (10 ^ (64 * 2 ^ i))), v]) ⟨rfl, none, rfl⟩ ?_ ?_⟩⟩
      · rintro i σ H' hi ⟨rfl, v, rfl⟩
        refine ⟨.inr ?_, rfl, some (.int (0 + (i : Int))), ?_⟩
        · show (((10 : Int) ^ (64 * 2 ^ i)).natAbs).log2 + ((10 : Int) ^ (64 * 2 ^ i)).natAbs.log2 < 1000000
          have h4 : i = 0 ∨ i = 1 ∨ i = 2 ∨ i = 3 := by omega
          rcases h4 with rfl | rfl | rfl | rfl <;> decide +kernel
        · show [some (V.ref a), some (V.int cells[p.toNat]), some (V.int (10 ^ (64 * 2 ^ i) * 10 ^ (64 * 2 ^ i))), some (V.int (0 + (i : Int)))] = _
          rw [← Int.pow_add, show 64 * 2 ^ i + 64 * 2 ^ i = 64 * 2 ^ (i + 1) by rw [Nat.pow_succ]; omega]
      · rintro σ H' ⟨rfl, v, rfl⟩
        refine ⟨?_, ⟨_, _, hS1, rfl, ?_⟩⟩
        · show (0 : Int) < 10 ^ (64 * 2 ^ 4)
          exact Int.pow_pos (by decide)
        · exact fin _ x n _ upd_same (Only.trans Only.upd Only.upd)
    · refine ⟨_, _, hS1, rfl, ⟨_, _, upd_same, rfl, ?_⟩⟩
      exact fin w _ 4 _ upd_same (Only.trans (Only.trans Only.upd Only.upd) Only.upd)
end
end K0
namespace K0
open PySem PySem.Spec PyProof.Rows L2 Bs
def most (lim : Int) : Int := if lim > 1 then lim else 1
theorem most_pos (lim : Int) : 0 < most lim := by unfold most; split <;> omega
theorem most_div {lim : Int} (h : lim < 2 ^ 62) : CDivW 0 (most lim) := ⟨most_pos lim, log62 (by unfold most; split <;> omega)⟩
abbrev s_take : Stmt := top 32
theorem sc_take : FnScope ["store", "limit", "most", "k", "digit"] ["store", "limit"] (defScope s_take) := ⟨rfl, rfl, rfl, by decide +kernel, rfl, by decide +kernel, by decide +kernel⟩
def spTake : Sp := fun vs H Q _ => ∃ (a c : Addr) (lim : Int), vs = [.ref a, .int lim] ∧ StAt H a c ∧ lim < 2 ^ 62 ∧ ∀ (r : Int) H', 0 ≤ r → r < most lim → StAt H' a c → Only a H H' → Q (.int r) H'
section
variable {P : Program} {w : World} {K : PySem.W.Frag} {mg : Str → Option Value} {base : Heap}
theorem ok_take {f fm fo : Addr} {fd fdm fdo : FuncData} (F : Fun K "_law_take" "_law_take" s_take f fd) (T : Txt K mg)
    (Gm : Fn P w K mg base CX0 1 "_law_mix" ["cell", "turn"] spMix fm fdm) (Go : Fn P w K mg base CX0 1 "_law_open" ["store"] spOpen fo fdo) : FnOk P w K mg base CX0 2 f fd ["store", "limit"] spTake := by
  have sc := sc_take
  refine F.ok sc (fun vs H Q E h => ?_) (fun cdv A outer s H vs Q E hr h => ?_)
  · obtain ⟨a, _, lim, rfl, _⟩ := h
    rfl
  · obtain ⟨a, c, lim, rfl, S0, hlim, k⟩ := h
    refine ⟨_, (pss_cons (ps_set (i := 2) sc.nd rfl (Or.inl rfl) (pe_callB (b_max rfl) (by rfl) T.max boot_max (pa_cons pe_int (pa_cons (nm 1) pa_nil))))
      (pss_cons (ps_asg (pe_op o_add (pe_ix x_any (nm 0) pe_int (fun _ _ => rfl)) pe_int) (pg_sub (nm 0) pe_int s_list))
      (pss_cons (ps_for PassesOwn.never rfl (pi_range1 rfl T.range (pa_cons pe_int pa_nil)) (pg_name (i := 3) sc.nd rfl (Or.inl rfl)) (pss_cons (ps_if (cmpT o_gt (pe_ix x_any (nm 0) pe_int (fun _ _ => rfl)) pe_int (nomark _)) (pss_cons (ps_set (i := 4) sc.nd rfl (Or.inl rfl) (pe_op o_mod (pe_callTy b_int (by rfl) T.int (by decide +kernel) (pa_cons (pe_ix x_any (nm 0) pe_int (fun _ _ => rfl)) pa_nil)) (nm 2)))
      (pss_cons (ps_asg (pe_op o_fdiv (pe_ix x_any (nm 0) pe_int (fun _ _ => rfl)) (nm 2)) (pg_sub (nm 0) pe_int s_list))
      (pss_one (ps_ret (nm 4))))) pss_nil)
      (pss_cons (ps_if (cmpT o_gt (pe_ix x_any (nm 0) pe_int (fun _ _ => rfl)) pe_int (nomark _)) (pss_cons (ps_asg (pe_op o_sub (pe_ix x_any (nm 0) pe_int (fun _ _ => rfl)) pe_int) (pg_sub (nm 0) pe_int s_list))
      (pss_one (ps_ret (pe_op o_mod (pe_callTy b_int (by rfl) T.int (by decide +kernel) (pa_cons (fn Gm (hr.mono (by decide)) (by rfl) pass0 (pa_cons (pe_ix x_any (nm 0) pe_int (fun _ _ => rfl)) (pa_cons (pe_ix x_any (nm 0) pe_int (fun _ _ => rfl)) pa_nil))) pa_nil)) (nm 2))))) pss_nil)
      (pss_cons (ps_if (cmpT o_ge (pe_ix x_any (nm 0) pe_int (fun _ _ => rfl)) (pe_callB b_len (by rfl) T.len boot_len (pa_cons (pe_ix x_any (nm 0) pe_int (fun _ _ => rfl)) pa_nil)) (nomark _)) (pss_one (ps_ret (pe_op o_mod (pe_callTy b_int (by rfl) T.int (by decide +kernel) (pa_cons (fn Gm (hr.mono (by decide)) (by rfl) pass0 (pa_cons (pe_ix x_any (nm 0) pe_int (fun _ _ => rfl)) (pa_cons (pe_ix x_any (nm 0) pe_int (fun _ _ => rfl)) pa_nil))) pa_nil)) (nm 2)))) pss_nil)
      (pss_one (ps_expr (fn Go (hr.mono (by decide)) (by rfl) pass0 (pa_cons (nm 0) pa_nil))))))))
      (pss_one (ps_ret pe_int))))), ?_⟩
    have hm0 := most_pos lim
    have hmd := most_div hlim
    have mod_ok : ∀ x : Int, 0 ≤ x % most lim ∧ x % most lim < most lim := fun x => ⟨Int.emod_nonneg x (by omega), Int.emod_lt_of_pos x hm0⟩
    obtain ⟨cells, p, w, x, n, t, sd, S⟩ := S0
    refine ⟨_, _, .inl (SqL.of S.at_), rfl, ⟨_, _, S.at_, rfl, ?_⟩⟩
    have S1 : StAt (upd H a (.lst [.ref c, .int p, .int w, .int x, .int n, .int (t + 1), .int sd])) a c := ⟨cells, p, w, x, n, t + 1, sd, S.put Only.upd upd_same S.pp⟩
    refine ⟨_, rfl, by decide, by decide, for_range (lo := 0) (n := 66) (fun i σ H' => StAt H' a c ∧ Only a H H' ∧ ∃ v u, σ = [some (.ref a), some (.int lim), some (.int (most lim)), v, u]) ⟨S1, Only.upd, none, none, rfl⟩ ?_ ?_⟩
    · rintro i σ H1 hi ⟨⟨cells, p, w, x, n, t, sd, S⟩, o1, v, u, rfl⟩
      refine ⟨_, _, .inl (SqL.of S.at_), rfl, ite2 (fun _ => ?_) (fun _ => ?_)⟩
      · -- a digit of the wide number
        refine ⟨_, _, .inl (SqL.of S.at_), rfl, hm0, ?_⟩
        refine ⟨_, _, .inl (SqL.of S.at_), rfl, ⟨hmd.1, hmd.2⟩, ⟨_, _, S.at_, rfl, ?_⟩⟩
        exact k _ _ (mod_ok w).1 (mod_ok w).2 ⟨cells, p, w / most lim, x, n, t, sd, S.put Only.upd upd_same S.pp⟩ (o1.trans Only.upd)
      · refine ⟨_, _, .inl (SqL.of S.at_), rfl, ite2 (fun _ => ?_) (fun _ => ?_)⟩
        · refine ⟨_, _, .inl (SqL.of S.at_), rfl, ⟨_, _, S.at_, rfl, ?_⟩⟩
          have e1 : upd H1 a (.lst [.ref c, .int p, .int w, .int x, .int (n - 1), .int t, .int sd]) a = some (.lst [.ref c, .int p, .int w, .int x, .int (n - 1), .int t, .int sd]) := upd_same
          refine ⟨_, _, .inl (SqL.of e1), rfl, _, _, .inl (SqL.of e1), rfl, _, _, rfl, fun r => ?_⟩
          exact ⟨hm0, k _ _ (mod_ok r).1 (mod_ok r).2 ⟨cells, p, w, x, n - 1, t, sd, S.put Only.upd upd_same S.pp⟩ (o1.trans Only.upd)⟩
        · refine ⟨_, _, .inl (SqL.of S.at_), rfl, _, _, .inl (SqL.of S.at_), rfl, .inl ⟨_, .inl (SqL.of S.cl), ite2 (fun hge => ?_) (fun hge => ?_)⟩⟩
          · refine ⟨_, _, .inl (SqL.of S.at_), rfl, _, _, .inl (SqL.of S.at_), rfl, _, _, rfl, fun r => ?_⟩
            exact ⟨hm0, k _ _ (mod_ok r).1 (mod_ok r).2 ⟨cells, p, w, x, n, t, sd, S⟩ o1⟩
          · have hlt : p < (cells.length : Int) := by
              have := of_decide_eq_false (Bool.eq_false_iff.mpr hge)
              simp only [List.length_map] at this
              omega
            exact ⟨a, c, cells, p, w, x, n, t, sd, rfl, S, hlt, fun H2 S2 o2 => ⟨S2, o1.trans o2, _, _, rfl⟩⟩
    · rintro σ H1 ⟨S1, o1, v, u, rfl⟩
      exact k 0 H1 (by decide) hm0 S1 o1
end
end K0
namespace K0
open PySem PySem.Spec PyProof.Rows L2 Bs
theorem mem_get {α : Type} {l : List α} {i : Nat} {x : α} (h : l[i]? = some x) : x ∈ l := List.mem_of_getElem? h
theorem mem_cutV {xs : List V} {lo hi : Option Int} {x : V} (h : x ∈ cutV xs lo hi) : x ∈ xs := List.mem_of_mem_drop (List.mem_of_mem_take h)
theorem cutV_len {xs : List V} {lo hi : Option Int} : (cutV xs lo hi).length ≤ xs.length := by
  unfold cutV
  rw [List.length_take, List.length_drop]
  omega
theorem Same.up {H : Hp} {a : Addr} {o : HO} (h : H a = none) : Same H (L2.upd H a o) := fun b u e => by
  rw [upd_ne (ne_of_none e h)]
  exact e
abbrev s_store : Stmt := top 30
theorem sc_store : FnScope ["script", "cells", "cell", "seed"] ["script"] (defScope s_store) := ⟨rfl, rfl, rfl, by decide +kernel, rfl, by decide +kernel, by decide +kernel⟩
def spStore (K : PySem.W.Frag) : Sp := fun vs H Q _ => ∃ (a : Addr) (ns : List Int), vs = [.ref a] ∧ SqL K H a (ns.map V.int) ∧ ns.length ≤ 63 ∧ ∀ st c H', H st = none → H c = none → Same H H' → StAt H' st c → Q (.ref st) H'
section
variable {P : Program} {w : World} {K : PySem.W.Frag} {mg : Str → Option Value} {base : Heap}
theorem ok_store {f fm : Addr} {fd fdm : FuncData} (F : Fun K "_law_store" "_law_store" s_store f fd) (T : Txt K mg)
    (Gm : Fn P w K mg base CX0 1 "_law_mix" ["cell", "turn"] spMix fm fdm) : FnOk P w K mg base CX0 2 f fd ["script"] (spStore K) := by
  have sc := sc_store
  let st := s_store
  let N : List Str := ["script", "cells", "cell", "seed"]
  refine F.ok sc (fun vs H Q E h => ?_) (fun cdv A outer s H vs Q E hr h => ?_)
  · obtain ⟨a, ns, rfl, _⟩ := h
    rfl
  · obtain ⟨a, ns, rfl, hS, hlen, k⟩ := h
    refine ⟨_, (pss_cons ((ps_setLc (i := 1) (own := [("cell", 2)]) rfl sc.nd rfl rfl (sw_true rfl rfl rfl (by decide +kernel)) (pi_any (pe_slice sl_any (nm 0) po_none (po pe_int))) (blkOk_by (N := N) (sc := defScope st) (by decide +kernel)) (fun _ _ _ _ _ => (pg_name (i := 2) sc.nd rfl (Or.inl rfl))) (fun _ _ _ _ _ => pts_nil) (fun _ _ _ _ _ => (pe_callTy b_int (by rfl) T.int (by decide +kernel) (pa_cons (nm 2) pa_nil)))))
      (pss_cons (ps_set (i := 3) sc.nd rfl (Or.inl rfl) (pe_op o_add pe_int (pe_op o_mul pe_int (pe_callB b_len (by rfl) T.len boot_len (pa_cons (nm 1) pa_nil)))))
      (pss_cons (ps_for PassesOwn.never rfl (pi_any (nm 1)) (pg_name (i := 2) sc.nd rfl (Or.inl rfl)) (pss_one (ps_set (i := 3) sc.nd rfl (Or.inl rfl) (fn Gm (hr.mono (by decide)) (by rfl) pass0 (pa_cons (pe_op o_add (pe_op o_mul (nm 3) pe_int) (pe_op o_mod (pe_callTy b_int (by rfl) T.int (by decide +kernel) (pa_cons (nm 2) pa_nil)) pe_int)) (pa_cons (nm 3) pa_nil))))))
      (pss_one (ps_ret (pe_lst (pa_cons (nm 1) (pa_cons pe_int (pa_cons pe_int (pa_cons pe_int (pa_cons pe_int (pa_cons pe_int (pa_cons (nm 3) pa_nil))))))))))))), ?_⟩
    refine .inl ⟨_, hS, fun l hl => .inl ⟨⟨_, SqL.of upd_same⟩, fun D hD => ?_⟩⟩
    have hlD : l ≠ D := ne_of_none (upd_same (H := H) (a := l)) hD
    have hD0 : H D = none := (upd_ne hlD.symm).symm.trans hD
    refine lc_list (K := K) (a := l) (xs := cutV (ns.map V.int) none (some 63)) (fun i H' => ∃ cs : List Int, cs.length = i ∧ H' = upd (upd H l (.lst (cutV (ns.map V.int) none (some 63)))) D (.lst (cs.map V.int))) ⟨[], rfl, rfl⟩
      (fun i H' _ ⟨cs, _, e⟩ => SqL.of (by rw [e, upd_ne hlD, upd_same])) ?_ ?_
    · rintro i y H' hy ⟨cs, hcs, rfl⟩
      obtain ⟨z, hz, rfl⟩ := List.mem_map.mp (mem_cutV (mem_get hy))
      refine ⟨rfl, ?_⟩
      refine ⟨_, upd_same, ?_, cs ++ [z], by simp [hcs], ?_⟩
      · have h1 : i < (cutV (ns.map V.int) none (some 63)).length := (List.getElem?_eq_some_iff.mp hy).1
        have h2 := @cutV_len (ns.map V.int) none (some 63)
        rw [List.length_map] at h2
        exact small1000 (by rw [List.length_map]; omega)
      · rw [upd_upd, List.map_append]
        rfl
    · rintro H' ⟨cs, hcs, rfl⟩
      have hcell : upd (upd H l (.lst (cutV (ns.map V.int) none (some 63)))) D (.lst (cs.map V.int)) D = some (.lst (cs.map V.int)) := upd_same
      have hsame : Same H (upd (upd H l (.lst (cutV (ns.map V.int) none (some 63)))) D (.lst (cs.map V.int))) := fun b o e => by
        rw [upd_ne (ne_of_none e hD0), upd_ne (ne_of_none e hl)]
        exact e
      generalize upd (upd H l (.lst (cutV (ns.map V.int) none (some 63)))) D (.lst (cs.map V.int)) = H1 at hcell hsame ⊢
      refine .inl ⟨_, .inl (SqL.of hcell), .inl (.inl ⟨by decide, by decide⟩), ?_⟩
      refine for_sq (K := K) (a := D) (xs := cs.map V.int) (fun i σ H' => H' = H1 ∧ ∃ (v : Option V) (sd : Int), σ = [some (.ref a), some (.ref D), v, some (.int sd)]) ⟨rfl, none, _, rfl⟩
        (.inl fun i σ H' _ ⟨e, _⟩ => SqL.of (by rw [e]; exact hcell)) ?_ ?_ rfl
      · rintro i y σ H' hy ⟨rfl, v, sd, rfl⟩
        obtain ⟨z, hz, rfl⟩ := List.mem_map.mp (mem_get hy)
        exact ⟨.inl (.inr ⟨by decide, by decide⟩), (by show (0 : Int) < 2305843009213693951; decide), _, _, rfl, fun r => ⟨rfl, _, _, rfl⟩⟩
      · rintro σ H' ⟨rfl, v, sd, rfl⟩
        refine ⟨(by show 7 ≤ sizeLine; decide), fun q hq => k q D _ (hsame.free hq) hD0 (fun b o e => by rw [upd_ne (ne_of_none (hsame b o e) hq)]; exact hsame b o e) ?_⟩
        exact ⟨cs, 0, 0, 0, 0, 0, sd, upd_same, by rw [upd_ne (ne_of_none hcell hq)]; exact hcell, ne_of_none hcell hq, Int.le_refl 0⟩
end
end K0
namespace K0
open PySem PySem.Spec PyProof.Rows L2 Bs
/-- all but a stands; there may be new things -/
def Grow (a : Addr) (H H' : Hp) : Prop := ∀ b o, b ≠ a → H b = some o → H' b = some o
theorem Grow.refl {a : Addr} {H : Hp} : Grow a H H := fun _ _ _ h => h
theorem Grow.trans {a : Addr} {H H1 H2 : Hp} (h : Grow a H H1) (g : Grow a H1 H2) : Grow a H H2 := fun b o hb e => g b o hb (h b o hb e)
theorem Only.grow {a : Addr} {H H' : Hp} (h : Only a H H') : Grow a H H' := fun b o hb e => (h b hb).trans e
theorem Grow.new {a l : Addr} {H : Hp} {o : HO} (h : H l = none) : Grow a H (upd H l o) := fun b o' _ e => by rw [upd_ne (ne_of_none e h)]; exact e
theorem Grow.put {a l : Addr} {H H' : Hp} {o : HO} (g : Grow a H H') (h : H l = none) : Grow a H (upd H' l o) := fun b o' hb e => by rw [upd_ne (ne_of_none e h)]; exact g b o' hb e
theorem StAt.lst {H : Hp} {a c : Addr} (S : StAt H a c) : ∃ xs, H a = some (.lst xs) := by obtain ⟨cells, p, w, x, n, t, sd, S⟩ := S; exact ⟨_, S.at_⟩
theorem StAt.cst {H : Hp} {a c : Addr} (S : StAt H a c) : ∃ xs, H c = some (.lst xs) := by obtain ⟨cells, p, w, x, n, t, sd, S⟩ := S; exact ⟨_, S.cl⟩
theorem StAt.put {H : Hp} {a c l : Addr} {o : HO} (S : StAt H a c) (h1 : l ≠ a) (h2 : l ≠ c) : StAt (upd H l o) a c := by
  obtain ⟨cells, p, w, x, n, t, sd, S⟩ := S
  exact ⟨cells, p, w, x, n, t, sd, ⟨by rw [upd_ne h1.symm]; exact S.at_, by rw [upd_ne h2.symm]; exact S.cl, S.ne, S.pp⟩⟩
theorem StAt.new {H : Hp} {a c l : Addr} {o : HO} (S : StAt H a c) (h : H l = none) : StAt (upd H l o) a c := by
  obtain ⟨cells, p, w, x, n, t, sd, S⟩ := S
  exact ⟨cells, p, w, x, n, t, sd, ⟨by rw [upd_ne (ne_of_none S.at_ h)]; exact S.at_, by rw [upd_ne (ne_of_none S.cl h)]; exact S.cl, S.ne, S.pp⟩⟩
theorem atI_nat {xs : List α} {r : Int} (h0 : 0 ≤ r) (h : r < (xs.length : Int)) : ∃ (hl : r.toNat < xs.length), atI xs r = some xs[r.toNat] := by
  have hl : r.toNat < xs.length := by omega
  refine ⟨hl, ?_⟩
  unfold atI ixN
  rw [if_pos h0, if_pos h]
  show xs[r.toNat]? = _
  exact List.getElem?_eq_getElem hl
theorem most_len {n : Nat} (h : 0 < n) : most (n : Int) = n := by unfold most; split <;> omega
def FnE (P : Program) (w : World) (K : PySem.W.Frag) (mg : Str → Option Value) (base : Heap) (CX : CXT) (k : Nat) (x : Str) (ps : List Str) (sp : Sp) : Prop := ∃ f fd, Fn P w K mg base CX k x ps sp f fd

abbrev s_pick : Stmt := top 33
theorem sc_pick : FnScope ["store", "things"] ["store", "things"] (defScope s_pick) := ⟨rfl, rfl, rfl, by decide +kernel, rfl, by decide +kernel, by decide +kernel⟩
def spPick : Sp := fun vs H Q _ => ∃ a c0, StAt H a c0 ∧ ((∃ z : Str, vs = [.ref a, .str z] ∧ 0 < z.length ∧ z.length ≤ sizeLine ∧ ∀ c H', c ∈ z.cps.toList → StAt H' a c0 → Only a H H' → Q (.str ⟨#[c]⟩) H') ∨
  ∃ l xs, vs = [.ref a, .ref l] ∧ H l = some (.lst xs) ∧ l ≠ a ∧ 0 < xs.length ∧ xs.length ≤ sizeLine ∧ ∀ x H', x ∈ xs → StAt H' a c0 → Only a H H' → Q x H')
abbrev s_count : Stmt := top 34
theorem sc_count : FnScope ["store", "most", "way"] ["store", "most"] (defScope s_count) := ⟨rfl, rfl, rfl, by decide +kernel, rfl, by decide +kernel, by decide +kernel⟩
def spCount : Sp := fun vs H Q _ => ∃ (a c0 : Addr) (m : Int), vs = [.ref a, .int m] ∧ StAt H a c0 ∧ 0 ≤ m ∧ m < 2 ^ 62 ∧ ∀ (r : Int) H', 0 ≤ r → r ≤ m → StAt H' a c0 → Only a H H' → Q (.int r) H'
abbrev s_sign : Stmt := top 44
theorem sc_sign : FnScope ["store", "signs"] ["store"] (defScope s_sign) := ⟨rfl, rfl, rfl, by decide +kernel, rfl, by decide +kernel, by decide +kernel⟩
def spSign : Sp := fun vs H Q _ => ∃ a c0, vs = [.ref a] ∧ StAt H a c0 ∧ ∀ c H', c < 1114112 → StAt H' a c0 → Only a H H' → Q (.str ⟨#[c]⟩) H'
theorem sign_ok : ∀ c ∈ ((" !\"#$&'()*+,-./0123456789:;<=>?@ABCDEFGHIJKLMNOPQRSTUVWXYZ[\\]^_`" : Str) ++ ("abcdefghijklmnopqrstuvwxyz{|}~\n" : Str)).cps.toList, c < 1114112 := by decide +kernel
section
variable {P : Program} {w : World} {K : PySem.W.Frag} {mg : Str → Option Value} {base : Heap}
theorem ok_pick {f : Addr} {fd : FuncData} (F : Fun K "_law_pick" "_law_pick" s_pick f fd) (T : Txt K mg) (G_take : FnE P w K mg base CX0 2 "_law_take" ["store", "limit"] spTake) : FnOk P w K mg base CX0 3 f fd ["store", "things"] spPick := by
  have sc := sc_pick
  obtain ⟨_, _, G_take⟩ := G_take
  refine F.ok sc (fun vs H Q E h => ?_) (fun cdv A outer s H vs Q E hr h => ?_)
  · obtain ⟨a, c0, _, ⟨z, rfl, _⟩ | ⟨l, xs, rfl, _⟩⟩ := h <;> rfl
  · refine ⟨_, (pss_one (ps_ret (pe_ix x_any (nm 1) (fn G_take (hr.mono (by decide)) (by rfl) pass0 (pa_cons (nm 0) (pa_cons (pe_callB b_len (by rfl) T.len boot_len (pa_cons (nm 1) pa_nil)) pa_nil))) (fun _ _ => rfl)))), ?_⟩
    obtain ⟨a, c0, S, ⟨z, rfl, h0, hs, k⟩ | ⟨l, xs, rfl, hl, hne, h0, hs, k⟩⟩ := h
    · have hs' : z.length ≤ 2 ^ 24 := hs
      refine ⟨hs, a, c0, z.length, rfl, S, by omega, fun r H' h1 h2 S' o => ?_⟩
      rw [most_len h0] at h2
      rw [len_cps] at h2
      obtain ⟨hlt, e⟩ := atI_nat (xs := z.cps.toList) h1 h2
      exact ⟨hs, _, e, k _ _ (List.getElem_mem hlt) S' o⟩
    · have hs' : xs.length ≤ 2 ^ 24 := hs
      refine .inl ⟨xs, .inl (SqL.of hl), a, c0, xs.length, rfl, S, by omega, fun r H' h1 h2 S' o => ?_⟩
      rw [most_len h0] at h2
      obtain ⟨hlt, e⟩ := atI_nat (xs := xs) h1 h2
      exact ⟨_, _, .inl (SqL.of ((o l hne).trans hl)), e, k _ _ (List.getElem_mem hlt) S' o⟩
theorem ok_count {f : Addr} {fd : FuncData} (F : Fun K "_law_count" "_law_count" s_count f fd) (T : Txt K mg) (G_take : FnE P w K mg base CX0 2 "_law_take" ["store", "limit"] spTake) : FnOk P w K mg base CX0 3 f fd ["store", "most"] spCount := by
  have sc := sc_count
  obtain ⟨_, _, G_take⟩ := G_take
  refine F.ok sc (fun vs H Q E h => ?_) (fun cdv A outer s H vs Q E hr h => ?_)
  · obtain ⟨a, c0, m, rfl, _⟩ := h
    rfl
  · obtain ⟨a, c0, m, rfl, S, hm0, hm, k⟩ := h
    refine ⟨_, (pss_cons (ps_set (i := 2) sc.nd rfl (Or.inl rfl) (fn G_take (hr.mono (by decide)) (by rfl) pass0 (pa_cons (nm 0) (pa_cons pe_int pa_nil))))
      (pss_cons (ps_if (PW.pt (pw_or (cmpT (o_eq hr) (nm 2) pe_int (nomark _)) (pw_or1 (cmpT o_lt (nm 1) pe_int (nomark _))))) (pss_one (ps_ret pe_int)) pss_nil)
      (pss_cons (ps_if (cmpT (o_eq hr) (nm 2) pe_int (nomark _)) (pss_one (ps_ret (nm 1))) pss_nil)
      (pss_one (ps_ret (pe_op o_add pe_int (fn G_take (hr.mono (by decide)) (by rfl) pass0 (pa_cons (nm 0) (pa_cons (nm 1) pa_nil))))))))), ?_⟩
    refine ⟨a, c0, 8, rfl, S, by decide, fun r H' h1 h2 S' o => ?_⟩
    refine ⟨rfl, ite2 (fun _ => k 0 H' (by omega) hm0 S' o) (fun _ => ite2 (fun _ => k 0 H' (by omega) hm0 S' o) (fun hc => ?_))⟩
    have hm1 : ¬ (m < 1) := of_decide_eq_false (Bool.not_eq_true _ ▸ hc)
    refine ⟨rfl, ite2 (fun _ => k m H' hm0 (Int.le_refl _) S' o) (fun _ => ?_)⟩
    refine ⟨a, c0, m, rfl, S', hm, fun r H2 g1 g2 S2 o2 => ?_⟩
    have : most m = m := by unfold most; split <;> omega
    rw [this] at g2
    exact k (1 + r) H2 (by omega) (by omega) S2 (o.trans o2)
theorem ok_sign {f : Addr} {fd : FuncData} (F : Fun K "_law_sign" "_law_sign" s_sign f fd) (T : Txt K mg) (G_pick : FnE P w K mg base CX0 3 "_law_pick" ["store", "things"] spPick) : FnOk P w K mg base CX0 4 f fd ["store"] spSign := by
  have sc := sc_sign
  obtain ⟨_, _, G_pick⟩ := G_pick
  refine F.ok sc (fun vs H Q E h => ?_) (fun cdv A outer s H vs Q E hr h => ?_)
  · obtain ⟨a, c0, rfl, _⟩ := h
    rfl
  · obtain ⟨a, c0, rfl, S, k⟩ := h
    refine ⟨_, (pss_cons (ps_set (i := 1) sc.nd rfl (Or.inl rfl) pe_str)
      (pss_one (ps_ret (fn G_pick (hr.mono (by decide)) (by rfl) pass0 (pa_cons (nm 0) (pa_cons (pe_op o_add (nm 1) pe_str) pa_nil)))))), ?_⟩
    refine ⟨by decide, a, c0, S, .inl ⟨_, rfl, by decide, by decide, fun c H' hc S' o => k c H' (sign_ok c hc) S' o⟩⟩
end
end K0
namespace K0
open PySem PySem.Spec PyProof.Rows L2 Bs
abbrev s_word : Stmt := top 35
theorem sc_word : FnScope ["store", "letters", "text", "longer", "k"] ["store"] (defScope s_word) := ⟨rfl, rfl, rfl, by decide +kernel, rfl, by decide +kernel, by decide +kernel⟩
def spWord : Sp := fun vs H Q _ => ∃ a c0, vs = [.ref a] ∧ StAt H a c0 ∧ ∀ (z : Str) H', z.length ≤ 8 → StAt H' a c0 → Grow a H H' → Q (.str z) H'
abbrev s_letters : Stmt := top 40
theorem sc_letters : FnScope ["store", "size", "k"] ["store", "size"] (defScope s_letters) := ⟨rfl, rfl, rfl, by decide +kernel, rfl, by decide +kernel, by decide +kernel⟩
def spLetters : Sp := fun vs H Q _ => ∃ (a c0 : Addr) (n : Int), vs = [.ref a, .int n] ∧ StAt H a c0 ∧ 1 ≤ n ∧ n ≤ 6 ∧ ∀ (z : Str) H', z.length ≤ 9 → okT z → StAt H' a c0 → Grow a H H' → Q (.str z) H'
abbrev s_lot : Stmt := top 37
theorem sc_lot : FnScope ["store", "size", "letters", "way", "bits", "text", "k"] ["store", "size"] (defScope s_lot) := ⟨rfl, rfl, rfl, by decide +kernel, rfl, by decide +kernel, by decide +kernel⟩
def spLot : Sp := fun vs H Q _ => ∃ (a c0 : Addr) (n : Int), vs = [.ref a, .int n] ∧ StAt H a c0 ∧ 1 ≤ n ∧ n ≤ 6 ∧ ∀ (z : Str) H', z.length ≤ 6 → okT z → StAt H' a c0 → Grow a H H' → Q (.str z) H'
section
variable {P : Program} {w : World} {K : PySem.W.Frag} {mg : Str → Option Value} {base : Heap}
theorem ok_word {f : Addr} {fd : FuncData} (F : Fun K "_law_word" "_law_word" s_word f fd) (T : Txt K mg) (G_take : FnE P w K mg base CX0 2 "_law_take" ["store", "limit"] spTake)
    (G_pick : FnE P w K mg base CX0 3 "_law_pick" ["store", "things"] spPick) : FnOk P w K mg base CX0 4 f fd ["store"] spWord := by
  have sc := sc_word
  obtain ⟨_, _, G_take⟩ := G_take
  obtain ⟨_, _, G_pick⟩ := G_pick
  refine F.ok sc (fun vs H Q E h => ?_) (fun cdv A outer s H vs Q E hr h => ?_)
  · obtain ⟨a, c0, rfl, _⟩ := h
    rfl
  · obtain ⟨a, c0, rfl, S, k⟩ := h
    refine ⟨_, (pss_cons (ps_set (i := 1) sc.nd rfl (Or.inl rfl) pe_str)
      (pss_cons (ps_set (i := 2) sc.nd rfl (Or.inl rfl) (fn G_pick (hr.mono (by decide)) (by rfl) pass0 (pa_cons (nm 0) (pa_cons (nm 1) pa_nil))))
      (pss_cons (ps_set (i := 3) sc.nd rfl (Or.inl rfl) (pe_ix x_any (pe_lst (pa_cons pe_int (pa_cons pe_int (pa_cons (fn G_take (hr.mono (by decide)) (by rfl) pass0 (pa_cons (nm 0) (pa_cons pe_int pa_nil))) pa_nil)))) (fn G_take (hr.mono (by decide)) (by rfl) pass0 (pa_cons (nm 0) (pa_cons pe_int pa_nil))) (fun _ _ => rfl)))
      (pss_cons (ps_for PassesOwn.never rfl (pi_range1 rfl T.range (pa_cons (nm 3) pa_nil)) (pg_name (i := 4) sc.nd rfl (Or.inl rfl)) (pss_one (ps_set (i := 2) sc.nd rfl (Or.inl rfl) (pe_op o_add (nm 2) (fn G_pick (hr.mono (by decide)) (by rfl) pass0 (pa_cons (nm 0) (pa_cons (pe_op o_add (nm 1) pe_str) pa_nil)))))))
      (pss_one (ps_ret (nm 2))))))), ?_⟩
    refine ⟨a, c0, S, .inl ⟨_, rfl, by decide, by decide, fun c H1 _ S1 o1 => ?_⟩⟩
    refine ⟨a, c0, 8, rfl, S1, by decide, fun t H2 t0 t1 S2 o2 => ⟨(by show 3 ≤ sizeLine; decide), fun l hl => ?_⟩⟩
    refine ⟨a, c0, 3, rfl, S2.new hl, by decide, fun r H3 r0 r1 S3 o3 => ?_⟩
    have hla : l ≠ a := fun e => by obtain ⟨xs, e2⟩ := S2.lst; rw [← e, hl] at e2; cases e2
    have h3 : H3 l = some (.lst [.int 0, .int 7, .int t]) := (o3 l hla).trans upd_same
    have r1' : r < 3 := r1
    have t1' : t < 8 := t1
    have g3 : Grow a H H3 := ((o1.grow).trans o2.grow).trans ((Grow.new hl).trans o3.grow)
    have key : ∃ L : Int, 0 ≤ L ∧ L ≤ 7 ∧ atI [V.int 0, .int 7, .int t] r = some (.int L) := by
      have : r = 0 ∨ r = 1 ∨ r = 2 := by omega
      rcases this with rfl | rfl | rfl
      · exact ⟨0, by decide, by decide, rfl⟩
      · exact ⟨7, by decide, by decide, rfl⟩
      · exact ⟨t, by omega, by omega, rfl⟩
    obtain ⟨L, h0, h7, e⟩ := key
    refine ⟨_, _, .inl (SqL.of h3), e, ?_⟩
    · refine ⟨L, rfl, by omega, by omega, for_range (lo := 0) (n := L.toNat) (fun i σ H' => StAt H' a c0 ∧ Grow a H H' ∧ ∃ (v : Option V) (z : Str), z.length = i + 1 ∧ σ = [some (.ref a), some (.str "abcdefghijklmnopqrstuvwxyz"), some (.str z), some (.int L), v]) ⟨S3, g3, none, one c, rfl, rfl⟩ ?_ ?_⟩
      · rintro i σ H' hi ⟨S4, g4, v, z, hz, rfl⟩
        refine ⟨by decide, a, c0, S4, .inl ⟨_, rfl, by decide, by decide, fun d H5 _ S5 o5 => ⟨?_, S5, g4.trans o5.grow, _, _, ?_, rfl⟩⟩⟩
        · have : (Str.length ⟨#[d]⟩) = 1 := rfl
          have : sizeLine = 16777216 := rfl
          omega
        · rw [app_len, hz]; rfl
      · rintro σ H' ⟨S4, g4, v, z, hz, rfl⟩
        exact k z H' (by omega) S4 g4
theorem ok_letters {f : Addr} {fd : FuncData} (F : Fun K "_law_letters" "_law_letters" s_letters f fd) (T : Txt K mg) (G_count : FnE P w K mg base CX0 3 "_law_count" ["store", "most"] spCount)
    (G_pick : FnE P w K mg base CX0 3 "_law_pick" ["store", "things"] spPick) : FnOk P w K mg base CX0 4 f fd ["store", "size"] spLetters := by
  have sc := sc_letters
  let st := s_letters
  let N : List Str := ["store", "size", "k"]
  obtain ⟨_, _, G_count⟩ := G_count
  obtain ⟨_, _, G_pick⟩ := G_pick
  refine F.ok sc (fun vs H Q E h => ?_) (fun cdv A outer s H vs Q E hr h => ?_)
  · obtain ⟨a, c0, n, rfl, _⟩ := h
    rfl
  · obtain ⟨a, c0, n, rfl, S, n1, n6, k⟩ := h
    refine ⟨_, (pss_one (ps_ret (pe_join pe_str (pe_lc (own := [("k", 2)]) rfl sc.nd (pi_range1 rfl T.range (pa_cons (fn G_count (hr.mono (by decide)) (by rfl) pass0 (pa_cons (nm 0) (pa_cons pe_int pa_nil))) pa_nil)) (blkOk_by (N := N) (sc := defScope st) (by decide +kernel)) (fun _ _ _ _ _ => (pg_name (i := 2) sc.nd rfl (Or.inl rfl))) (fun _ _ _ _ _ => pts_nil) (fun _ _ _ _ _ => (fn G_pick (hr.mono (by decide)) (by rfl) pass0 (pa_cons (nm 0) (pa_cons (pe_slice (sl_anyK K rfl) pe_str po_none (po (nm 1))) pa_nil)))))))), ?_⟩
    refine ⟨⟨_, rfl⟩, a, c0, 9, rfl, S, by decide, by decide, fun r H1 r0 r9 S1 o1 => ⟨r, rfl, by omega, by omega, fun D hD => ?_⟩⟩
    have hDa : D ≠ a := fun e => by obtain ⟨xs, e2⟩ := S1.lst; rw [← e, hD] at e2; cases e2
    have hDc : D ≠ c0 := fun e => by obtain ⟨xs, e2⟩ := S1.cst; rw [← e, hD] at e2; cases e2
    refine lc_range (lo := 0) (n := r.toNat) (fun i H' => StAt H' a c0 ∧ Grow a H1 H' ∧ ∃ cs : List Nat, cs.length = i ∧ (∀ c ∈ cs, c < 1114112) ∧ H' D = some (.lst ((cs.map one).map V.str))) ⟨S1.new hD, Grow.new hD, [], rfl, (fun c hc => nomatch hc), upd_same⟩ ?_ ?_
    · rintro i H' hi ⟨S2, g2, cs, hcs, hok, hD2⟩
      refine ⟨rfl, ⟨(by decide), a, c0, S2, .inl ⟨_, rfl, ?_, ?_, fun c H3 hc S3 o3 => ?_⟩⟩⟩
      · show 0 < (below n).length
        rw [below_len n1 n6]; omega
      · show (below n).length ≤ 16777216
        rw [below_len n1 n6]; omega
      · refine ⟨_, (o3 D hDa).trans hD2, (by have : sizeLine = 16777216 := rfl; rw [List.length_map, List.length_map]; omega), S3.put hDa hDc, (g2.trans o3.grow).put hD, cs ++ [c], by simp [hcs], (fun d hd => (List.mem_append.mp hd).elim (hok d) fun e => by rw [List.mem_singleton.mp e]; exact okT_cut okT_abc c hc), by rw [upd_same]; simp⟩
    · rintro H' ⟨S2, g2, cs, hcs, hok, hD2⟩
      refine ⟨_, D, cs.map one, rfl, rfl, .inl (SqL.of hD2), ?_, ?_⟩
      · rw [sum_ones, List.length_map]
        show cs.length + cs.length * 0 ≤ 16777216
        omega
      · rw [join_ones rfl]
        exact k _ H' (by rw [tx_len]; omega) (okT_tx hok) S2 (o1.grow.trans g2)
theorem ok_lot {f : Addr} {fd : FuncData} (F : Fun K "_law_lot" "_law_lot" s_lot f fd) (T : Txt K mg) (G_take : FnE P w K mg base CX0 2 "_law_take" ["store", "limit"] spTake)
    (G_pick : FnE P w K mg base CX0 3 "_law_pick" ["store", "things"] spPick) : FnOk P w K mg base CX0 4 f fd ["store", "size"] spLot := by
  have sc := sc_lot
  obtain ⟨_, _, G_take⟩ := G_take
  obtain ⟨_, _, G_pick⟩ := G_pick
  refine F.ok sc (fun vs H Q E h => ?_) (fun cdv A outer s H vs Q E hr h => ?_)
  · obtain ⟨a, c0, n, rfl, _⟩ := h
    rfl
  · obtain ⟨a, c0, n, rfl, S, n1, n6, k⟩ := h
    refine ⟨_, (pss_cons (ps_set (i := 2) sc.nd rfl (Or.inl rfl) (pe_slice sl_any pe_str po_none (po (nm 1))))
      (pss_cons (ps_set (i := 3) sc.nd rfl (Or.inl rfl) (fn G_take (hr.mono (by decide)) (by rfl) pass0 (pa_cons (nm 0) (pa_cons pe_int pa_nil))))
      (pss_cons (ps_if (cmpT (o_eq hr) (nm 3) pe_int (nomark _)) (pss_one (ps_ret pe_str)) pss_nil)
      (pss_cons (ps_if (cmpT (o_eq hr) (nm 3) pe_int (nomark _)) (pss_one (ps_ret (nm 2))) pss_nil)
      (pss_cons (ps_if (cmpT (o_eq hr) (nm 3) pe_int (nomark _)) (pss_one (ps_ret (fn G_pick (hr.mono (by decide)) (by rfl) pass0 (pa_cons (nm 0) (pa_cons (nm 2) pa_nil))))) pss_nil)
      (pss_cons (ps_set (i := 4) sc.nd rfl (Or.inl rfl) (fn G_take (hr.mono (by decide)) (by rfl) pass0 (pa_cons (nm 0) (pa_cons pe_int pa_nil))))
      (pss_cons (ps_set (i := 5) sc.nd rfl (Or.inl rfl) pe_str)
      (pss_cons (ps_for PassesOwn.never rfl (pi_range1 rfl T.range (pa_cons (pe_callB b_len (by rfl) T.len boot_len (pa_cons (nm 2) pa_nil)) pa_nil)) (pg_name (i := 6) sc.nd rfl (Or.inl rfl)) (pss_one (ps_if (cmpT (o_eq hr) (pe_op o_mod (pe_callTy b_int (by rfl) T.int (by decide +kernel) (pa_cons (pe_op o_fdiv (nm 4) (pe_ix x_any (pe_lst (pa_cons pe_int (pa_cons pe_int (pa_cons pe_int (pa_cons pe_int (pa_cons pe_int (pa_cons pe_int pa_nil))))))) (nm 6) (fun _ _ => rfl))) pa_nil)) pe_int) pe_int (nomark _)) (pss_one (ps_set (i := 5) sc.nd rfl (Or.inl rfl) (pe_op o_add (nm 5) (pe_ix x_any (nm 2) (nm 6) (fun _ _ => rfl))))) pss_nil)))
      (pss_one (ps_ret (nm 5))))))))))), ?_⟩
    have bl := below_len n1 n6
    have b6 : (below n).length ≤ 6 := by omega
    have b0 : 0 < (below n).length := by omega
    refine ⟨by decide, a, c0, 6, rfl, S, by decide, fun r H1 _ _ S1 o1 => ?_⟩
    refine ⟨rfl, ite2 (fun _ => k _ H1 (by decide) (fun c hc => absurd hc (by decide +revert)) S1 o1.grow) (fun _ => ?_)⟩
    refine ⟨rfl, ite2 (fun _ => k _ H1 b6 (okT_cut okT_abc) S1 o1.grow) (fun _ => ?_)⟩
    refine ⟨rfl, ite2 (fun _ => ?_) (fun _ => ?_)⟩
    · exact ⟨a, c0, S1, .inl ⟨_, rfl, b0, (by show (below n).length ≤ 16777216; omega), fun c H2 hc S2 o2 => k _ H2 (by show 1 ≤ 6; decide) (okT_one (okT_cut okT_abc c hc)) S2 (o1.grow.trans o2.grow)⟩⟩
    · refine ⟨a, c0, 64, rfl, S1, by decide, fun bits H2 b1 b2 S2 o2 => ?_⟩
      have b2' : bits < 64 := b2
      refine ⟨by show (below n).length ≤ 16777216; omega, (below n).length, rfl, by omega, by omega, for_range (lo := 0) (n := (below n).length) (fun i σ H' => StAt H' a c0 ∧ Grow a H H' ∧ ∃ (v : Option V) (z : Str), z.length ≤ i ∧ okT z ∧ σ = [some (.ref a), some (.int n), some (.str (below n)), some (.int r), some (.int bits), some (.str z), v]) ⟨S2, o1.grow.trans o2.grow, none, _, (by decide : (Str.ofString "").length ≤ 0), (fun c hc => absurd hc (by decide +revert)), rfl⟩ ?_ ?_⟩
      · rintro i σ H' hi ⟨S3, g3, v, z, hz, hok, rfl⟩
        refine ⟨by show 6 ≤ sizeLine; decide, fun l hl => ?_⟩
        have key : ∃ d : Int, atI [V.int 1, .int 2, .int 4, .int 8, .int 16, .int 32] (0 + (i : Int)) = some (.int d) ∧ 0 < d ∧ d < 2 ^ 62 := by
          have h6 : i = 0 ∨ i = 1 ∨ i = 2 ∨ i = 3 ∨ i = 4 ∨ i = 5 := by omega
          rcases h6 with rfl | rfl | rfl | rfl | rfl | rfl <;> exact ⟨_, rfl, by decide, by decide⟩
        obtain ⟨d, e, d0, d1⟩ := key
        refine ⟨_, _, .inl (SqL.of upd_same), e, ⟨⟨d0, log62 (by omega)⟩, (by show (0 : Int) < 2; decide), rfl, ite2 (fun _ => ?_) (fun _ => ?_)⟩⟩
        · obtain ⟨hlt, e2⟩ := atI_nat (xs := (below n).cps.toList) (r := 0 + (i : Int)) (by omega) (by rw [← len_cps]; omega)
          refine ⟨by show (below n).length ≤ 16777216; omega, _, e2, ⟨?_, S3.new hl, g3.trans (Grow.new hl), _, _, ?_, okT_app hok (okT_one (okT_cut okT_abc _ (List.getElem_mem hlt))), rfl⟩⟩
          · show z.length + 1 ≤ 16777216
            omega
          · rw [app_len]
            show z.length + 1 ≤ i + 1
            omega
        · exact ⟨S3.new hl, g3.trans (Grow.new hl), _, z, by omega, hok, rfl⟩
      · rintro σ H' ⟨S3, g3, v, z, hz, hok, rfl⟩
        exact k z H' (by omega) hok S3 g3
end
end K0
namespace K0
open PySem PySem.Spec PyProof.Rows L2 Bs
abbrev s_badw : Stmt := top 36
theorem sc_badw : FnScope ["store", "wrong"] ["store"] (defScope s_badw) := ⟨rfl, rfl, rfl, by decide +kernel, rfl, by decide +kernel, by decide +kernel⟩
def spBadW : Sp := fun vs H Q _ => ∃ a c0, vs = [.ref a] ∧ StAt H a c0 ∧ ∀ v H', Jk H' v → Sh H' v → badW v = true → StAt H' a c0 → Grow a H H' → Q v H'
abbrev s_bads : Stmt := top 39
theorem sc_badsz : FnScope ["store"] ["store"] (defScope s_bads) := ⟨rfl, rfl, rfl, by decide +kernel, rfl, by decide +kernel, by decide +kernel⟩
def spBadS : Sp := fun vs H Q _ => ∃ a c0, vs = [.ref a] ∧ StAt H a c0 ∧ ∀ v H', Jk H' v → Sh H' v → badS v = true → StAt H' a c0 → Grow a H H' → Q v H'
abbrev s_badl : Stmt := top 38
theorem sc_badl : FnScope ["store", "size", "beyond", "wrong"] ["store", "size"] (defScope s_badl) := ⟨rfl, rfl, rfl, by decide +kernel, rfl, by decide +kernel, by decide +kernel⟩
def spBadL : Sp := fun vs H Q _ => ∃ (a c0 : Addr) (n : Int), vs = [.ref a, .int n] ∧ StAt H a c0 ∧ 1 ≤ n ∧ n ≤ 6 ∧ ∀ v H', Jk H' v → Sh H' v → badL n v = true → StAt H' a c0 → Grow a H H' → Q v H'
/-- what is laid stays -/
theorem Same.at_ {H H' : Hp} {p : Addr} {o : HO} (s : Same (upd H p o) H') : H' p = some o := s p o upd_same
theorem Same.tr {H H1 H2 : Hp} (a : Same H H1) (b : Same H1 H2) : Same H H2 := fun p o e => b p o (a p o e)
theorem Same.grow {H H' : Hp} {a : Addr} (s : Same H H') : Grow a H H' := fun b o _ e => s b o e
theorem StAt.same {H H' : Hp} {a c : Addr} (S : StAt H a c) (s : Same H H') : StAt H' a c := by
  obtain ⟨cells, p, w, x, n, t, sd, S⟩ := S
  exact ⟨cells, p, w, x, n, t, sd, s _ _ S.at_, s _ _ S.cl, S.ne, S.pp⟩
theorem StAt.na {H : Hp} {a c l : Addr} (S : StAt H a c) (h : H l = none) : l ≠ a := fun e => by
  obtain ⟨xs, e2⟩ := S.lst
  rw [← e, h] at e2
  cases e2
section
variable {P : Program} {w : World} {K : PySem.W.Frag} {mg : Str → Option Value} {base : Heap}
theorem ok_badw {f : Addr} {fd : FuncData} (F : Fun K "_law_bad_word" "_law_bad_word" s_badw f fd) (T : Txt K mg)
    (G_pick : FnE P w K mg base CX0 3 "_law_pick" ["store", "things"] spPick) : FnOk P w K mg base CX0 4 f fd ["store"] spBadW := by
  have sc := sc_badw
  obtain ⟨_, _, G_pick⟩ := G_pick
  refine F.ok sc (fun vs H Q E h => ?_) (fun cdv A outer s H vs Q E hr h => ?_)
  · obtain ⟨a, c0, rfl, _⟩ := h
    rfl
  · obtain ⟨a, c0, rfl, S, k⟩ := h
    refine ⟨_, (pss_cons (ps_set (i := 1) sc.nd rfl (Or.inl rfl) (pe_lst (pa_cons pe_str (pa_cons pe_str (pa_cons pe_str (pa_cons pe_str (pa_cons pe_str (pa_cons pe_str (pa_cons pe_str (pa_cons pe_str (pa_cons pe_str (pa_cons pe_str (pa_cons pe_str (pa_cons pe_str (pa_cons pe_str (pa_cons pe_str (pa_cons pe_str pa_nil)))))))))))))))))
      (pss_cons (ps_set (i := 1) sc.nd rfl (Or.inl rfl) (pe_op o_add (nm 1) (pe_lst (pa_cons pe_non (pa_cons pe_bl (pa_cons pe_bl (pa_cons pe_int (pa_cons pe_int (pa_cons (pe_un u_neg pe_int) (pa_cons (pe_tup pa_nil) (pa_cons (pe_tup (pa_cons pe_str pa_nil)) (pa_cons (pe_lstN pa_nil) (pa_cons (pe_lstN (pa_cons pe_str pa_nil)) (pa_cons pe_dnewK pa_nil))))))))))))))
      (pss_one (ps_ret (fn G_pick (hr.mono (by decide)) (by rfl) pass0 (pa_cons (nm 0) (pa_cons (nm 1) pa_nil))))))), ?_⟩
    have c15 : (15 : Nat) ≤ sizeLine := by decide
    refine ⟨c15, fun l1 h1 => ?_⟩
    refine ⟨by show 0 ≤ sizeLine; decide, fun t0 ht0 => ⟨by show 1 ≤ sizeLine; decide, fun t1 ht1 => ⟨by show 0 ≤ sizeLine; decide, fun m0 hm0 km0 => ⟨by show 1 ≤ sizeLine; decide, fun m1 hm1 km1 => ?_⟩⟩⟩⟩
    intro d hd
    refine ⟨by show 11 ≤ sizeLine; decide, fun l2 hl2 => ?_⟩
    have g2 := Same.up (o := .lst [.non, .bl true, .bl false, .int 0, .int 1, .int (-1), .ref t0, .ref t1, .ref m0, .ref m1, .ref d]) hl2
    have gd := Same.tr (Same.up (o := .dK []) hd) g2
    have gm1 := Same.tr (Same.up (o := .lst [.str "a"]) hm1) gd
    have gm0 := Same.tr (Same.up (o := .lst []) hm0) gm1
    have gt1 := Same.tr (Same.up (o := .tup [.str "a"]) ht1) gm0
    have gt0 := Same.tr (Same.up (o := .tup []) ht0) gt1
    have g1 := Same.tr (Same.up (o := .lst [.str "", .str "A", .str "aB", .str "1", .str "1a", .str "a b", .str " a", .str "a ", .str "a_", .str "-", .str "a-", .str "abcdefghi", .str "a\n", .str "\n", .str "?"]) h1) gt0
    refine ⟨_, _, Same.at_ gt0, upd_same, by show 26 ≤ sizeLine; decide, fun l3 hl3 => ?_⟩
    have g3 := Same.up (o := .lst ([.str "", .str "A", .str "aB", .str "1", .str "1a", .str "a b", .str " a", .str "a ", .str "a_", .str "-", .str "a-", .str "abcdefghi", .str "a\n", .str "\n", .str "?"] ++ [.non, .bl true, .bl false, .int 0, .int 1, .int (-1), .ref t0, .ref t1, .ref m0, .ref m1, .ref d])) hl3
    have gH := Same.tr g1 g3
    have SH := S.same gH
    refine ⟨a, c0, SH, .inr ⟨l3, _, rfl, upd_same, (S.same g1).na hl3, by show 0 < 26; decide, by show 26 ≤ sizeLine; decide, fun x H' hx S' o' => ?_⟩⟩
    have n0 : ∀ {H1 : Hp} {p : Addr}, Same (upd H l1 (.lst [.str "", .str "A", .str "aB", .str "1", .str "1a", .str "a b", .str " a", .str "a ", .str "a_", .str "-", .str "a-", .str "abcdefghi", .str "a\n", .str "\n", .str "?"])) H1 → H1 p = none → p ≠ a := fun g n => ((S.same (Same.up h1)).same g).na n
    have s0 := Same.up (o := .tup []) ht0
    have s1 := Same.tr s0 (Same.up (o := .tup [.str "a"]) ht1)
    have s2 := Same.tr s1 (Same.up (o := .lst []) hm0)
    have s3 := Same.tr s2 (Same.up (o := .lst [.str "a"]) hm1)
    have et0 := (o' t0 (n0 (fun _ _ e => e) ht0)).trans (g3 _ _ (Same.at_ gt1))
    have et1 := (o' t1 (n0 s0 ht1)).trans (g3 _ _ (Same.at_ gm0))
    have em0 := (o' m0 (n0 s1 hm0)).trans (g3 _ _ (Same.at_ gm1))
    have em1 := (o' m1 (n0 s2 hm1)).trans (g3 _ _ (Same.at_ gd))
    have ed := (o' d (n0 s3 hd)).trans (g3 _ _ (Same.at_ g2))
    have all : Jk H' x ∧ Sh H' x ∧ badW x = true := by
      simp only [List.cons_append, List.nil_append] at hx
      repeat' (rcases List.mem_cons.mp hx with rfl | hx; (first | exact ⟨rfl, sh_sc (by decide +kernel), by decide +kernel⟩ | exact ⟨.inl ⟨_, em0, rfl, by decide⟩, sh_lst em0 km0 (by decide +kernel), rfl⟩ | exact ⟨.inl ⟨_, em1, rfl, by decide⟩, sh_lst em1 km1 (by decide +kernel), rfl⟩ | exact ⟨.inr (.inl ⟨_, et0, rfl, by decide⟩), sh_tup et0 (by decide +kernel), rfl⟩ | exact ⟨.inr (.inl ⟨_, et1, rfl, by decide⟩), sh_tup et1 (by decide +kernel), rfl⟩ | exact ⟨.inr (.inr (.inl ed)), sh_d0 ed, rfl⟩))
      cases hx
    exact k x H' all.1 all.2.1 all.2.2 S' ((Same.grow gH).trans o'.grow)
theorem ok_badsz {f : Addr} {fd : FuncData} (F : Fun K "_law_bad_size" "_law_bad_size" s_bads f fd) (T : Txt K mg)
    (G_pick : FnE P w K mg base CX0 3 "_law_pick" ["store", "things"] spPick) : FnOk P w K mg base CX0 4 f fd ["store"] spBadS := by
  have sc := sc_badsz
  obtain ⟨_, _, G_pick⟩ := G_pick
  refine F.ok sc (fun vs H Q E h => ?_) (fun cdv A outer s H vs Q E hr h => ?_)
  · obtain ⟨a, c0, rfl, _⟩ := h
    rfl
  · obtain ⟨a, c0, rfl, S, k⟩ := h
    refine ⟨_, (pss_one (ps_ret (fn G_pick (hr.mono (by decide)) (by rfl) pass0 (pa_cons (nm 0) (pa_cons (pe_lst (pa_cons pe_int (pa_cons pe_int (pa_cons (pe_un u_neg pe_int) (pa_cons pe_int (pa_cons (pe_op o_pow pe_int pe_int) (pa_cons pe_bl (pa_cons pe_bl (pa_cons pe_non (pa_cons pe_str (pa_cons pe_str (pa_cons (pe_tup (pa_cons pe_int pa_nil)) (pa_cons (pe_lstN (pa_cons pe_int pa_nil)) (pa_cons pe_dnewK pa_nil)))))))))))))) pa_nil))))), ?_⟩
    refine ⟨⟨by decide, by decide, by decide⟩, ⟨by show 1 ≤ sizeLine; decide, fun t0 ht0 => ⟨by show 1 ≤ sizeLine; decide, fun m0 hm0 km0 => ?_⟩⟩⟩
    intro d hd
    refine ⟨by show 13 ≤ sizeLine; decide, fun l2 hl2 => ?_⟩
    have g2 := Same.up (o := .lst [.int 0, .int 7, .int (-1), .int 8, .int (10 ^ 12), .bl true, .bl false, .non, .str "3", .str "", .ref t0, .ref m0, .ref d]) hl2
    have gd := Same.tr (Same.up (o := .dK []) hd) g2
    have gm0 := Same.tr (Same.up (o := .lst [.int 3]) hm0) gd
    have gt0 := Same.tr (Same.up (o := .tup [.int 3]) ht0) gm0
    refine ⟨a, c0, S.same gt0, .inr ⟨l2, _, rfl, upd_same, ?_, by show 0 < 13; decide, by show 13 ≤ sizeLine; decide, fun x H' hx S' o' => ?_⟩⟩
    · exact (((S.new ht0).new hm0).new hd).na hl2
    have et0 := (o' t0 (S.na ht0)).trans (Same.at_ gm0)
    have em0 := (o' m0 ((S.new ht0).na hm0)).trans (Same.at_ gd)
    have ed := (o' d (((S.new ht0).new hm0).na hd)).trans (Same.at_ g2)
    have all : Jk H' x ∧ Sh H' x ∧ badS x = true := by
      repeat' (rcases List.mem_cons.mp hx with rfl | hx; (first | exact ⟨rfl, sh_sc (by decide +kernel), by decide +kernel⟩ | exact ⟨.inl ⟨_, em0, rfl, by decide⟩, sh_lst em0 km0 (by decide +kernel), rfl⟩ | exact ⟨.inr (.inl ⟨_, et0, rfl, by decide⟩), sh_tup et0 (by decide +kernel), rfl⟩ | exact ⟨.inr (.inr (.inl ed)), sh_d0 ed, rfl⟩))
      cases hx
    exact k x H' all.1 all.2.1 all.2.2 S' ((Same.grow gt0).trans o'.grow)
def gch : Str := "abcdefg"
theorem beyond_at {n : Int} (h1 : 1 ≤ n) (h2 : n ≤ 6) : atI gch.cps.toList n = some (97 + n.toNat) := by
  have : n = 1 ∨ n = 2 ∨ n = 3 ∨ n = 4 ∨ n = 5 ∨ n = 6 := by omega
  rcases this with rfl | rfl | rfl | rfl | rfl | rfl <;> decide +kernel
theorem bad_all {n : Int} (h1 : 1 ≤ n) (h2 : n ≤ 6) : ∀ z ∈ [one (97 + n.toNat), "aa", "A", " ", "-", "a ", Str.ofString "a" ++ one (97 + n.toNat), "a\n", "?", "abcdefg", "0", "ba", "abb", "aab", "b a"], isL n z = false := by
  have : n = 1 ∨ n = 2 ∨ n = 3 ∨ n = 4 ∨ n = 5 ∨ n = 6 := by omega
  rcases this with rfl | rfl | rfl | rfl | rfl | rfl <;> decide +kernel
theorem beyond_show {n : Int} (h1 : 1 ≤ n) (h2 : n ≤ 6) : okS (.str (one (97 + n.toNat))) = true ∧ okS (.str (Str.ofString "a" ++ one (97 + n.toNat))) = true := by
  have : n = 1 ∨ n = 2 ∨ n = 3 ∨ n = 4 ∨ n = 5 ∨ n = 6 := by omega
  rcases this with rfl | rfl | rfl | rfl | rfl | rfl <;> decide +kernel
theorem badL_of {n : Int} {z : Str} (h : isL n z = false) : badL n (.str z) = true := by
  show (!isL n z) = true
  rw [h]; rfl
theorem ok_badl {f : Addr} {fd : FuncData} (F : Fun K "_law_bad_lot" "_law_bad_lot" s_badl f fd) (T : Txt K mg)
    (G_pick : FnE P w K mg base CX0 3 "_law_pick" ["store", "things"] spPick) : FnOk P w K mg base CX0 4 f fd ["store", "size"] spBadL := by
  have sc := sc_badl
  obtain ⟨_, _, G_pick⟩ := G_pick
  refine F.ok sc (fun vs H Q E h => ?_) (fun cdv A outer s H vs Q E hr h => ?_)
  · obtain ⟨a, c0, n, rfl, _⟩ := h
    rfl
  · obtain ⟨a, c0, n, rfl, S, n1, n6, k⟩ := h
    refine ⟨_, (pss_cons (ps_set (i := 2) sc.nd rfl (Or.inl rfl) (pe_ix x_any pe_str (nm 1) (fun _ _ => rfl)))
      (pss_cons (ps_set (i := 3) sc.nd rfl (Or.inl rfl) (pe_lst (pa_cons (nm 2) (pa_cons pe_str (pa_cons pe_str (pa_cons pe_str (pa_cons pe_str (pa_cons pe_str (pa_cons (pe_op o_add pe_str (nm 2)) (pa_cons pe_str (pa_cons pe_str (pa_cons pe_str (pa_cons pe_str pa_nil)))))))))))))
      (pss_cons (ps_set (i := 3) sc.nd rfl (Or.inl rfl) (pe_op o_add (nm 3) (pe_lst (pa_cons pe_non (pa_cons pe_bl (pa_cons pe_bl (pa_cons pe_int (pa_cons pe_int (pa_cons (pe_tup pa_nil) (pa_cons (pe_tup (pa_cons pe_str pa_nil)) (pa_cons (pe_lstN pa_nil) (pa_cons (pe_lstN (pa_cons pe_str pa_nil)) (pa_cons pe_dnewK pa_nil)))))))))))))
      (pss_cons (ps_if (cmpT o_gt (nm 1) pe_int (nomark _)) (pss_one (ps_set (i := 3) sc.nd rfl (Or.inl rfl) (pe_op o_add (nm 3) (pe_lst (pa_cons pe_str (pa_cons pe_str (pa_cons pe_str (pa_cons pe_str (pa_cons (pe_tup (pa_cons pe_str (pa_cons pe_str pa_nil))) (pa_cons (pe_lstN (pa_cons pe_str (pa_cons pe_str pa_nil))) pa_nil)))))))))) pss_nil)
      (pss_one (ps_ret (fn G_pick (hr.mono (by decide)) (by rfl) pass0 (pa_cons (nm 0) (pa_cons (nm 3) pa_nil))))))))), ?_⟩
    refine ⟨by decide, _, beyond_at n1 n6, ?_⟩
    have ba := bad_all n1 n6
    obtain ⟨sc1, sc2⟩ := beyond_show n1 n6
    generalize 97 + n.toNat = cb at ba sc1 sc2 ⊢
    refine ⟨by show 1 + 1 ≤ sizeLine; decide, by show 11 ≤ sizeLine; decide, fun l1 h1 => ?_⟩
    refine ⟨by show 0 ≤ sizeLine; decide, fun t0 ht0 => ⟨by show 1 ≤ sizeLine; decide, fun t1 ht1 => ⟨by show 0 ≤ sizeLine; decide, fun m0 hm0 km0 => ⟨by show 1 ≤ sizeLine; decide, fun m1 hm1 km1 => ?_⟩⟩⟩⟩
    intro d hd
    refine ⟨by show 10 ≤ sizeLine; decide, fun l2 hl2 => ?_⟩
    have g2 := Same.up (o := .lst [.non, .bl true, .bl false, .int 0, .int 1, .ref t0, .ref t1, .ref m0, .ref m1, .ref d]) hl2
    have gd := Same.tr (Same.up (o := .dK []) hd) g2
    have gm1 := Same.tr (Same.up (o := .lst [.str "a"]) hm1) gd
    have gm0 := Same.tr (Same.up (o := .lst []) hm0) gm1
    have gt1 := Same.tr (Same.up (o := .tup [.str "a"]) ht1) gm0
    have gt0 := Same.tr (Same.up (o := .tup []) ht0) gt1
    have g1 := Same.tr (Same.up (o := .lst [.str (one cb), .str "aa", .str "A", .str " ", .str "-", .str "a ", .str (Str.ofString "a" ++ one cb), .str "a\n", .str "?", .str "abcdefg", .str "0"]) h1) gt0
    refine ⟨_, _, Same.at_ gt0, upd_same, by show 21 ≤ sizeLine; decide, fun l3 hl3 => ?_⟩
    have nl3 : l3 ≠ a := (S.same g1).na hl3
    have nt0 := (S.new h1).na ht0
    have nt1 := ((S.new h1).new ht0).na ht1
    have nm0 := (((S.new h1).new ht0).new ht1).na hm0
    have nm1 := ((((S.new h1).new ht0).new ht1).new hm0).na hm1
    have nd := (((((S.new h1).new ht0).new ht1).new hm0).new hm1).na hd
    have fin : ∀ (Hx H' : Hp) (x : V), Hx t0 = some (.tup []) → Hx t1 = some (.tup [.str "a"]) → Hx m0 = some (.lst []) → Hx m1 = some (.lst [.str "a"]) → Hx d = some (.dK []) → Only a Hx H' →
        x ∈ ([.str (one cb), .str "aa", .str "A", .str " ", .str "-", .str "a ", .str (Str.ofString "a" ++ one cb), .str "a\n", .str "?", .str "abcdefg", .str "0"] ++ [.non, .bl true, .bl false, .int 0, .int 1, .ref t0, .ref t1, .ref m0, .ref m1, .ref d] : List V) → Jk H' x ∧ Sh H' x ∧ badL n x = true := by
      intro Hx H' x et0 et1 em0 em1 ed o' hx
      replace et0 := (o' t0 nt0).trans et0
      replace et1 := (o' t1 nt1).trans et1
      replace em0 := (o' m0 nm0).trans em0
      replace em1 := (o' m1 nm1).trans em1
      replace ed := (o' d nd).trans ed
      simp only [List.cons_append, List.nil_append] at hx
      repeat' (rcases List.mem_cons.mp hx with rfl | hx; (first | exact ⟨rfl, sh_sc (by decide +kernel), rfl⟩ | exact ⟨rfl, sh_sc (by decide +kernel), badL_of (ba _ (by simp))⟩ | exact ⟨rfl, sh_sc sc1, badL_of (ba _ (by simp))⟩ | exact ⟨rfl, sh_sc sc2, badL_of (ba _ (by simp))⟩ | exact ⟨.inl ⟨_, em0, rfl, by decide⟩, sh_lst em0 km0 (by decide +kernel), rfl⟩ | exact ⟨.inl ⟨_, em1, rfl, by decide⟩, sh_lst em1 km1 (by decide +kernel), rfl⟩ | exact ⟨.inr (.inl ⟨_, et0, rfl, by decide⟩), sh_tup et0 (by decide +kernel), rfl⟩ | exact ⟨.inr (.inl ⟨_, et1, rfl, by decide⟩), sh_tup et1 (by decide +kernel), rfl⟩ | exact ⟨.inr (.inr (.inl ed)), sh_d0 ed, rfl⟩))
      cases hx
    have g3 := Same.up (o := .lst ([.str (one cb), .str "aa", .str "A", .str " ", .str "-", .str "a ", .str (Str.ofString "a" ++ one cb), .str "a\n", .str "?", .str "abcdefg", .str "0"] ++ [.non, .bl true, .bl false, .int 0, .int 1, .ref t0, .ref t1, .ref m0, .ref m1, .ref d])) hl3
    have et0 := g3 _ _ (Same.at_ gt1)
    have et1 := g3 _ _ (Same.at_ gm0)
    have em0 := g3 _ _ (Same.at_ gm1)
    have em1 := g3 _ _ (Same.at_ gd)
    have ed := g3 _ _ (Same.at_ g2)
    have S1 := S.same g1
    have S3 := S1.new (o := .lst ([.str (one cb), .str "aa", .str "A", .str " ", .str "-", .str "a ", .str (Str.ofString "a" ++ one cb), .str "a\n", .str "?", .str "abcdefg", .str "0"] ++ [.non, .bl true, .bl false, .int 0, .int 1, .ref t0, .ref t1, .ref m0, .ref m1, .ref d])) hl3
    refine ite2 (fun _ => ?_) (fun _ => ?_)
    · refine ⟨by show 2 ≤ sizeLine; decide, fun u1 hu1 => ⟨by show 2 ≤ sizeLine; decide, fun u2 hu2 ku2 => ⟨by show 6 ≤ sizeLine; decide, fun l4 hl4 => ?_⟩⟩⟩
      have q4 := Same.up (o := .lst [.str "ba", .str "abb", .str "aab", .str "b a", .ref u1, .ref u2]) hl4
      have qu2 := Same.tr (Same.up (o := .lst [.str "a", .str "b"]) hu2) q4
      have qu1 := Same.tr (Same.up (o := .tup [.str "a", .str "b"]) hu1) qu2
      refine ⟨_, _, qu1 _ _ upd_same, upd_same, by show 27 ≤ sizeLine; decide, fun l5 hl5 => ?_⟩
      have q5 := Same.up (o := .lst (([.str (one cb), .str "aa", .str "A", .str " ", .str "-", .str "a ", .str (Str.ofString "a" ++ one cb), .str "a\n", .str "?", .str "abcdefg", .str "0"] ++ [.non, .bl true, .bl false, .int 0, .int 1, .ref t0, .ref t1, .ref m0, .ref m1, .ref d]) ++ [.str "ba", .str "abb", .str "aab", .str "b a", .ref u1, .ref u2])) hl5
      have q35 := Same.tr qu1 q5
      have nu1 := S3.na hu1
      have nu2 := (S3.new hu1).na hu2
      have S5 := S3.same q35
      refine ⟨a, c0, S5, .inr ⟨l5, _, rfl, upd_same, (S3.same qu1).na hl5, by show 0 < 27; decide, by show 27 ≤ sizeLine; decide, fun x H' hx S' o' => ?_⟩⟩
      have eu1 := (o' u1 nu1).trans (q5 _ _ (Same.at_ qu2))
      have eu2 := (o' u2 nu2).trans (q5 _ _ (Same.at_ q4))
      have all : Jk H' x ∧ Sh H' x ∧ badL n x = true := by
        rcases List.mem_append.mp hx with hx | hx
        · exact fin _ H' x (q35 _ _ et0) (q35 _ _ et1) (q35 _ _ em0) (q35 _ _ em1) (q35 _ _ ed) o' hx
        · repeat' (rcases List.mem_cons.mp hx with rfl | hx; (first | exact ⟨rfl, sh_sc (by decide +kernel), badL_of (ba _ (by simp))⟩ | exact ⟨.inl ⟨_, eu2, rfl, by decide⟩, sh_lst eu2 ku2 (by decide +kernel), rfl⟩ | exact ⟨.inr (.inl ⟨_, eu1, rfl, by decide⟩), sh_tup eu1 (by decide +kernel), rfl⟩))
          cases hx
      exact k x H' all.1 all.2.1 all.2.2 S' ((Same.grow (Same.tr g1 (Same.tr g3 q35))).trans o'.grow)
    · refine ⟨a, c0, S3, .inr ⟨l3, _, rfl, upd_same, nl3, by show 0 < 21; decide, by show 21 ≤ sizeLine; decide, fun x H' hx S' o' => ?_⟩⟩
      have all := fin _ H' x et0 et1 em0 em1 ed o' hx
      exact k x H' all.1 all.2.1 all.2.2 S' ((Same.grow (Same.tr g1 g3)).trans o'.grow)
end
end K0
namespace K0
open PySem PySem.Spec PyProof.Rows L2 Bs
theorem Jk.grow {H H' : Hp} {a c0 : Addr} {v : V} (S : StAt H a c0) (j : Jk H v) (g : Grow a H H') : Jk H' v := by
  refine j.mono fun p o e h _ => g p o (fun ep => ?_) h
  subst ep
  obtain ⟨cells, p', w, x, n, t, sd, S⟩ := S
  subst e
  rcases j with ⟨xs, e, r, r2⟩ | ⟨xs, e, r⟩ | e | ⟨a, b, e⟩
  · rw [S.at_] at e
    cases e
    cases r
  · rw [S.at_] at e; cases e
  · rw [S.at_] at e; cases e
  · rw [S.at_] at e; cases e
theorem Jk.na {H : Hp} {a c0 p : Addr} (S : StAt H a c0) (j : Jk H (.ref p)) : p ≠ a := fun ep => by
  subst ep
  obtain ⟨cells, p', w, x, n, t, sd, S⟩ := S
  rcases j with ⟨xs, e, r, r2⟩ | ⟨xs, e, r⟩ | e | ⟨a, b, e⟩
  · rw [S.at_] at e
    cases e
    cases r
  · rw [S.at_] at e; cases e
  · rw [S.at_] at e; cases e
  · rw [S.at_] at e; cases e
theorem Sh.grow {H H' : Hp} {a c0 : Addr} {v : V} (S : StAt H a c0) (j : Jk H v) (h : Sh H v) (g : Grow a H H') : Sh H' v := h.mono fun p o e h _ => g p o (by subst e; exact Jk.na S j) h
abbrev s_badv : Stmt := top 48
theorem sc_badv : FnScope ["store", "size", "values"] ["store", "size"] (defScope s_badv) := ⟨rfl, rfl, rfl, by decide +kernel, rfl, by decide +kernel, by decide +kernel⟩
/-- the wrong values of a law's call -/
structure Bads (H : Hp) (n : Int) (l : Addr) (b0 b1 b2 b3 : V) : Prop where
  at_ : H l = some (.lst [b0, b1, b2, b3])
  j0 : Jk H b0
  j1 : Jk H b1
  j2 : Jk H b2
  j3 : Jk H b3
  t0 : badT b0 = true
  t1 : badL n b1 = true
  t2 : badS b2 = true
  t3 : badW b3 = true
  s0 : Sh H b0
  s1 : Sh H b1
  s2 : Sh H b2
  s3 : Sh H b3
  nm : l ≠ sysModules
def spBads : Sp := fun vs H Q _ => ∃ (a c0 : Addr) (n : Int), vs = [.ref a, .int n] ∧ StAt H a c0 ∧ 1 ≤ n ∧ n ≤ 6 ∧ ∀ l b0 b1 b2 b3 H', Bads H' n l b0 b1 b2 b3 → StAt H' a c0 → Grow a H H' → Q (.ref l) H'
abbrev s_drawn : Stmt := top 47
theorem sc_drawn : FnScope ["store", "size", "text", "at", "other", "word", "sign", "words"] ["store"] (defScope s_drawn) := ⟨rfl, rfl, rfl, by decide +kernel, rfl, by decide +kernel, by decide +kernel⟩
def spDrawn : Sp := fun vs H Q _ => ∃ a c0, vs = [.ref a] ∧ StAt H a c0 ∧ ∀ (n : Int) (text other lot : Str) (ws : List Str) l lw H', 1 ≤ n → n ≤ 6 → text.length ≤ 18000 → other.length ≤ 40000 → lot.length ≤ 6 → okT text → okT other → okT lot → (∀ z ∈ ws, z.length ≤ 20) → ws.length ≤ 5 → H' lw = some (.lst (ws.map V.str)) →
  H' l = some (.lst [.int n, .str text, .str other, .str lot, .ref lw]) → l ≠ a → lw ≠ a → StAt H' a c0 → Grow a H H' → Q (.ref l) H'
section
variable {P : Program} {w : World} {K : PySem.W.Frag} {mg : Str → Option Value} {base : Heap}
theorem ok_badv {f : Addr} {fd : FuncData} (F : Fun K "_law_bads" "_law_bads" s_badv f fd) (T : Txt K mg)
    (G_pick : FnE P w K mg base CX0 3 "_law_pick" ["store", "things"] spPick) (G_bad_lot : FnE P w K mg base CX0 4 "_law_bad_lot" ["store", "size"] spBadL) (G_bad_size : FnE P w K mg base CX0 4 "_law_bad_size" ["store"] spBadS)
    (G_bad_word : FnE P w K mg base CX0 4 "_law_bad_word" ["store"] spBadW) : FnOk P w K mg base CX0 5 f fd ["store", "size"] spBads := by
  have sc := sc_badv
  obtain ⟨_, _, G_pick⟩ := G_pick
  obtain ⟨_, _, G_bad_lot⟩ := G_bad_lot
  obtain ⟨_, _, G_bad_size⟩ := G_bad_size
  obtain ⟨_, _, G_bad_word⟩ := G_bad_word
  refine F.ok sc (fun vs H Q E h => ?_) (fun cdv A outer s H vs Q E hr h => ?_)
  · obtain ⟨a, c0, n, rfl, _⟩ := h
    rfl
  · obtain ⟨a, c0, n, rfl, S, n1, n6, k⟩ := h
    refine ⟨_, (pss_cons (ps_set (i := 2) sc.nd rfl (Or.inl rfl) (pe_lst (pa_cons pe_non (pa_cons pe_int (pa_cons pe_bl (pa_cons pe_bl (pa_cons pe_int (pa_cons (pe_tup pa_nil) (pa_cons (pe_tup (pa_cons pe_str pa_nil)) (pa_cons (pe_lstN pa_nil) (pa_cons (pe_lstN (pa_cons pe_str pa_nil)) (pa_cons (pe_lstN (pa_cons pe_str (pa_cons pe_str pa_nil))) (pa_cons pe_dnewK (pa_cons (pe_disp (pps_cons pe_str pe_str pps_nil) (by rfl) (by rfl) (fun z => by cases z) (by decide)) pa_nil))))))))))))))
      (pss_one (ps_ret (pe_lstN (pa_cons (fn G_pick (hr.mono (by decide)) (by rfl) pass0 (pa_cons (nm 0) (pa_cons (nm 2) pa_nil))) (pa_cons (fn G_bad_lot (hr.mono (by decide)) (by rfl) pass0 (pa_cons (nm 0) (pa_cons (nm 1) pa_nil))) (pa_cons (fn G_bad_size (hr.mono (by decide)) (by rfl) pass0 (pa_cons (nm 0) pa_nil)) (pa_cons (fn G_bad_word (hr.mono (by decide)) (by rfl) pass0 (pa_cons (nm 0) pa_nil)) pa_nil)))))))), ?_⟩
    refine ⟨by show 0 ≤ sizeLine; decide, fun t0 ht0 => ⟨by show 1 ≤ sizeLine; decide, fun t1 ht1 => ⟨by show 0 ≤ sizeLine; decide, fun m0 hm0 km0 => ⟨by show 1 ≤ sizeLine; decide, fun m1 hm1 km1 => ⟨by show 2 ≤ sizeLine; decide, fun m2 hm2 km2 => ?_⟩⟩⟩⟩⟩
    intro d hd
    intro e he
    refine ⟨upd_same, [(Sum.inr "a", .str "b")], rfl, by decide, ?_⟩
    rw [upd_upd]
    refine ⟨by show 12 ≤ sizeLine; decide, fun l2 hl2 => ?_⟩
    have g2 := Same.up (o := .lst [.non, .int 0, .bl true, .bl false, .int 1, .ref t0, .ref t1, .ref m0, .ref m1, .ref m2, .ref d, .ref e]) hl2
    have ge := Same.tr (Same.up (o := .dK [(Sum.inr "a", .str "b")]) he) g2
    have gd := Same.tr (Same.up (o := .dK []) hd) ge
    have gm2 := Same.tr (Same.up (o := .lst [.str "a", .str "b"]) hm2) gd
    have gm1 := Same.tr (Same.up (o := .lst [.str "a"]) hm1) gm2
    have gm0 := Same.tr (Same.up (o := .lst []) hm0) gm1
    have gt1 := Same.tr (Same.up (o := .tup [.str "a"]) ht1) gm0
    have gt0 := Same.tr (Same.up (o := .tup []) ht0) gt1
    have nt0 := S.na ht0
    have nt1 := (S.new ht0).na ht1
    have nm0 := ((S.new ht0).new ht1).na hm0
    have nm1 := (((S.new ht0).new ht1).new hm0).na hm1
    have nm2 := ((((S.new ht0).new ht1).new hm0).new hm1).na hm2
    have nd := (((((S.new ht0).new ht1).new hm0).new hm1).new hm2).na hd
    have ne := ((((((S.new ht0).new ht1).new hm0).new hm1).new hm2).new hd).na he
    have nl2 := (((((((S.new ht0).new ht1).new hm0).new hm1).new hm2).new hd).new he).na hl2
    refine ⟨a, c0, S.same gt0, .inr ⟨l2, _, rfl, upd_same, nl2, by show 0 < 12; decide, by show 12 ≤ sizeLine; decide, fun v0 H1 hx S1 o1 => ?_⟩⟩
    have et0 := (o1 t0 nt0).trans (Same.at_ gt1)
    have et1 := (o1 t1 nt1).trans (Same.at_ gm0)
    have em0 := (o1 m0 nm0).trans (Same.at_ gm1)
    have em1 := (o1 m1 nm1).trans (Same.at_ gm2)
    have em2 := (o1 m2 nm2).trans (Same.at_ gd)
    have ed := (o1 d nd).trans (Same.at_ ge)
    have ee := (o1 e ne).trans (Same.at_ g2)
    have all : Jk H1 v0 ∧ Sh H1 v0 ∧ badT v0 = true := by
      repeat' (rcases List.mem_cons.mp hx with rfl | hx; (first | exact ⟨rfl, sh_sc (by decide +kernel), rfl⟩ | exact ⟨.inl ⟨_, em0, rfl, by decide⟩, sh_lst em0 km0 (by decide +kernel), rfl⟩ | exact ⟨.inl ⟨_, em1, rfl, by decide⟩, sh_lst em1 km1 (by decide +kernel), rfl⟩ | exact ⟨.inl ⟨_, em2, rfl, by decide⟩, sh_lst em2 km2 (by decide +kernel), rfl⟩ | exact ⟨.inr (.inl ⟨_, et0, rfl, by decide⟩), sh_tup et0 (by decide +kernel), rfl⟩ | exact ⟨.inr (.inl ⟨_, et1, rfl, by decide⟩), sh_tup et1 (by decide +kernel), rfl⟩ | exact ⟨.inr (.inr (.inl ed)), sh_d0 ed, rfl⟩ | exact ⟨.inr (.inr (.inr ⟨_, _, ee⟩)), sh_d1 ee (by decide +kernel), rfl⟩))
      cases hx
    have gH1 := (Same.grow gt0).trans o1.grow
    refine ⟨a, c0, n, rfl, S1, n1, n6, fun v1 H2 j1 w1 b1 S2 g12 => ?_⟩
    refine ⟨a, c0, rfl, S2, fun v2 H3 j2 w2 b2 S3 g23 => ?_⟩
    refine ⟨a, c0, rfl, S3, fun v3 H4 j3 w3 b3 S4 g34 => ?_⟩
    refine ⟨by show 4 ≤ sizeLine; decide, fun l hl kl => ?_⟩
    have g4 := Grow.new (a := a) (o := .lst [v0, v1, v2, v3]) hl
    refine k l v0 v1 v2 v3 _ ⟨upd_same, ?_, ?_, ?_, ?_, all.2.2, b1, b2, b3, ?_, ?_, ?_, ?_, kl⟩ (S4.new hl) (((gH1.trans g12).trans (g23.trans g34)).trans g4)
    · exact Jk.grow S1 all.1 ((g12.trans (g23.trans g34)).trans g4)
    · exact Jk.grow S2 j1 ((g23.trans g34).trans g4)
    · exact Jk.grow S3 j2 (g34.trans g4)
    · exact Jk.grow S4 j3 g4
    · exact Sh.grow S1 all.1 all.2.1 ((g12.trans (g23.trans g34)).trans g4)
    · exact Sh.grow S2 j1 w1 ((g23.trans g34).trans g4)
    · exact Sh.grow S3 j2 w2 (g34.trans g4)
    · exact Sh.grow S4 j3 w3 g4
theorem ok_drawn {f : Addr} {fd : FuncData} (F : Fun K "_law_drawn" "_law_drawn" s_drawn f fd) (T : Txt K mg)
    (G_take : FnE P w K mg base CX0 2 "_law_take" ["store", "limit"] spTake) (G_letters : FnE P w K mg base CX0 4 "_law_letters" ["store", "size"] spLetters)
    (G_sign : FnE P w K mg base CX0 4 "_law_sign" ["store"] spSign) (G_word : FnE P w K mg base CX0 4 "_law_word" ["store"] spWord) (G_lot : FnE P w K mg base CX0 4 "_law_lot" ["store", "size"] spLot) :
    FnOk P w K mg base CX0 5 f fd ["store"] spDrawn := by
  have sc := sc_drawn
  obtain ⟨_, _, G_take⟩ := G_take
  obtain ⟨_, _, G_letters⟩ := G_letters
  obtain ⟨_, _, G_sign⟩ := G_sign
  obtain ⟨_, _, G_word⟩ := G_word
  obtain ⟨_, _, G_lot⟩ := G_lot
  refine F.ok sc (fun vs H Q E h => ?_) (fun cdv A outer s H vs Q E hr h => ?_)
  · obtain ⟨a, c0, rfl, _⟩ := h
    rfl
  · obtain ⟨a, c0, rfl, S, k⟩ := h
    refine ⟨_, (pss_cons (ps_set (i := 1) sc.nd rfl (Or.inl rfl) (pe_op o_add pe_int (fn G_take (hr.mono (by decide)) (by rfl) pass0 (pa_cons (nm 0) (pa_cons pe_int pa_nil)))))
      (pss_cons (ps_set (i := 2) sc.nd rfl (Or.inl rfl) (fn G_letters (hr.mono (by decide)) (by rfl) pass0 (pa_cons (nm 0) (pa_cons (nm 1) pa_nil))))
      (pss_cut (ps_if (cmpT (o_eq hr) (fn G_take (hr.mono (by decide)) (by rfl) pass0 (pa_cons (nm 0) (pa_cons pe_int pa_nil))) pe_int (nomark _)) (pss_one (ps_set (i := 2) sc.nd rfl (Or.inl rfl) (pe_op o_mul (nm 2) (pe_op o_add pe_int (fn G_take (hr.mono (by decide)) (by rfl) pass0 (pa_cons (nm 0) (pa_cons pe_int pa_nil))))))) pss_nil)
      (pss_cons (ps_set (i := 3) sc.nd rfl (Or.inl rfl) (fn G_take (hr.mono (by decide)) (by rfl) pass0 (pa_cons (nm 0) (pa_cons (pe_op o_add (pe_callB b_len (by rfl) T.len boot_len (pa_cons (nm 2) pa_nil)) pe_int) pa_nil))))
      (pss_cons (ps_set (i := 4) sc.nd rfl (Or.inl rfl) (pe_op o_add (pe_op o_add (pe_slice sl_any (nm 2) po_none (po (nm 3))) (fn G_sign (hr.mono (by decide)) (by rfl) pass0 (pa_cons (nm 0) pa_nil))) (pe_slice sl_any (nm 2) (po (nm 3)) po_none)))
      (pss_cons (ps_set (i := 5) sc.nd rfl (Or.inl rfl) (fn G_word (hr.mono (by decide)) (by rfl) pass0 (pa_cons (nm 0) pa_nil)))
      (pss_cons (ps_set (i := 3) sc.nd rfl (Or.inl rfl) (fn G_take (hr.mono (by decide)) (by rfl) pass0 (pa_cons (nm 0) (pa_cons (pe_op o_add (pe_callB b_len (by rfl) T.len boot_len (pa_cons (nm 5) pa_nil)) pe_int) pa_nil))))
      (pss_cons (ps_set (i := 6) sc.nd rfl (Or.inl rfl) (fn G_sign (hr.mono (by decide)) (by rfl) pass0 (pa_cons (nm 0) pa_nil)))
      (pss_cons (ps_set (i := 7) sc.nd rfl (Or.inl rfl) (pe_lst (pa_cons (nm 5) (pa_cons (pe_op o_add (pe_op o_add (pe_slice sl_any (nm 5) po_none (po (nm 3))) (nm 6)) (pe_slice sl_any (nm 5) (po (nm 3)) po_none)) (pa_cons (pe_op o_add (pe_op o_add (pe_slice sl_any (nm 5) po_none (po (nm 3))) (nm 6)) (pe_slice sl_any (nm 5) (po (pe_op o_add (nm 3) pe_int)) po_none)) pa_nil)))))
      (pss_cons (ps_set (i := 7) sc.nd rfl (Or.inl rfl) (pe_op o_add (nm 7) (pe_lst (pa_cons (pe_slice sl_any (pe_op o_add (nm 5) pe_str) po_none (po pe_int)) (pa_cons (pe_slice sl_any (pe_op o_add (nm 5) pe_str) po_none (po pe_int)) pa_nil)))))
      (pss_one (ps_ret (pe_lst (pa_cons (nm 1) (pa_cons (nm 2) (pa_cons (nm 4) (pa_cons (fn G_lot (hr.mono (by decide)) (by rfl) pass0 (pa_cons (nm 0) (pa_cons (nm 1) pa_nil))) (pa_cons (nm 7) pa_nil)))))))))))))))))), ?_⟩
    refine ⟨a, c0, 6, rfl, S, by decide, fun r H1 r0 r1 S1 o1 => ?_⟩
    have r6 : r < 6 := r1
    refine ⟨a, c0, 1 + r, rfl, S1, by omega, by omega, fun tx0 H2 tl0 ok0 S2 g2 => ?_⟩
    have zl : sizeLine = 16777216 := rfl
    refine ⟨fun σ H' => ∃ tx : Str, tx.length ≤ 18000 ∧ okT tx ∧ StAt H' a c0 ∧ Grow a H H' ∧ σ = [some (.ref a), some (.int (1 + r)), some (.str tx), none, none, none, none, none], ?_, ?_⟩
    · refine ⟨a, c0, 16, rfl, S2, by decide, fun r16 H3 _ _ S3 o3 => ?_⟩
      refine ⟨rfl, ite2 (fun _ => ?_) (fun _ => ?_)⟩
      · refine ⟨a, c0, 2000, rfl, S3, by decide, fun m H4 m0 m1 S4 o4 => ?_⟩
        have m2 : m < 2000 := m1
        have hm := mul_len tx0 (1 + m)
        have hm2 : tx0.length * (1 + m).toNat ≤ 9 * 2000 := Nat.mul_le_mul tl0 (by omega)
        exact ⟨⟨by omega, by omega⟩, by omega, _, by omega, okT_mul ok0, S4, ((o1.grow.trans g2).trans o3.grow).trans o4.grow, rfl⟩
      · exact ⟨tx0, by omega, ok0, S3, (o1.grow.trans g2).trans o3.grow, rfl⟩
    · rintro σ H4 ⟨tx, htx, oktx, S4, g4, rfl⟩
      have lx : tx.length ≤ sizeLine := by omega
      refine ⟨lx, a, c0, tx.length + 1, rfl, S4, by omega, fun at1 H5 _ _ S5 o5 => ?_⟩
      have c1 := cutS_length tx none (some at1)
      have c2 := cutS_length tx (some at1) none
      refine ⟨lx, a, c0, rfl, S5, fun c H6 hcs S6 o6 => ⟨by show _ + 1 ≤ _; omega, lx, by rw [app_len]; show _ + 1 + _ ≤ _; omega, ?_⟩⟩
      have ho : ((cutS tx none (some at1) ++ one c) ++ cutS tx (some at1) none).length ≤ 40000 := by rw [app_len, app_len]; show _ + 1 + _ ≤ _; omega
      have oko : okT ((cutS tx none (some at1) ++ one c) ++ cutS tx (some at1) none) := okT_app (okT_app (okT_cut oktx) (okT_one hcs)) (okT_cut oktx)
      generalize (cutS tx none (some at1) ++ one c) ++ cutS tx (some at1) none = other at ho oko ⊢
      refine ⟨a, c0, rfl, S6, fun wd H7 hw S7 g7 => ?_⟩
      have lw : wd.length ≤ sizeLine := by omega
      refine ⟨lw, a, c0, wd.length + 1, rfl, S7, by omega, fun at2 H8 _ _ S8 o8 => ?_⟩
      refine ⟨a, c0, rfl, S8, fun d H9 _ S9 o9 => ?_⟩
      have d1 := cutS_length wd none (some at2)
      have d2 := cutS_length wd (some at2) none
      have d3 := cutS_length wd (some (at2 + 1)) none
      refine ⟨lw, by show _ + 1 ≤ _; omega, lw, by rw [app_len]; show _ + 1 + _ ≤ _; omega, lw, by show _ + 1 ≤ _; omega, lw, by rw [app_len]; show _ + 1 + _ ≤ _; omega, by show 3 ≤ sizeLine; decide, fun l1 hl1 => ?_⟩
      have hw1 : ((cutS wd none (some at2) ++ one d) ++ cutS wd (some at2) none).length ≤ 20 := by rw [app_len, app_len]; show _ + 1 + _ ≤ _; omega
      have hw2 : ((cutS wd none (some at2) ++ one d) ++ cutS wd (some (at2 + 1)) none).length ≤ 20 := by rw [app_len, app_len]; show _ + 1 + _ ≤ _; omega
      generalize (cutS wd none (some at2) ++ one d) ++ cutS wd (some at2) none = w1 at hw1 hl1 ⊢
      generalize (cutS wd none (some at2) ++ one d) ++ cutS wd (some (at2 + 1)) none = w2 at hw2 hl1 ⊢
      have e8 : (Str.ofString "a1b2c3d4").length = 8 := by decide
      have d4 : (wd ++ Str.ofString "a1b2c3d4").length ≤ 16 := by rw [app_len, e8]; omega
      have d5 := cutS_length (wd ++ Str.ofString "a1b2c3d4") none (some 8)
      have d6 := cutS_length (wd ++ Str.ofString "a1b2c3d4") none (some 9)
      refine ⟨by rw [e8]; omega, by omega, by rw [e8]; omega, by omega, by show 2 ≤ sizeLine; decide, fun l2 hl2 => ?_⟩
      have hw3 : (cutS (wd ++ Str.ofString "a1b2c3d4") none (some 8)).length ≤ 20 := by omega
      have hw4 : (cutS (wd ++ Str.ofString "a1b2c3d4") none (some 9)).length ≤ 20 := by omega
      generalize cutS (wd ++ Str.ofString "a1b2c3d4") none (some 8) = w3 at hw3 hl2 ⊢
      generalize cutS (wd ++ Str.ofString "a1b2c3d4") none (some 9) = w4 at hw4 hl2 ⊢
      have q2 := Same.up (o := .lst [.str w3, .str w4]) hl2
      have q1 := Same.tr (Same.up (o := .lst [.str wd, .str w1, .str w2]) hl1) q2
      refine ⟨_, _, Same.at_ q2, upd_same, by show 5 ≤ sizeLine; decide, fun l3 hl3 => ?_⟩
      have n3 := (S9.same q1).na hl3
      have q3 := Same.up (o := .lst ([.str wd, .str w1, .str w2] ++ [.str w3, .str w4])) hl3
      refine ⟨a, c0, 1 + r, rfl, (S9.same q1).new hl3, by omega, by omega, fun lt Hl hlt okl Sl gl => ⟨by show 5 ≤ sizeLine; decide, fun l4 hl4 => ?_⟩⟩
      have q4 := Grow.new (a := a) (o := .lst [.int (1 + r), .str tx, .str other, .str lt, .ref l3]) hl4
      refine k (1 + r) tx other lt [wd, w1, w2, w3, w4] l4 l3 _ (by omega) (by omega) htx ho hlt oktx oko okl ?_ (by decide : 5 ≤ 5) ((q4 _ _ n3 (gl l3 _ n3 upd_same))) upd_same (Sl.na hl4) n3 (Sl.new hl4) ?_
      · intro z hz
        repeat' (rcases List.mem_cons.mp hz with rfl | hz; omega)
        cases hz
      · exact g4.trans (o5.grow.trans (o6.grow.trans (g7.trans (o8.grow.trans (o9.grow.trans ((Same.grow q1).trans ((Same.grow q3).trans (gl.trans q4))))))))
end
end K0
namespace K0
open PySem PySem.Spec PyProof.Rows L2 Bs
abbrev s_no : Stmt := top 46
theorem sc_no : FnScope ["name"] ["name"] (defScope s_no) := ⟨rfl, rfl, rfl, by decide +kernel, rfl, by decide +kernel, by decide +kernel⟩
def spNo : Sp := fun vs H Q _ => ∃ nam : Str, vs = [.str nam] ∧ ∀ p H', Same H H' → (Rs.no nam).At H' p → Q (.ref p) H'
abbrev s_due : Stmt := top 49
theorem sc_due : FnScope ["text", "size", "below", "sign", "letter"] ["text", "size"] (defScope s_due) := ⟨rfl, rfl, rfl, by decide +kernel, rfl, by decide +kernel, by decide +kernel⟩
def normL (n : Int) (z : Str) : List Nat := (below n).cps.toList.filter fun c => decide (c ∈ z.cps.toList)
def dueR (n : Int) (z : Str) : Rs := if (z.cps.toList.filter fun c => !decide (c ∈ (below n).cps.toList)).length = 0 then .told (tx (normL n z)) else .no "BadLot"
def spDue : Sp := fun vs H Q _ => ∃ (z : Str) (n : Int), vs = [.str z, .int n] ∧ z.length ≤ 100000 ∧ 1 ≤ n ∧ n ≤ 6 ∧ ∀ p H', Same H H' → (dueR n z).At H' p → Q (.ref p) H'
abbrev s_isw : Stmt := top 42
theorem sc_isw : FnScope ["told", "letters", "sign"] ["told"] (defScope s_isw) := ⟨rfl, rfl, rfl, by decide +kernel, rfl, by decide +kernel, by decide +kernel⟩
def spIsw : Sp := fun vs H Q _ => ∃ (z : Str), vs = [.str z] ∧ z.length ≤ 100000 ∧ ∀ H', Same H H' → Q (.bl (isW z)) H'
section
variable {P : Program} {w : World} {K : PySem.W.Frag} {mg : Str → Option Value} {base : Heap}
theorem ok_no {f : Addr} {fd : FuncData} (F : Fun K "_law_no" "_law_no" s_no f fd) (T : Txt K mg) : FnOk P w K mg base CX0 1 f fd ["name"] spNo := by
  have sc := sc_no
  refine F.ok sc (fun vs H Q E h => ?_) (fun cdv A outer s H vs Q E hr h => ?_)
  · obtain ⟨nam, rfl, _⟩ := h
    rfl
  · obtain ⟨nam, rfl, k⟩ := h
    refine ⟨_, (pss_one (ps_ret (pe_tup (pa_cons pe_str (pa_cons (pe_lst (pa_cons (nm 0) pa_nil)) (pa_cons (pe_tup pa_nil) pa_nil)))))), ?_⟩
    refine ⟨by show 1 ≤ sizeLine; decide, fun q hq => ⟨by show 0 ≤ sizeLine; decide, fun r hr => ⟨by show 3 ≤ sizeLine; decide, fun p hp => ?_⟩⟩⟩
    have gp := Same.up (o := .tup [.str "refused", .ref q, .ref r]) hp
    have gr := Same.tr (Same.up (o := .tup []) hr) gp
    have gq := Same.tr (Same.up (o := .lst [.str nam]) hq) gr
    exact k p _ gq ⟨q, r, upd_same, Same.at_ gr, Same.at_ gp⟩
theorem ok_due {f : Addr} {fd : FuncData} (F : Fun K "_law_due" "_law_due" s_due f fd) (T : Txt K mg) (G_no : FnE P w K mg base CX0 1 "_law_no" ["name"] spNo) : FnOk P w K mg base CX0 2 f fd ["text", "size"] spDue := by
  have sc := sc_due
  let st := s_due
  let N : List Str := ["text", "size", "below", "sign", "letter"]
  obtain ⟨_, _, G_no⟩ := G_no
  refine F.ok sc (fun vs H Q E h => ?_) (fun cdv A outer s H vs Q E hr h => ?_)
  · obtain ⟨z, n, rfl, _⟩ := h
    rfl
  · obtain ⟨z, n, rfl, hz, n1, n6, k⟩ := h
    refine ⟨_, (pss_cons (ps_set (i := 2) sc.nd rfl (Or.inr rfl) (pe_slice sl_any pe_str po_none (po (nm 1))))
      (pss_cons (ps_if (cmpT o_gt (pe_callB b_len (by rfl) T.len boot_len (pa_cons (pe_lc (own := [("sign", 3)]) rfl sc.nd (pi_any (nm 0)) (blkOk_by (N := N) (sc := defScope st) (by decide +kernel)) (fun _ _ _ _ _ => (pg_name (i := 3) sc.nd rfl (Or.inl rfl))) (fun _ _ _ _ _ => (pts_one (cmpT (o_notInK K rfl) (nm 3) (nm 2) (by rfl)))) (fun _ _ _ _ _ => (nm 3))) pa_nil)) pe_int (nomark _)) (pss_one (ps_ret (fn G_no (hr.mono (by decide)) (by rfl) pass0 (pa_cons pe_str pa_nil)))) pss_nil)
      (pss_one (ps_ret (pe_tup (pa_cons pe_str (pa_cons (pe_join pe_str (pe_lc (own := [("letter", 4)]) rfl sc.nd (pi_any (nm 2)) (blkOk_by (N := N) (sc := defScope st) (by decide +kernel)) (fun _ _ _ _ _ => (pg_name (i := 4) sc.nd rfl (Or.inl rfl))) (fun _ _ _ _ _ => (pts_one (cmpT (o_inK K rfl) (nm 4) (nm 0) (by rfl)))) (fun _ _ _ _ _ => (nm 4)))) pa_nil))))))), ?_⟩
    have zl : sizeLine = 16777216 := rfl
    have bl := below_len n1 n6
    refine ⟨by decide, fun D hD => ?_⟩
    refine lc_filt (z := z) (fun c => !decide (c ∈ (below n).cps.toList)) (by omega) (fun c H' N M _ ⟨acc, h1, h2, h3⟩ hM _ => ⟨rfl, ?_⟩) ?_
    · have e : inS (one c) (below n) = decide (c ∈ (below n).cps.toList) := inS_one c _
      refine ite2 (fun hp => ⟨acc, h1, h2, h3 ?_⟩) (fun hp => hM ?_)
      · have hp' : (!inS (one c) (below n)) = true := hp
        rw [e] at hp'
        exact hp'
      · have hp' : ¬ (!inS (one c) (below n)) = true := hp
        rw [e] at hp'
        exact Bool.not_eq_true _ ▸ hp'
    · refine .inl ⟨_, .inl (SqL.of upd_same), ite2 (fun hp => ?_) (fun hp => ?_)⟩
      · have hp' := of_decide_eq_true hp
        rw [sgs_len] at hp'
        refine ⟨_, rfl, fun p H' s1 h1 => k p H' (Same.tr (Same.up hD) s1) ?_⟩
        unfold dueR
        rw [if_neg (by omega)]
        exact h1
      · have hp' := of_decide_eq_false (Bool.not_eq_true _ ▸ hp)
        rw [sgs_len] at hp'
        refine ⟨⟨_, rfl⟩, fun E hE => ?_⟩
        refine lc_filt (z := below n) (fun c => decide (c ∈ z.cps.toList)) (by omega) (fun c H' N M _ ⟨acc, h1, h2, h3⟩ hM _ => ⟨rfl, ?_⟩) ?_
        · have e : inS (one c) z = decide (c ∈ z.cps.toList) := inS_one c _
          refine ite2 (fun hp => ⟨acc, h1, h2, h3 ?_⟩) (fun hp => hM ?_)
          · have hp' : inS (one c) z = true := hp
            rw [e] at hp'
            exact hp'
          · have hp' : ¬ inS (one c) z = true := hp
            rw [e] at hp'
            exact Bool.not_eq_true _ ▸ hp'
        · refine ⟨_, E, (normL n z).map one, rfl, rfl, .inl (SqL.of upd_same), ?_, ?_⟩
          · rw [sum_ones, List.length_map]
            have h1 : (normL n z).length ≤ (below n).cps.toList.length := List.length_filter_le _ _
            rw [← len_cps, bl] at h1
            show (normL n z).length + (normL n z).length * 0 ≤ 16777216
            omega
          · rw [join_ones rfl]
            refine ⟨by show 2 ≤ sizeLine; decide, fun p hp => ?_⟩
            refine k p _ (Same.tr (Same.up hD) (Same.tr (Same.up hE) (Same.up hp))) ?_
            unfold dueR
            rw [if_pos (by omega)]
            exact upd_same
theorem ok_isw {f : Addr} {fd : FuncData} (F : Fun K "_law_is_word" "_law_is_word" s_isw f fd) (T : Txt K mg) : FnOk P w K mg base CX0 2 f fd ["told"] spIsw := by
  have sc := sc_isw
  let st := s_isw
  let N : List Str := ["told", "letters", "sign"]
  refine F.ok sc (fun vs H Q E h => ?_) (fun cdv A outer s H vs Q E hr h => ?_)
  · obtain ⟨z, rfl, _⟩ := h
    rfl
  · obtain ⟨z, rfl, hz, k⟩ := h
    refine ⟨_, (pss_cons (ps_if (PW.pt (pw_or (pt_not (tst (pe_callB b_isi (by rfl) T.isinstance boot_isinstance (pa_cons (nm 0) (pa_cons (n_str (by rfl) T.str) pa_nil))))) (pw_or (cmpT o_lt (pe_callB b_len (by rfl) T.len boot_len (pa_cons (nm 0) pa_nil)) pe_int (nomark _)) (pw_or1 (cmpT o_gt (pe_callB b_len (by rfl) T.len boot_len (pa_cons (nm 0) pa_nil)) pe_int (nomark _)))))) (pss_one (ps_ret pe_bl)) pss_nil)
      (pss_cons (ps_set (i := 1) sc.nd rfl (Or.inr rfl) pe_str)
      (pss_cons (ps_if (cmpT o_notIn (pe_ix x_any (nm 0) pe_int (fun _ _ => rfl)) (nm 1) (by rfl)) (pss_one (ps_ret pe_bl)) pss_nil)
      (pss_one (ps_ret (pe_cmpR (o_eq hr) (pe_callB b_len (by rfl) T.len boot_len (pa_cons (pe_lc (own := [("sign", 2)]) rfl sc.nd (pi_any (nm 0)) (blkOk_by (N := N) (sc := defScope st) (by decide +kernel)) (fun _ _ _ _ _ => (pg_name (i := 2) sc.nd rfl (Or.inl rfl))) (fun _ _ _ _ _ => (pts_one (cmpT (o_notInK K rfl) (nm 2) (pe_op o_add (nm 1) pe_str) (by rfl)))) (fun _ _ _ _ _ => (nm 2))) pa_nil)) pe_int (nomark _))))))), ?_⟩
    have zl : sizeLine = 16777216 := rfl
    have kf : isW z = false → ∀ H', Same H H' → Q (.bl false) H' := fun e H' s' => e ▸ k H' s'
    have ln := len_cps z
    refine ⟨"str", rfl, rfl, by omega, ite2 (fun hp => ?_) (fun hp => ?_)⟩
    · have hp' := of_decide_eq_true hp
      refine kf ?_ H (fun _ _ e => e)
      have : z.cps.toList = [] := List.length_eq_zero_iff.mp (by omega)
      unfold isW
      rw [this]
      rfl
    have hp1 := of_decide_eq_false (Bool.not_eq_true _ ▸ hp)
    refine ⟨by omega, ite2 (fun hq => ?_) (fun hq => ?_)⟩
    · have hq' := of_decide_eq_true hq
      refine kf ?_ H (fun _ _ e => e)
      unfold isW
      cases e : z.cps.toList with
      | nil => rfl
      | cons c r =>
        rw [e] at ln
        rw [wordL_cons]
        rw [decide_eq_false (by omega)]
        rfl
    have hq1 := of_decide_eq_false (Bool.not_eq_true _ ▸ hq)
    cases ez : z.cps.toList with
    | nil => rw [ez] at ln; simp at ln; omega
    | cons c r =>
    refine ⟨by omega, c, by rw [ez]; exact atI_zero c r, ?_⟩
    have ea : inS (one c) alpha = decide (c ∈ alpha.cps.toList) := inS_one c _
    refine ite2 (fun hp => ?_) (fun hp => ?_)
    · have hp' : (!inS (one c) alpha) = true := hp
      rw [ea] at hp'
      refine kf ?_ H (fun _ _ e => e)
      unfold isW
      rw [ez]
      rw [wordL_cons]
      rw [show decide (c ∈ alpha.cps.toList) = false by simpa using hp', Bool.false_and, Bool.and_false]
    · have hp' : ¬ (!inS (one c) alpha) = true := hp
      rw [ea] at hp'
      intro D hD
      refine lc_filt (z := z) (fun c => !decide (c ∈ alnum.cps.toList)) (by omega) (fun c H' N M _ ⟨acc, h1, h2, h3⟩ hM _ => ⟨rfl, by decide, ?_⟩) ?_
      · have e : inS (one c) (alpha ++ Str.ofString "0123456789") = decide (c ∈ alnum.cps.toList) := inS_one c _
        refine ite2 (fun hp => ⟨acc, h1, h2, h3 ?_⟩) (fun hp => hM ?_)
        · have hp' : (!inS (one c) (alpha ++ Str.ofString "0123456789")) = true := hp
          rw [e] at hp'
          exact hp'
        · have hp' : ¬ (!inS (one c) (alpha ++ Str.ofString "0123456789")) = true := hp
          rw [e] at hp'
          exact Bool.not_eq_true _ ▸ hp'
      · refine .inl ⟨_, .inl (SqL.of upd_same), rfl, ?_⟩
        have hk := k _ (Same.up (o := .lst (sgs (z.cps.toList.filter fun c => !decide (c ∈ alnum.cps.toList)))) hD)
        have e : isW z = decide (V.int (sgs (z.cps.toList.filter fun c => !decide (c ∈ alnum.cps.toList))).length = V.int 0) := by
          rw [sgs_len]
          unfold isW
          rw [ez] at ln ⊢
          rw [wordL_cons]
          rw [show decide (c ∈ alpha.cps.toList) = true by simpa using hp', decide_eq_true (by omega : (c :: r).length ≤ 8), Bool.true_and, Bool.true_and]
          rw [Bool.eq_iff_iff, List.all_eq_true, decide_eq_true_iff]
          constructor
          · intro h
            have : (c :: r).filter (fun c => !decide (c ∈ alnum.cps.toList)) = [] := List.filter_eq_nil_iff.mpr fun x hx => by have := h x hx; simpa using this
            rw [this]
            rfl
          · intro h x hx
            have h0 : ((c :: r).filter fun c => !decide (c ∈ alnum.cps.toList)).length = 0 := by
              injection h with h; omega
            have := List.filter_eq_nil_iff.mp (List.length_eq_zero_iff.mp h0) x hx
            simpa using this
        rw [e] at hk
        exact hk
end
end K0
namespace K0
open PySem PySem.Spec PyProof.Rows L2 Bs
/-- the constants of the program's modules -/
structure Cs (mg : Str → Option Value) : Prop where
  LETTERS : ∃ t, mg "LETTERS" = some (.str alpha t)
  ALNUM : ∃ t, mg "LETTERS_AND_DIGITS" = some (.str alnum t)
  SLOTS : ∃ t, mg "ALL_SLOTS" = some (.str abc t)
  LONGEST : ∃ t, mg "LONGEST_WORD" = some (.int 8 t)
/-- an error's class -/
structure ErrC (K : PySem.W.Frag) (mg : Str → Option Value) (x : Str) (C : Addr) : Prop where
  g : mg x = some (.ref C)
  k : PySem.W.keepIn K (.ref C) = true
  q : PySem.W.excIn K C [.type "ValueError", .type "Exception", .type "BaseException", .type "object"] "ValueError.__new__" = true
  b : PySem.W.subIn K (.ref C) (.type "BaseException") = some true
  t : PySem.W.typeIn K (.ref C) = some (.type "type")
abbrev p_isw : Stmt := top 23
theorem pc_isw : FnScope ["word", "sign"] ["word"] (defScope p_isw) := ⟨rfl, rfl, rfl, by decide +kernel, rfl, by decide +kernel, by decide +kernel⟩
def wI : V → Bool
  | .str z => isW z
  | _ => false
/-- a value that a law hands in -/
def Arg (H : Hp) (v : V) : Prop := Jk H v ∧ ∀ z, v = .str z → z.length ≤ 100000
def spIsWord : Sp := fun vs H Q _ => ∃ v, vs = [v] ∧ Arg H v ∧ ∀ H', Same H H' → Q (.bl (wI v)) H'
abbrev p_chw : Stmt := top 24
theorem pc_chw : FnScope ["word"] ["word"] (defScope p_chw) := ⟨rfl, rfl, rfl, by decide +kernel, rfl, by decide +kernel, by decide +kernel⟩
def spCheckWord (C : Addr) : Sp := fun vs H Q E => ∃ v, vs = [v] ∧ Arg H v ∧ (wI v = true → ∀ H', Same H H' → Q v H') ∧ (wI v = false → ∀ H', Same H H' → E (.ref C) none H')
abbrev p_slo : Stmt := top 25
theorem pc_slo : FnScope ["size"] ["size"] (defScope p_slo) := ⟨rfl, rfl, rfl, by decide +kernel, rfl, by decide +kernel, by decide +kernel⟩
def spSlots (C : Addr) : Sp := fun vs H Q E => ∃ v, vs = [v] ∧ Jk H v ∧ (∀ n, v = .int n → 1 ≤ n → n ≤ 6 → Q (.str (below n)) H) ∧ (badS v = true → E (.ref C) none H)
theorem badS_or (v : V) : badS v = true ∨ ∃ n, v = .int n ∧ 1 ≤ n ∧ n ≤ 6 := by
  cases v with
  | int i =>
    by_cases h : 1 ≤ i ∧ i ≤ 6
    · exact .inr ⟨i, rfl, h⟩
    · refine .inl ?_
      show (!(decide (1 ≤ i) && decide (i ≤ 6))) = true
      by_cases h1 : 1 ≤ i
      · rw [decide_eq_false (fun h2 => h ⟨h1, h2⟩), Bool.and_false]; rfl
      · rw [decide_eq_false h1]; rfl
  | _ => exact .inl rfl
section
variable {P : Program} {w : World} {K : PySem.W.Frag} {mg : Str → Option Value} {base : Heap}
theorem pk_isw {f : Addr} {fd : FuncData} (F : Fun K "is_word" "is_word" p_isw f fd) (T : Txt K mg) (Cc : Cs mg) : FnOk P w K mg base (L2.CX P w) 1 f fd ["word"] spIsWord := by
  have sc := pc_isw
  let st := p_isw
  let N : List Str := ["word", "sign"]
  obtain ⟨_, gg_LETTERS⟩ := Cc.LETTERS
  obtain ⟨_, gg_LETTERS_AND_DIGITS⟩ := Cc.ALNUM
  obtain ⟨_, gg_LONGEST_WORD⟩ := Cc.LONGEST
  refine F.okX sc (fun vs H Q E h => ?_) (fun cdv A outer s H vs Q E hr h => ?_)
  · obtain ⟨v, rfl, _⟩ := h
    rfl
  · obtain ⟨v, rfl, ⟨j, hv⟩, k⟩ := h
    refine ⟨_, (pss_cons (ps_if (PW.pt (pw_or (pt_not (tst (pe_callB b_isi (by rfl) T.isinstance boot_isinstance (pa_cons (nm 0) (pa_cons (n_str (by rfl) T.str) pa_nil))))) (pw_or1 (pt_not (pt_chain o_le o_le pe_int (pe_callB b_len (by rfl) T.len boot_len (pa_cons (nm 0) pa_nil)) (pe_gI rfl gg_LONGEST_WORD)))))) (pss_one (ps_ret pe_bl)) pss_nil)
      (pss_one (ps_ret (pe_and (pe_cmpR o_in (pe_ix x_any (nm 0) pe_int (fun _ _ => rfl)) (pe_gS rfl gg_LETTERS) (by rfl)) (pe_one (pe_callB (b_all rfl) (by rfl) T.all boot_all (pa_cons (pe_lc (own := [("sign", 1)]) rfl sc.nd (pi_any (nm 0)) (blkOk_by (N := N) (sc := defScope st) (by decide +kernel)) (fun _ _ _ _ _ => (pg_name (i := 1) sc.nd rfl (Or.inl rfl))) (fun _ _ _ _ _ => pts_nil) (fun _ _ _ _ _ => (pe_cmpR (o_inK K rfl) (nm 1) (pe_gS rfl gg_LETTERS_AND_DIGITS) (by rfl)))) pa_nil))))))), ?_⟩
    have zl : sizeLine = 16777216 := rfl
    by_cases hs : ∃ z, v = .str z
    · obtain ⟨z, rfl⟩ := hs
      have hz := hv z rfl
      have ln := len_cps z
      have kf : isW z = false → ∀ H', Same H H' → Q (.bl false) H' := fun e H' s' => e ▸ k H' s'
      refine ⟨"str", rfl, rfl, by omega, _, rfl, ite2 (fun hp => ⟨_, rfl, ite2 (fun hq => ?_) (fun hq => ?_)⟩) (fun hp => ⟨_, rfl, ?_⟩)⟩
      · have hq' : ¬ decide ((z.length : Int) ≤ 8) = true := by
          intro e
          have hq2 : (!decide ((z.length : Int) ≤ 8)) = true := hq
          rw [e] at hq2
          cases hq2
        have hq3 := of_decide_eq_false (Bool.not_eq_true _ ▸ hq')
        refine kf ?_ H (fun _ _ e => e)
        unfold isW
        cases e : z.cps.toList with
        | nil => rfl
        | cons c r =>
          rw [e] at ln
          rw [wordL_cons, decide_eq_false (by omega)]
          rfl
      · have hp1 := of_decide_eq_true hp
        have hq1 : z.length ≤ 8 := by
          have hq2 : ¬ (!decide ((z.length : Int) ≤ 8)) = true := hq
          simp at hq2
          omega
        cases ez : z.cps.toList with
        | nil => rw [ez] at ln; simp at ln; omega
        | cons c r =>
        have ew : isW z = (decide (c ∈ alpha.cps.toList) && z.cps.toList.all fun x => decide (x ∈ alnum.cps.toList)) := by
          unfold isW
          rw [ez] at ln ⊢
          rw [wordL_cons, decide_eq_true (by omega : (c :: r).length ≤ 8), Bool.true_and]
        have ea : inS (one c) alpha = decide (c ∈ alpha.cps.toList) := inS_one c _
        refine ⟨by omega, c, by rw [ez]; exact atI_zero c r, _, rfl, ite2 (fun hp => ?_) (fun hp => ?_)⟩
        · have hp' : inS (one c) alpha = true := hp
          rw [ea] at hp'
          intro D hD
          refine lc_txt (z := z) (fun i H' => H' = upd H D (.lst (((z.cps.toList.take i).map fun x => decide (x ∈ alnum.cps.toList)).map V.bl))) rfl ?_ ?_
          · rintro i d H' hd rfl
            have e : inS (one d) alnum = decide (d ∈ alnum.cps.toList) := inS_one d _
            refine ⟨rfl, _, upd_same, ?_, ?_⟩
            · rw [List.length_map, List.length_map, List.length_take, ← len_cps]
              omega
            · rw [upd_upd, take_get hd, List.map_append, List.map_append]
              show upd H D (.lst (_ ++ [V.bl (inS (one d) alnum)])) = _
              rw [e]
              rfl
          · rintro H' rfl
            rw [List.take_length]
            refine ⟨_, SqL.of upd_same, ?_⟩
            have k2 := k _ (Same.up (o := .lst ((z.cps.toList.map fun x => decide (x ∈ alnum.cps.toList)).map V.bl)) hD)
            have e2 : wI (.str z) = (z.cps.toList.map fun x => decide (x ∈ alnum.cps.toList)).all id := by
              show isW z = _
              rw [ew, hp', Bool.true_and, List.all_map]
              rfl
            rw [e2] at k2
            exact k2
        · have hp' : ¬ inS (one c) alpha = true := hp
          rw [ea] at hp'
          refine kf ?_ H (fun _ _ e => e)
          rw [ew, (Bool.not_eq_true _).mp hp', Bool.false_and]
      · have hp1 := of_decide_eq_false (Bool.not_eq_true _ ▸ hp)
        refine kf ?_ H (fun _ _ e => e)
        have : z.cps.toList = [] := List.length_eq_zero_iff.mp (by omega)
        unfold isW
        rw [this]
        rfl
    · obtain ⟨t, et, ts, _⟩ := j.ty
      have e : isSub t "str" = false := by
        have h1 : t ≠ "str" := fun h => hs (ts.mp h)
        unfold isSub
        rw [beq_false_of_ne h1]
        simp
      have e2 : wI v = false := by
        cases v <;> first | rfl | exact absurd ⟨_, rfl⟩ hs
      refine ⟨t, et, rfl, ?_⟩
      rw [e]
      have k2 := k H (fun _ _ e => e)
      rw [e2] at k2
      exact k2
theorem pk_chw {C f : Addr} {fd : FuncData} (F : Fun K "check_word" "check_word" p_chw f fd) (T : Txt K mg) (E_BadWord : ErrC K mg "BadWord" C) (P_is_word : FnE P w K mg base (L2.CX P w) 1 "is_word" ["word"] spIsWord) :
    FnOk P w K mg base (L2.CX P w) 2 f fd ["word"] (spCheckWord C) := by
  have sc := pc_chw
  obtain ⟨_, _, P_is_word⟩ := P_is_word
  refine F.okX sc (fun vs H Q E h => ?_) (fun cdv A outer s H vs Q E hr h => ?_)
  · obtain ⟨v, rfl, _⟩ := h
    rfl
  · obtain ⟨v, rfl, j, k1, k2⟩ := h
    have passX : Passes (L2.CX P w) (cxOf (L2.CX P w) P w K mg base ["word"] "check_word" (defScope p_chw) f cdv A outer s H E) E := passes_call (takes_of rfl rfl rfl rfl) (fun _ _ _ _ h => h)
    refine ⟨_, (pss_cons (ps_if (pt_not (tst (fn P_is_word (hr.mono (by decide)) (by rfl) passX (pa_cons (nm 0) pa_nil)))) (pss_one (ps_raise rfl (takes_of rfl rfl rfl rfl) (pmk_own PySem.F.excBase_ValueError E_BadWord.q E_BadWord.g E_BadWord.k (raises_own E_BadWord.b E_BadWord.t) (by rfl)))) pss_nil)
      (pss_one (ps_ret (nm 0)))), ?_⟩
    refine ⟨v, rfl, j, fun H' s' => ?_⟩
    cases e : wI v with
    | true => exact k1 e H' s'
    | false => exact k2 e H' s'
theorem pk_slo {C f : Addr} {fd : FuncData} (F : Fun K "slots_below" "slots_below" p_slo f fd) (T : Txt K mg) (Cc : Cs mg) (E_BadLot : ErrC K mg "BadLot" C) : FnOk P w K mg base (L2.CX P w) 1 f fd ["size"] (spSlots C) := by
  have sc := pc_slo
  obtain ⟨_, gg_ALL_SLOTS⟩ := Cc.SLOTS
  refine F.okX sc (fun vs H Q E h => ?_) (fun cdv A outer s H vs Q E hr h => ?_)
  · obtain ⟨v, rfl, _⟩ := h
    rfl
  · obtain ⟨v, rfl, j, k1, k2⟩ := h
    refine ⟨_, (pss_cons (ps_if (PW.pt (pw_or (tst (pe_callB b_isi (by rfl) T.isinstance boot_isinstance (pa_cons (nm 0) (pa_cons (n_bool (by rfl) T.bool) pa_nil)))) (pw_or (pt_not (tst (pe_callB b_isi (by rfl) T.isinstance boot_isinstance (pa_cons (nm 0) (pa_cons (n_int (by rfl) T.int) pa_nil))))) (pw_or1 (pt_not (pt_chain o_le o_le pe_int (nm 0) pe_int)))))) (pss_one (ps_raise rfl (takes_of rfl rfl rfl rfl) (pmk_own PySem.F.excBase_ValueError E_BadLot.q E_BadLot.g E_BadLot.k (raises_own E_BadLot.b E_BadLot.t) (by rfl)))) pss_nil)
      (pss_one (ps_ret (pe_slice sl_any (pe_gS rfl gg_ALL_SLOTS) po_none (po (nm 0)))))), ?_⟩
    by_cases hi : ∃ i, v = .int i
    · obtain ⟨i, rfl⟩ := hi
      refine ⟨"int", rfl, rfl, "int", rfl, rfl, _, rfl, ite2 (fun hp => ⟨_, rfl, ite2 (fun hq => k2 ?_) (fun hq => ?_)⟩) (fun hp => ⟨_, rfl, k2 ?_⟩)⟩
      · have hq2 : (!decide (i ≤ 6)) = true := hq
        show (!(decide (1 ≤ i) && decide (i ≤ 6))) = true
        cases h6 : decide (i ≤ 6)
        · rw [Bool.and_false]; rfl
        · rw [h6] at hq2; cases hq2
      · have hq2 : ¬ (!decide (i ≤ 6)) = true := hq
        simp at hq2
        exact ⟨by decide, k1 i rfl (of_decide_eq_true hp) hq2⟩
      · have hp2 : ¬ decide (1 ≤ i) = true := hp
        show (!(decide (1 ≤ i) && decide (i ≤ 6))) = true
        rw [(Bool.not_eq_true _).mp hp2, Bool.false_and]
        rfl
    · obtain ⟨t, et, ts, ti, tb⟩ := j.ty
      have e2 : badS v = true := by
        cases v <;> first | rfl | exact absurd ⟨_, rfl⟩ hi
      have h1 : t ≠ "int" := fun h => hi (ti.mp h)
      refine ⟨t, et, rfl, ?_⟩
      by_cases hb : t = "bool"
      · subst hb
        exact k2 e2
      · have e3 : isSub t "bool" = false := by
          unfold isSub
          rw [beq_false_of_ne hb]
          rfl
        have e4 : isSub t "int" = false := by
          unfold isSub
          rw [beq_false_of_ne hb, beq_false_of_ne h1]
          rfl
        rw [e3]
        refine ⟨t, et, rfl, ?_⟩
        rw [e4]
        exact k2 e2
end
end K0
namespace K0
open PySem PySem.Spec PyProof.Rows L2 Bs
abbrev p_chl : Stmt := top 26
theorem pc_chl : FnScope ["lot", "size", "slots", "last", "slot"] ["lot", "size"] (defScope p_chl) := ⟨rfl, rfl, rfl, by decide +kernel, rfl, by decide +kernel, by decide +kernel⟩
def spCheckLot (C : Addr) : Sp := fun vs H Q E => ∃ v nv, vs = [v, nv] ∧ Arg H v ∧ Jk H nv ∧ (∀ n z, nv = .int n → 1 ≤ n → n ≤ 6 → v = .str z → isL n z = true → ∀ H', Same H H' → Q v H') ∧
  ((badS nv = true ∨ ∃ n, nv = .int n ∧ 1 ≤ n ∧ n ≤ 6 ∧ badL n v = true) → ∀ H', Same H H' → E (.ref C) none H')
abbrev p_mkl : Stmt := top 27
theorem pc_mkl : FnScope ["letters", "size", "slots", "letter", "slot"] ["letters", "size"] (defScope p_mkl) := ⟨rfl, rfl, rfl, by decide +kernel, rfl, by decide +kernel, by decide +kernel⟩
/-- the letters are no slots -/
def badM (n : Int) : V → Bool
  | .str z => !(z.cps.toList.all fun c => decide (c ∈ (below n).cps.toList))
  | _ => true
def spMakeLot (C : Addr) : Sp := fun vs H Q E => ∃ v nv, vs = [v, nv] ∧ Arg H v ∧ Jk H nv ∧ (∀ n z, nv = .int n → 1 ≤ n → n ≤ 6 → v = .str z → badM n v = false → ∀ H', Same H H' → Q (.str (tx (normL n z))) H') ∧
  ((badS nv = true ∨ ∃ n, nv = .int n ∧ 1 ≤ n ∧ n ≤ 6 ∧ badM n v = true) → ∀ H', Same H H' → E (.ref C) none H')
def lastT : Option Nat → Str
  | none => ""
  | some d => one d
theorem last_lt (l : Option Nat) (c : Nat) : decide ((lastT l).cps.toList < (one c).cps.toList) = after l c := by
  cases l with
  | none => rfl
  | some d =>
    show decide ([d] < [c]) = decide (d < c)
    rw [decide_eq_decide]
    simp [List.cons_lt_cons_iff]
theorem not_str {H : Hp} {v : V} (j : Jk H v) (hs : ¬ ∃ z, v = .str z) : ∃ t, tyOf H v = some t ∧ isSub t "str" = false := by
  obtain ⟨t, et, ts, _⟩ := j.ty
  refine ⟨t, et, ?_⟩
  have h1 : t ≠ "str" := fun h => hs (ts.mp h)
  unfold isSub
  rw [beq_false_of_ne h1]
  simp
section
variable {P : Program} {w : World} {K : PySem.W.Frag} {mg : Str → Option Value} {base : Heap}
theorem pk_chl {C f : Addr} {fd : FuncData} (F : FunD K "check_lot" "check_lot" (defArgs p_chl) (defBody p_chl) (defScope p_chl) [.int 6] [] f fd) (T : Txt K mg) (E_BadLot : ErrC K mg "BadLot" C) (P_slots_below : FnE P w K mg base (L2.CX P w) 1 "slots_below" ["size"] (spSlots C)) :
    FnOk P w K mg base (L2.CX P w) 2 f fd ["lot", "size"] (spCheckLot C) := by
  have sc := pc_chl
  obtain ⟨_, _, P_slots_below⟩ := P_slots_below
  refine F.ok sc (fun vs H Q E h => ?_) (fun cdv A outer s H vs Q E hr h => ?_)
  · obtain ⟨v, nv, rfl, _⟩ := h
    rfl
  · obtain ⟨v, nv, rfl, ⟨j, hv⟩, jn, k1, k2⟩ := h
    have passX : Passes (L2.CX P w) (cxOf (L2.CX P w) P w K mg base ["lot", "size", "slots", "last", "slot"] "check_lot" (defScope p_chl) f cdv A outer s H E) E := passes_call (takes_of rfl rfl rfl rfl) (fun _ _ _ _ h => h)
    refine ⟨_, (pss_cons (ps_set (i := 2) sc.nd rfl (Or.inl rfl) (fn P_slots_below (hr.mono (by decide)) (by rfl) passX (pa_cons (nm 1) pa_nil)))
      (pss_cons (ps_if (pt_not (tst (pe_callB b_isi (by rfl) T.isinstance boot_isinstance (pa_cons (nm 0) (pa_cons (n_str (by rfl) T.str) pa_nil))))) (pss_one (ps_raise rfl (takes_of rfl rfl rfl rfl) (pmk_own PySem.F.excBase_ValueError E_BadLot.q E_BadLot.g E_BadLot.k (raises_own E_BadLot.b E_BadLot.t) (by rfl)))) pss_nil)
      (pss_cons (ps_set (i := 3) sc.nd rfl (Or.inl rfl) pe_str)
      (pss_cons (ps_for (passes_of rfl) rfl (pi_any (nm 0)) (pg_name (i := 4) sc.nd rfl (Or.inl rfl)) (pss_cons (ps_if (PW.pt (pw_or (cmpT o_notIn (nm 4) (nm 2) (by rfl)) (pw_or1 (cmpT o_le (nm 4) (nm 3) (nomark _))))) (pss_one (ps_raise rfl (takes_of rfl rfl rfl rfl) (pmk_own PySem.F.excBase_ValueError E_BadLot.q E_BadLot.g E_BadLot.k (raises_own E_BadLot.b E_BadLot.t) (by rfl)))) pss_nil)
      (pss_one (ps_set (i := 3) sc.nd rfl (Or.inl rfl) (nm 4)))))
      (pss_one (ps_ret (nm 0))))))), ?_⟩
    refine ⟨nv, rfl, jn, fun n en n1 n6 => ?_, fun hb => k2 (.inl hb) H (fun _ _ e => e)⟩
    by_cases hs : ∃ z, v = .str z
    · obtain ⟨z, rfl⟩ := hs
      refine ⟨"str", rfl, rfl, ?_⟩
      refine for_txt (z := z) (fun i σ H' => H' = H ∧ ∃ (l : Option Nat) (u : Option V), σ = [some (.str z), some nv, some (.str (below n)), some (.str (lastT l)), u] ∧ isL n z = lotL (below n).cps.toList l (z.cps.toList.drop i)) ⟨rfl, none, none, rfl, rfl⟩ ?_ ?_
      · rintro i c σ H' hc ⟨rfl, l, u, rfl, hl⟩
        have ed : z.cps.toList.drop i = c :: z.cps.toList.drop (i + 1) := by
          obtain ⟨hi, e⟩ := List.getElem?_eq_some_iff.mp hc
          rw [List.drop_eq_getElem_cons hi, e]
        have e : inS (one c) (below n) = decide (c ∈ (below n).cps.toList) := inS_one c _
        rw [ed] at hl
        have hl2 : isL n z = (decide (c ∈ (below n).cps.toList) && (after l c && lotL (below n).cps.toList (some c) (z.cps.toList.drop (i + 1)))) := hl
        refine ite2 (fun hp => ?_) (fun hp => ?_)
        · have hp' : (!inS (one c) (below n)) = true := hp
          rw [e] at hp'
          refine k2 (.inr ⟨n, en, n1, n6, badL_of ?_⟩) H' (fun _ _ e => e)
          rw [hl2, show decide (c ∈ (below n).cps.toList) = false by simpa using hp', Bool.false_and]
        · have hp' : ¬ (!inS (one c) (below n)) = true := hp
          rw [e] at hp'
          have hp2 : decide (c ∈ (below n).cps.toList) = true := by simpa using hp'
          rw [hp2, Bool.true_and, ← last_lt] at hl2
          refine ite2 (fun hq => ?_) (fun hq => ?_)
          · have hq' : (!decide ((lastT l).cps.toList < (one c).cps.toList)) = true := hq
            refine k2 (.inr ⟨n, en, n1, n6, badL_of ?_⟩) H' (fun _ _ e => e)
            rw [hl2, show decide ((lastT l).cps.toList < (one c).cps.toList) = false by simpa using hq', Bool.false_and]
          · have hq' : ¬ (!decide ((lastT l).cps.toList < (one c).cps.toList)) = true := hq
            refine ⟨rfl, some c, _, rfl, ?_⟩
            rw [hl2, show decide ((lastT l).cps.toList < (one c).cps.toList) = true by simpa using hq', Bool.true_and]
      · rintro σ H' ⟨rfl, l, u, rfl, hl⟩
        rw [List.drop_length] at hl
        exact k1 n z en n1 n6 rfl (by rw [hl]; rfl) H' (fun _ _ e => e)
    · obtain ⟨t, et, e⟩ := not_str j hs
      have e2 : badL n v = true := by
        cases v <;> first | rfl | exact absurd ⟨_, rfl⟩ hs
      refine ⟨t, et, rfl, ?_⟩
      rw [e]
      exact k2 (.inr ⟨n, en, n1, n6, e2⟩) H (fun _ _ e => e)
theorem pk_mkl {C f : Addr} {fd : FuncData} (F : FunD K "make_lot" "make_lot" (defArgs p_mkl) (defBody p_mkl) (defScope p_mkl) [.int 6] [] f fd) (T : Txt K mg) (E_BadLot : ErrC K mg "BadLot" C) (P_slots_below : FnE P w K mg base (L2.CX P w) 1 "slots_below" ["size"] (spSlots C)) :
    FnOk P w K mg base (L2.CX P w) 2 f fd ["letters", "size"] (spMakeLot C) := by
  have sc := pc_mkl
  let st := p_mkl
  let N : List Str := ["letters", "size", "slots", "letter", "slot"]
  obtain ⟨_, _, P_slots_below⟩ := P_slots_below
  refine F.ok sc (fun vs H Q E h => ?_) (fun cdv A outer s H vs Q E hr h => ?_)
  · obtain ⟨v, nv, rfl, _⟩ := h
    rfl
  · obtain ⟨v, nv, rfl, ⟨j, hv⟩, jn, k1, k2⟩ := h
    have passX : Passes (L2.CX P w) (cxOf (L2.CX P w) P w K mg base ["letters", "size", "slots", "letter", "slot"] "make_lot" (defScope p_mkl) f cdv A outer s H E) E := passes_call (takes_of rfl rfl rfl rfl) (fun _ _ _ _ h => h)
    refine ⟨_, (pss_cons (ps_set (i := 2) sc.nd rfl (Or.inl rfl) (fn P_slots_below (hr.mono (by decide)) (by rfl) passX (pa_cons (nm 1) pa_nil)))
      (pss_cons (ps_if (pt_not (tst (pe_callB b_isi (by rfl) T.isinstance boot_isinstance (pa_cons (nm 0) (pa_cons (n_str (by rfl) T.str) pa_nil))))) (pss_one (ps_raise rfl (takes_of rfl rfl rfl rfl) (pmk_own PySem.F.excBase_ValueError E_BadLot.q E_BadLot.g E_BadLot.k (raises_own E_BadLot.b E_BadLot.t) (by rfl)))) pss_nil)
      (pss_cons (ps_for (passes_of rfl) rfl (pi_any (nm 0)) (pg_name (i := 3) sc.nd rfl (Or.inl rfl)) (pss_one (ps_if (cmpT o_notIn (nm 3) (nm 2) (by rfl)) (pss_one (ps_raise rfl (takes_of rfl rfl rfl rfl) (pmk_own PySem.F.excBase_ValueError E_BadLot.q E_BadLot.g E_BadLot.k (raises_own E_BadLot.b E_BadLot.t) (by rfl)))) pss_nil)))
      (pss_one (ps_ret (pe_join pe_str (pe_lc (own := [("slot", 4)]) rfl sc.nd (pi_any (nm 2)) (blkOk_by (N := N) (sc := defScope st) (by decide +kernel)) (fun _ _ _ _ _ => (pg_name (i := 4) sc.nd rfl (Or.inl rfl))) (fun _ _ _ _ _ => (pts_one (cmpT (o_inK K rfl) (nm 4) (nm 0) (by rfl)))) (fun _ _ _ _ _ => (nm 4))))))))), ?_⟩
    have zl : sizeLine = 16777216 := rfl
    refine ⟨nv, rfl, jn, fun n en n1 n6 => ?_, fun hb => k2 (.inl hb) H (fun _ _ e => e)⟩
    have bl := below_len n1 n6
    by_cases hs : ∃ z, v = .str z
    · obtain ⟨z, rfl⟩ := hs
      refine ⟨"str", rfl, rfl, ?_⟩
      refine for_txt (z := z) (fun i σ H' => H' = H ∧ ∃ (u : Option V), σ = [some (.str z), some nv, some (.str (below n)), u, none] ∧ badM n (.str z) = !((z.cps.toList.drop i).all fun c => decide (c ∈ (below n).cps.toList))) ⟨rfl, none, rfl, rfl⟩ ?_ ?_
      · rintro i c σ H' hc ⟨rfl, u, rfl, hl⟩
        have ed : z.cps.toList.drop i = c :: z.cps.toList.drop (i + 1) := by
          obtain ⟨hi, e⟩ := List.getElem?_eq_some_iff.mp hc
          rw [List.drop_eq_getElem_cons hi, e]
        have e : inS (one c) (below n) = decide (c ∈ (below n).cps.toList) := inS_one c _
        rw [ed, List.all_cons] at hl
        refine ite2 (fun hp => ?_) (fun hp => ?_)
        · have hp' : (!inS (one c) (below n)) = true := hp
          rw [e] at hp'
          refine k2 (.inr ⟨n, en, n1, n6, ?_⟩) H' (fun _ _ e => e)
          rw [hl, show decide (c ∈ (below n).cps.toList) = false by simpa using hp', Bool.false_and]
          rfl
        · have hp' : ¬ (!inS (one c) (below n)) = true := hp
          rw [e] at hp'
          have hp2 : decide (c ∈ (below n).cps.toList) = true := by simpa using hp'
          rw [hp2, Bool.true_and] at hl
          exact ⟨rfl, _, rfl, hl⟩
      · rintro σ H' ⟨rfl, u, rfl, hl⟩
        rw [List.drop_length] at hl
        have hz := hv z rfl
        refine ⟨⟨_, rfl⟩, fun D hD => ?_⟩
        refine lc_filt (z := below n) (fun c => decide (c ∈ z.cps.toList)) (by omega) (fun c H' N M _ ⟨acc, h1, h2, h3⟩ hM _ => ⟨rfl, ?_⟩) ?_
        · have e : inS (one c) z = decide (c ∈ z.cps.toList) := inS_one c _
          refine ite2 (fun hp => ⟨acc, h1, h2, h3 ?_⟩) (fun hp => hM ?_)
          · have hp' : inS (one c) z = true := hp
            rw [e] at hp'
            exact hp'
          · have hp' : ¬ inS (one c) z = true := hp
            rw [e] at hp'
            exact (Bool.not_eq_true _).mp hp'
        · refine ⟨_, D, (normL n z).map one, rfl, rfl, .inl (SqL.of upd_same), ?_, ?_⟩
          · rw [sum_ones, List.length_map]
            have h1 : (normL n z).length ≤ (below n).cps.toList.length := List.length_filter_le _ _
            rw [← len_cps, bl] at h1
            show (normL n z).length + (normL n z).length * 0 ≤ 16777216
            omega
          · rw [join_ones rfl]
            exact k1 n z en n1 n6 rfl hl _ (Same.up hD)
    · obtain ⟨t, et, e⟩ := not_str j hs
      have e2 : badM n v = true := by
        cases v <;> first | rfl | exact absurd ⟨_, rfl⟩ hs
      refine ⟨t, et, rfl, ?_⟩
      rw [e]
      exact k2 (.inr ⟨n, en, n1, n6, e2⟩) H (fun _ _ e => e)
end
end K0
namespace K0
open PySem PySem.Spec PyProof.Rows L2 Bs
mutual
/-- data laid at tracked places -/
inductive Dq (H : Hp) : V → PyData → Prop
  | non : Dq H .non .none
  | bl (b : Bool) : Dq H (.bl b) (.bool b)
  | int (i : Int) : Dq H (.int i) (.int i)
  | str (x : Str) : Dq H (.str x) (.str x)
  | lst {p : Addr} {xs : List V} {ds : List PyData} : H p = some (.lst xs) → DqAll H xs ds → Dq H (.ref p) (.list ds)
  | tup {p : Addr} {xs : List V} {ds : List PyData} : H p = some (.tup xs) → DqAll H xs ds → Dq H (.ref p) (.tuple ds)
inductive DqAll (H : Hp) : List V → List PyData → Prop
  | nil : DqAll H [] []
  | cons {v : V} {vs : List V} {d : PyData} {ds : List PyData} : Dq H v d → DqAll H vs ds → DqAll H (v :: vs) (d :: ds)
end
mutual
def sz : PyData → Nat
  | .list ds => szAll ds + 1
  | .tuple ds => szAll ds + 1
  | _ => 1
def szAll : List PyData → Nat
  | [] => 0
  | d :: ds => sz d + szAll ds
end
theorem sz_pos (d : PyData) : 1 ≤ sz d := by cases d <;> simp [sz]
theorem DqAll.len {H : Hp} : ∀ {xs : List V} {ds : List PyData}, DqAll H xs ds → xs.length = ds.length
  | _, _, .nil => rfl
  | _, _, .cons _ t => by simp [t.len]
theorem DqAll.get {H : Hp} : ∀ {xs : List V} {ds : List PyData}, DqAll H xs ds → ∀ {j : Nat} {x : V}, xs[j]? = some x → ∃ d, ds[j]? = some d ∧ Dq H x d
  | _, _, .nil, j, x, h => by cases h
  | _, _, .cons h t, 0, x, e => by cases e; exact ⟨_, rfl, h⟩
  | _, _, .cons h t, j + 1, x, e => t.get (j := j) (by simpa using e)
/-- the pairs that are still to be compared -/
structure Wait (H0 H : Hp) (L : Addr) (its : List (Addr × PyData)) : Prop where
  at_ : H L = some (.lst (its.map fun it => V.ref it.1))
  all : ∀ it ∈ its, ∃ x y, H it.1 = some (.tup [x, y]) ∧ Dq H0 x it.2 ∧ Dq H0 y it.2
theorem Wait.more {H0 H H' : Hp} {L : Addr} {ini more : List (Addr × PyData)} (W : Wait H0 H L ini) (e : H' L = some (.lst ((ini ++ more).map fun it => V.ref it.1))) (h1 : ∀ b o, b ≠ L → H b = some o → H' b = some o)
    (h2 : ∀ it ∈ more, ∃ x y, H' it.1 = some (.tup [x, y]) ∧ Dq H0 x it.2 ∧ Dq H0 y it.2) : Wait H0 H' L (ini ++ more) := ⟨e, fun it hi => by
  rcases List.mem_append.mp hi with hi | hi
  · obtain ⟨x, y, a, b⟩ := W.all it hi
    exact ⟨x, y, h1 _ _ (fun z => by rw [z, W.at_] at a; cases a) a, b⟩
  · exact h2 it hi⟩
theorem wait_len (its : List (Addr × PyData)) : its.length ≤ (its.map fun it => sz it.2).sum := by
  induction its with
  | nil => exact Nat.le_refl _
  | cons a r ih =>
    have := sz_pos a.2
    simp only [List.length_cons, List.map_cons, List.sum_cons]
    omega
theorem zip_its {H0 H : Hp} {xs ys : List V} {ts : List Addr} : ∀ {ds : List PyData}, DqAll H0 xs ds → DqAll H0 ys ds → ts.length = xs.length → (∀ (j : Nat) (t : Addr), ts[j]? = some t → ∃ x y, xs[j]? = some x ∧ ys[j]? = some y ∧ H t = some (.tup [x, y])) →
    ∃ its : List (Addr × PyData), its.map (·.1) = ts ∧ (its.map fun it => sz it.2).sum = szAll ds ∧ its.length = ds.length ∧ ∀ it ∈ its, ∃ x y, H it.1 = some (.tup [x, y]) ∧ Dq H0 x it.2 ∧ Dq H0 y it.2 := by
  intro ds h1 h2 hl hp
  have hd := h1.len
  refine ⟨ts.zip ds, ?_, ?_, ?_, ?_⟩
  · exact List.map_fst_zip (by omega)
  · have e : (ts.zip ds).map (fun it => sz it.2) = ds.map sz := by
      have := List.map_snd_zip (l₁ := ts) (l₂ := ds) (by omega)
      calc (ts.zip ds).map (fun it => sz it.2) = ((ts.zip ds).map (·.2)).map sz := by rw [List.map_map]; rfl
        _ = ds.map sz := by rw [this]
    rw [e]
    clear h1 h2 hl hp hd e
    induction ds with
    | nil => rfl
    | cons d r ih => simp [szAll, ih]
  · rw [List.length_zip]; omega
  · intro it hi
    obtain ⟨j, hj⟩ := List.mem_iff_getElem?.mp hi
    rw [List.getElem?_zip_eq_some] at hj
    obtain ⟨x, y, e1, e2, e3⟩ := hp j _ hj.1
    obtain ⟨d1, f1, f2⟩ := h1.get e1
    obtain ⟨d2, g1, g2⟩ := h2.get e2
    rw [hj.2] at f1 g1
    cases f1
    cases g1
    exact ⟨x, y, e3, f2, g2⟩
abbrev s_same : Stmt := top 41
theorem sc_same : FnScope ["told", "due", "pairs", "k", "one", "two"] ["told", "due"] (defScope s_same) := ⟨rfl, rfl, rfl, by decide +kernel, rfl, by decide +kernel, by decide +kernel⟩
def spSame : Sp := fun vs H Q _ => ∃ x y d, vs = [x, y] ∧ Dq H x d ∧ Dq H y d ∧ sz d < 400000 ∧ ∀ H', Same H H' → Q (.bl true) H'
section
variable {P : Program} {w : World} {K : PySem.W.Frag} {mg : Str → Option Value} {base : Heap}
theorem ok_same {f : Addr} {fd : FuncData} (F : Fun K "_law_same" "_law_same" s_same f fd) (T : Txt K mg) : FnOk P w K mg base CX0 1 f fd ["told", "due"] spSame := by
  have sc := sc_same
  refine F.ok sc (fun vs H Q E h => ?_) (fun cdv A outer s H vs Q E hr h => ?_)
  · obtain ⟨x, y, d, rfl, _⟩ := h
    rfl
  · obtain ⟨x0, y0, d0, rfl, hx, hy, hd, k⟩ := h
    refine ⟨_, (pss_cons (ps_set (i := 2) sc.nd rfl (Or.inl rfl) (pe_lst (pa_cons (pe_tup (pa_cons (nm 0) (pa_cons (nm 1) pa_nil))) pa_nil)))
      (pss_cons (ps_for PassesOwn.never rfl (pi_range1 rfl T.range (pa_cons pe_int pa_nil)) (pg_name (i := 3) sc.nd rfl (Or.inl rfl)) (pss_cons (ps_if (cmpT (o_eq hr) (pe_callB b_len (by rfl) T.len boot_len (pa_cons (nm 2) pa_nil)) pe_int (nomark _)) (pss_one (ps_ret pe_bl)) pss_nil)
      (pss_cons (ps_asg (pe_bm0 PySem.F.plainAttrs_list PySem.F.slot_list_pop PySem.F.type_list_pop mt_pop (nm 2)) (pg_any rfl (pgs_cons (pg_name (i := 4) sc.nd rfl (Or.inl rfl)) (pgs_cons (pg_name (i := 5) sc.nd rfl (Or.inl rfl)) pgs_nil))))
      (pss_one (ps_if (cmpT o_is (nm 5) pe_non (nomark _)) (pss_one (ps_if (cmpT o_isNot (nm 4) pe_non (nomark _)) (pss_one (ps_ret pe_bl)) pss_nil)) (pss_one (ps_if (tst (pe_callB b_isi (by rfl) T.isinstance boot_isinstance (pa_cons (nm 5) (pa_cons (n_bool (by rfl) T.bool) pa_nil)))) (pss_one (ps_if (PW.pt (pw_or (pt_not (tst (pe_callB b_isi (by rfl) T.isinstance boot_isinstance (pa_cons (nm 4) (pa_cons (n_bool (by rfl) T.bool) pa_nil))))) (pw_or1 (cmpT (o_ne hr) (nm 4) (nm 5) (nomark _))))) (pss_one (ps_ret pe_bl)) pss_nil)) (pss_one (ps_if (tst (pe_callB b_isi (by rfl) T.isinstance boot_isinstance (pa_cons (nm 5) (pa_cons (n_int (by rfl) T.int) pa_nil)))) (pss_one (ps_if (PW.pt (pw_or (pt_not (tst (pe_callB b_isi (by rfl) T.isinstance boot_isinstance (pa_cons (nm 4) (pa_cons (n_int (by rfl) T.int) pa_nil))))) (pw_or (tst (pe_callB b_isi (by rfl) T.isinstance boot_isinstance (pa_cons (nm 4) (pa_cons (n_bool (by rfl) T.bool) pa_nil)))) (pw_or1 (cmpT (o_ne hr) (nm 4) (nm 5) (nomark _)))))) (pss_one (ps_ret pe_bl)) pss_nil)) (pss_one (ps_if (tst (pe_callB b_isi (by rfl) T.isinstance boot_isinstance (pa_cons (nm 5) (pa_cons (n_str (by rfl) T.str) pa_nil)))) (pss_one (ps_if (PW.pt (pw_or (pt_not (tst (pe_callB b_isi (by rfl) T.isinstance boot_isinstance (pa_cons (nm 4) (pa_cons (n_str (by rfl) T.str) pa_nil))))) (pw_or1 (cmpT (o_ne hr) (nm 4) (nm 5) (nomark _))))) (pss_one (ps_ret pe_bl)) pss_nil)) (pss_one (ps_if (tst (pe_callB b_isi (by rfl) T.isinstance boot_isinstance (pa_cons (nm 5) (pa_cons (n_dict (by rfl) T.dict) pa_nil)))) (pss_cons (ps_if (PW.pt (pw_or (pt_not (tst (pe_callB b_isi (by rfl) T.isinstance boot_isinstance (pa_cons (nm 4) (pa_cons (n_dict (by rfl) T.dict) pa_nil))))) (pw_or1 (cmpT (o_ne hr) (pe_callB b_len (by rfl) T.len boot_len (pa_cons (nm 4) pa_nil)) (pe_callB b_len (by rfl) T.len boot_len (pa_cons (nm 5) pa_nil)) (nomark _))))) (pss_one (ps_ret pe_bl)) pss_nil)
      (pss_one (ps_expr (pe_bm PySem.F.plainAttrs_list PySem.F.slot_list_append PySem.F.type_list_append mt_append (nm 2) (pa_cons (pe_tup (pa_cons pe_no (pa_cons pe_no pa_nil))) pa_nil))))) (pss_cons (ps_if (PW.pt (pw_or (cmpT (o_ne hr) (pe_callB b_isi (by rfl) T.isinstance boot_isinstance (pa_cons (nm 5) (pa_cons (n_list (by rfl) T.list) pa_nil))) (pe_callB b_isi (by rfl) T.isinstance boot_isinstance (pa_cons (nm 4) (pa_cons (n_list (by rfl) T.list) pa_nil))) (nomark _)) (pw_or1 (cmpT (o_ne hr) (pe_callB b_isi (by rfl) T.isinstance boot_isinstance (pa_cons (nm 5) (pa_cons (n_tuple (by rfl) T.tuple) pa_nil))) (pe_callB b_isi (by rfl) T.isinstance boot_isinstance (pa_cons (nm 4) (pa_cons (n_tuple (by rfl) T.tuple) pa_nil))) (nomark _))))) (pss_one (ps_ret pe_bl)) pss_nil)
      (pss_cons (ps_if (PW.pt (pw_or (PW.pt (pw_and (pt_not (tst (pe_callB b_isi (by rfl) T.isinstance boot_isinstance (pa_cons (nm 5) (pa_cons (n_list (by rfl) T.list) pa_nil))))) (pw_and1 (pt_not (tst (pe_callB b_isi (by rfl) T.isinstance boot_isinstance (pa_cons (nm 5) (pa_cons (n_tuple (by rfl) T.tuple) pa_nil)))))))) (pw_or1 (cmpT (o_ne hr) (pe_callB b_len (by rfl) T.len boot_len (pa_cons (nm 4) pa_nil)) (pe_callB b_len (by rfl) T.len boot_len (pa_cons (nm 5) pa_nil)) (nomark _))))) (pss_one (ps_ret pe_bl)) pss_nil)
      (pss_one (ps_expr (pe_bm PySem.F.plainAttrs_list PySem.F.slot_list_extend PySem.F.type_list_extend mt_extend (nm 2) (pa_cons (pe_listzip (by rfl) T.list (by rfl) T.zip (pa_cons (pe_callTy b_list (by rfl) T.list (by decide +kernel) (pa_cons (nm 4) pa_nil)) (pa_cons (pe_callTy b_list (by rfl) T.list (by decide +kernel) (pa_cons (nm 5) pa_nil)) pa_nil))) pa_nil)))))))))))))))))))
      (pss_one (ps_ret pe_bl)))), ?_⟩
    refine ⟨by show 2 ≤ sizeLine; decide, fun p0 hp0 => ⟨by show 1 ≤ sizeLine; decide, fun L hL => ?_⟩⟩
    have hL0 : H L = none := by
      by_cases e : L = p0
      · rw [e]; exact hp0
      · rw [upd_ne e] at hL; exact hL
    refine ⟨_, rfl, by decide, by decide, for_range (lo := 0) (n := 400000) (fun i σ H' => Same H H' ∧ (∃ its, Wait H H' L its ∧ (its.map fun it => sz it.2).sum + i ≤ sz d0) ∧ ∃ u1 u2 u3, σ = [some x0, some y0, some (.ref L), u1, u2, u3]) ⟨?_, ⟨[(p0, d0)], ⟨upd_same, ?_⟩, ?_⟩, none, none, none, rfl⟩ ?_ ?_⟩
    · exact Same.tr (Same.up hp0) (Same.up hL)
    · intro it hi
      cases List.mem_singleton.mp hi
      exact ⟨x0, y0, Same.up hL _ _ upd_same, hx, hy⟩
    · simp
    · rintro i σ H1 hi ⟨hs, ⟨its, W, hB⟩, u1, u2, u3, rfl⟩
      refine .inl ⟨_, .inl (SqL.of W.at_), rfl, ite2 (fun hp => ?_) (fun hp => ?_)⟩
      · exact k H1 hs
      rcases List.eq_nil_or_concat its with rfl | ⟨ini, it, rfl⟩
      · exact absurd rfl hp
      obtain ⟨x, y, hit, dx, dy⟩ := W.all it (by simp)
      have WA := W.at_
      have nit : it.1 ≠ L := fun e => by
        rw [e, WA] at hit
        cases hit
      refine ⟨.inl ⟨rfl, _, SqL.of WA⟩, L, _, .ref it.1, rfl, rfl, WA, by simp, ?_⟩
      have hit2 : upd H1 L (.lst ((List.map (fun it => V.ref it.1) (ini.concat it)).dropLast)) it.1 = some (.tup [x, y]) := (upd_ne nit).trans hit
      have e2 : (List.map (fun it : Addr × PyData => V.ref it.1) (ini.concat it)).dropLast = ini.map fun it => V.ref it.1 := by simp
      rw [e2] at hit2 ⊢
      refine ⟨[x, y], .inr (SqT.of hit2), rfl, ?_⟩
      have hs2 : Same H (upd H1 L (.lst (ini.map fun it => V.ref it.1))) := fun b o e => by
        rw [upd_ne (ne_of_none e hL0)]
        exact hs b o e
      have W2 : Wait H (upd H1 L (.lst (ini.map fun it => V.ref it.1))) L ini := ⟨upd_same, fun jt hj => by
        obtain ⟨u, v, h1, h2⟩ := W.all jt (by simp [hj])
        refine ⟨u, v, ?_, h2⟩
        rw [upd_ne (fun e => by rw [e, WA] at h1; cases h1)]
        exact h1⟩
      have hB2 : (ini.map fun it => sz it.2).sum + sz it.2 + i ≤ sz d0 := by
        rw [List.concat_eq_append, List.map_append, List.sum_append] at hB
        simpa using hB
      generalize upd H1 L (.lst (ini.map fun it => V.ref it.1)) = H2 at hs2 W2 ⊢
      have fin : ∀ σ, σ = [some x0, some y0, some (.ref L), some (.int (0 + (i : Int))), some x, some y] → (fun i σ H' => Same H H' ∧ (∃ its, Wait H H' L its ∧ (its.map fun it => sz it.2).sum + i ≤ sz d0) ∧ ∃ u1 u2 u3, σ = [some x0, some y0, some (.ref L), u1, u2, u3]) (i + 1) σ H2 := fun σ e => ⟨hs2, ⟨ini, W2, by have := sz_pos it.2; omega⟩, _, _, _, e⟩
      cases ed : it.2 with
      | none =>
        rw [ed] at dx dy
        cases dx
        cases dy
        exact ⟨_, _, rfl, _, _, rfl, rfl, fin _ rfl⟩
      | bool b =>
        rw [ed] at dx dy
        cases dx
        cases dy
        refine ⟨_, _, rfl, _, _, rfl, rfl, "bool", rfl, rfl, "bool", rfl, rfl, rfl, ite2 (fun h => ?_) (fun _ => fin _ rfl)⟩
        simp at h
      | int n =>
        rw [ed] at dx dy
        cases dx
        cases dy
        refine ⟨_, _, rfl, _, _, rfl, rfl, "int", rfl, rfl, "int", rfl, rfl, "int", rfl, rfl, "int", rfl, rfl, rfl, ite2 (fun h => ?_) (fun _ => fin _ rfl)⟩
        simp at h
      | str z =>
        rw [ed] at dx dy
        cases dx
        cases dy
        refine ⟨_, _, rfl, _, _, rfl, rfl, "str", rfl, rfl, "str", rfl, rfl, "str", rfl, rfl, "str", rfl, rfl, rfl, ite2 (fun h => ?_) (fun _ => fin _ rfl)⟩
        simp at h
      | dict kvs =>
        rw [ed] at dx
        cases dx
      | list ds =>
        rw [ed] at dx dy
        cases dx with
        | @lst p xs _ p1 p2 =>
        cases dy with
        | @lst q ys _ q1 q2 =>
        have lx := p2.len
        have ly := q2.len
        have tp : tyOf H2 (.ref p) = some "list" := by simp [tyOf, hs2 _ _ p1]
        have tq : tyOf H2 (.ref q) = some "list" := by simp [tyOf, hs2 _ _ q1]
        have hsz : sz it.2 = szAll ds + 1 := by rw [ed]; rfl
        refine ⟨_, _, rfl, _, _, rfl, rfl, "list", tq, rfl, "list", tq, rfl, "list", tq, rfl, "list", tq, rfl, "list", tq, rfl, "list", tp, rfl, rfl, "list", tq, rfl, "list", tp, rfl, rfl, "list", tq, rfl, .inl ⟨xs, .inl (SqL.of (hs2 _ _ p1)), .inl ⟨ys, .inl (SqL.of (hs2 _ _ q1)), rfl, ite2 (fun h => ?_) (fun _ => ?_)⟩⟩⟩
        · have h' : (!decide (V.int xs.length = V.int ys.length)) = true := h
          rw [lx, ly] at h'
          simp at h'
        refine ⟨.inl ⟨rfl, _, SqL.of W2.at_⟩, xs, .inl (SqL.of (hs2 _ _ p1)), fun l1 h1 => ⟨ys, .inl (SqL.of (Same.up h1 _ _ (hs2 _ _ q1))), fun l2 h2 => ?_⟩⟩
        have s2 : Same H2 (upd (upd H2 l1 (.lst xs)) l2 (.lst ys)) := Same.tr (Same.up h1) (Same.up h2)
        refine ⟨xs, ys, SqL.of (Same.up h2 _ _ upd_same), SqL.of upd_same, by rw [lx, ly], fun H3 lz ts k1 k2 k3 k4 k5 k6 k7 k8 => ?_⟩
        obtain ⟨more, m1, m2, m3, m4⟩ := zip_its (H := H3) p2 q2 k7 k8
        have s3 : Same H2 H3 := Same.tr s2 k1
        have sumle := wait_len (ini ++ more)
        have tot : ((ini ++ more).map fun it => sz it.2).sum = (ini.map fun it => sz it.2).sum + szAll ds := by rw [List.map_append, List.sum_append, m2]
        have eL := s3 _ _ W2.at_
        refine ⟨L, lz, _, _, rfl, rfl, eL, k6, ?_, ?_⟩
        · rw [List.length_map, List.length_map, k7, lx, ← m3]
          rw [List.length_append] at sumle
          have : sizeLine = 16777216 := rfl
          omega
        have nL : ∀ b o, b ≠ L → H3 b = some o → upd H3 L (.lst (ini.map (fun it => V.ref it.1) ++ ts.map V.ref)) b = some o := fun b o hb e => by rw [upd_ne hb]; exact e
        have e3 : ts.map V.ref = more.map fun it => V.ref it.1 := by rw [← m1, List.map_map]; rfl
        refine ⟨fun b o e => nL b o (ne_of_none e hL0) (s3 b o (hs2 b o e)), ⟨ini ++ more, W2.more ?_ (fun b o hb e => nL b o hb (s3 b o e)) (fun it hi => ?_), by omega⟩, _, _, _, rfl⟩
        · rw [upd_same, e3, List.map_append]
        · obtain ⟨u, v, f1, f2, f3⟩ := m4 it hi
          exact ⟨u, v, nL _ _ (fun z => by rw [z, eL] at f1; cases f1) f1, f2, f3⟩
      | tuple ds =>
        rw [ed] at dx dy
        cases dx with
        | @tup p xs _ p1 p2 =>
        cases dy with
        | @tup q ys _ q1 q2 =>
        have lx := p2.len
        have ly := q2.len
        have tp : tyOf H2 (.ref p) = some "tuple" := by simp [tyOf, hs2 _ _ p1]
        have tq : tyOf H2 (.ref q) = some "tuple" := by simp [tyOf, hs2 _ _ q1]
        have hsz : sz it.2 = szAll ds + 1 := by rw [ed]; rfl
        refine ⟨_, _, rfl, _, _, rfl, rfl, "tuple", tq, rfl, "tuple", tq, rfl, "tuple", tq, rfl, "tuple", tq, rfl, "tuple", tq, rfl, "tuple", tp, rfl, rfl, "tuple", tq, rfl, "tuple", tp, rfl, rfl, "tuple", tq, rfl, "tuple", tq, rfl, .inl ⟨xs, .inr (SqT.of (hs2 _ _ p1)), .inl ⟨ys, .inr (SqT.of (hs2 _ _ q1)), rfl, ite2 (fun h => ?_) (fun _ => ?_)⟩⟩⟩
        · have h' : (!decide (V.int xs.length = V.int ys.length)) = true := h
          rw [lx, ly] at h'
          simp at h'
        refine ⟨.inl ⟨rfl, _, SqL.of W2.at_⟩, xs, .inr (SqT.of (hs2 _ _ p1)), fun l1 h1 => ⟨ys, .inr (SqT.of (Same.up h1 _ _ (hs2 _ _ q1))), fun l2 h2 => ?_⟩⟩
        have s2 : Same H2 (upd (upd H2 l1 (.lst xs)) l2 (.lst ys)) := Same.tr (Same.up h1) (Same.up h2)
        refine ⟨xs, ys, SqL.of (Same.up h2 _ _ upd_same), SqL.of upd_same, by rw [lx, ly], fun H3 lz ts k1 k2 k3 k4 k5 k6 k7 k8 => ?_⟩
        obtain ⟨more, m1, m2, m3, m4⟩ := zip_its (H := H3) p2 q2 k7 k8
        have s3 : Same H2 H3 := Same.tr s2 k1
        have sumle := wait_len (ini ++ more)
        have tot : ((ini ++ more).map fun it => sz it.2).sum = (ini.map fun it => sz it.2).sum + szAll ds := by rw [List.map_append, List.sum_append, m2]
        have eL := s3 _ _ W2.at_
        refine ⟨L, lz, _, _, rfl, rfl, eL, k6, ?_, ?_⟩
        · rw [List.length_map, List.length_map, k7, lx, ← m3]
          rw [List.length_append] at sumle
          have : sizeLine = 16777216 := rfl
          omega
        have nL : ∀ b o, b ≠ L → H3 b = some o → upd H3 L (.lst (ini.map (fun it => V.ref it.1) ++ ts.map V.ref)) b = some o := fun b o hb e => by rw [upd_ne hb]; exact e
        have e3 : ts.map V.ref = more.map fun it => V.ref it.1 := by rw [← m1, List.map_map]; rfl
        refine ⟨fun b o e => nL b o (ne_of_none e hL0) (s3 b o (hs2 b o e)), ⟨ini ++ more, W2.more ?_ (fun b o hb e => nL b o hb (s3 b o e)) (fun it hi => ?_), by omega⟩, _, _, _, rfl⟩
        · rw [upd_same, e3, List.map_append]
        · obtain ⟨u, v, f1, f2, f3⟩ := m4 it hi
          exact ⟨u, v, nL _ _ (fun z => by rw [z, eL] at f1; cases f1) f1, f2, f3⟩
    · rintro σ H1 ⟨hs, ⟨its, W, hB⟩, u1, u2, u3, rfl⟩
      omega
end
end K0
namespace K0
open PySem PySem.Spec PyProof.Rows L2 Bs LamX
theorem grow2 {n : Nat} {zs : List V} {b b' : Bool} {s s' : Str} (h : zs.length ≤ n) : (zs ++ ((if b then [V.str s] else []) ++ (if b' then [V.str s'] else []))).length ≤ n + 2 := by
  rw [List.length_append, List.length_append]
  cases b <;> cases b' <;> simp <;> omega
/-- where the classes of errors stand -/
structure ErrA where
  Refused : Addr
  BadWord : Addr
  BadLot : Addr
  BadTerm : Addr
  BadStep : Addr
  BadShape : Addr
  BadPlace : Addr
  BadNumber : Addr
  BadFilling : Addr
  BadPlan : Addr
  BadTarget : Addr
  BadPaper : Addr
  BadCall : Addr
  NotAllowed : Addr
  BadText : Addr
  BadStack : Addr
  TooMany : Addr
structure ErrG (mg : Str → Option Value) (e : ErrA) : Prop where
  Refused : mg "Refused" = some (.ref e.Refused)
  BadWord : mg "BadWord" = some (.ref e.BadWord)
  BadLot : mg "BadLot" = some (.ref e.BadLot)
  BadTerm : mg "BadTerm" = some (.ref e.BadTerm)
  BadStep : mg "BadStep" = some (.ref e.BadStep)
  BadShape : mg "BadShape" = some (.ref e.BadShape)
  BadPlace : mg "BadPlace" = some (.ref e.BadPlace)
  BadNumber : mg "BadNumber" = some (.ref e.BadNumber)
  BadFilling : mg "BadFilling" = some (.ref e.BadFilling)
  BadPlan : mg "BadPlan" = some (.ref e.BadPlan)
  BadTarget : mg "BadTarget" = some (.ref e.BadTarget)
  BadPaper : mg "BadPaper" = some (.ref e.BadPaper)
  BadCall : mg "BadCall" = some (.ref e.BadCall)
  NotAllowed : mg "NotAllowed" = some (.ref e.NotAllowed)
  BadText : mg "BadText" = some (.ref e.BadText)
  BadStack : mg "BadStack" = some (.ref e.BadStack)
  TooMany : mg "TooMany" = some (.ref e.TooMany)
  VE : mg "ValueError" = none
/-- D is the class of refusals of the name nam -/
structure ErrK (K : PySem.W.Frag) (e : ErrA) (D : Addr) (nam : Str) : Prop where
  c : ExcC K D
  r : PySem.W.exmOne K (.ref D) (.ref e.Refused) = some true
  BadWord : PySem.W.kitOne K (.ref D) (.ref e.BadWord) = some (decide (nam = "BadWord"))
  BadLot : PySem.W.kitOne K (.ref D) (.ref e.BadLot) = some (decide (nam = "BadLot"))
  BadTerm : PySem.W.kitOne K (.ref D) (.ref e.BadTerm) = some (decide (nam = "BadTerm"))
  BadStep : PySem.W.kitOne K (.ref D) (.ref e.BadStep) = some (decide (nam = "BadStep"))
  BadShape : PySem.W.kitOne K (.ref D) (.ref e.BadShape) = some (decide (nam = "BadShape"))
  BadPlace : PySem.W.kitOne K (.ref D) (.ref e.BadPlace) = some (decide (nam = "BadPlace"))
  BadNumber : PySem.W.kitOne K (.ref D) (.ref e.BadNumber) = some (decide (nam = "BadNumber"))
  BadFilling : PySem.W.kitOne K (.ref D) (.ref e.BadFilling) = some (decide (nam = "BadFilling"))
  BadPlan : PySem.W.kitOne K (.ref D) (.ref e.BadPlan) = some (decide (nam = "BadPlan"))
  BadTarget : PySem.W.kitOne K (.ref D) (.ref e.BadTarget) = some (decide (nam = "BadTarget"))
  BadPaper : PySem.W.kitOne K (.ref D) (.ref e.BadPaper) = some (decide (nam = "BadPaper"))
  BadCall : PySem.W.kitOne K (.ref D) (.ref e.BadCall) = some (decide (nam = "BadCall"))
  NotAllowed : PySem.W.kitOne K (.ref D) (.ref e.NotAllowed) = some (decide (nam = "NotAllowed"))
  BadText : PySem.W.kitOne K (.ref D) (.ref e.BadText) = some (decide (nam = "BadText"))
  BadStack : PySem.W.kitOne K (.ref D) (.ref e.BadStack) = some (decide (nam = "BadStack"))
  TooMany : PySem.W.kitOne K (.ref D) (.ref e.TooMany) = some (decide (nam = "TooMany"))
  VE : PySem.W.kitOne K (.ref D) (.type "ValueError") = some true
  plain : nam ∈ (["BadWord", "BadLot", "BadTerm", "BadStep", "BadShape", "BadPlace", "BadNumber", "BadFilling", "BadPlan", "BadTarget", "BadPaper", "BadCall", "NotAllowed"] : List Str)
theorem boot_VE : bootBuiltins "ValueError" = some (.type "ValueError") := by decide +kernel
def tNew (P : L2.St → Prop) (xs : List V) : TE := fun σ H Q => P σ ∧ ∀ H' l, Same H H' → H' l = some (.lst xs) → Q (.ref l) H'
def opt (b : Bool) (s : Str) : List V := if b then [.str s] else []
theorem opt_len (b : Bool) (s : Str) : (opt b s).length ≤ 1 := by cases b <;> simp [opt]
section
variable {X : Cx} {e : Expr} {P P' : L2.St → Prop}
theorem nw_of {s : Str} {b : Bool} {tb : TE} (h : PE X e (tOp uMul (tLst (tCons (tC (.str s)) tNil)) tb)) (hb : ∀ (σ : L2.St) (H : Hp) (Q : VK), P σ → Q (.int (if b then 1 else 0)) H → tb σ H Q) : PE X e (tNew P (opt b s)) := by
  refine PE.imp h fun σ H Q ⟨hp, k⟩ => ?_
  refine ⟨by show 1 ≤ sizeLine; decide, fun l hl => hb σ _ _ hp ?_⟩
  cases b with
  | true => exact ⟨_, upd_same, by decide, by decide, by show 1 * 1 ≤ sizeLine; decide, fun l2 h2 => k _ l2 (Same.tr (Same.up hl) (Same.up h2)) upd_same⟩
  | false => exact ⟨_, upd_same, by decide, by decide, by show 1 * 0 ≤ sizeLine; decide, fun l2 h2 => k _ l2 (Same.tr (Same.up hl) (Same.up h2)) upd_same⟩
theorem nw_two {e2 : Expr} {xs ys : List V} {pos : Pos} (h : PE X e (tNew P xs)) (h2 : PE X e2 (tNew P' ys)) (hx : xs.length ≤ 1 := by first | exact opt_len _ _ | decide) (hy : ys.length ≤ 1 := by first | exact opt_len _ _ | decide) : PE X (.BinOp e .Add e2 pos) (tNew (fun σ => P σ ∧ P' σ) (xs ++ ys)) := by
  refine PE.imp (pe_op o_add h h2) fun σ H Q ⟨⟨hp, hp'⟩, k⟩ => ?_
  refine ⟨hp, fun H1 l1 s1 e1 => ⟨hp', fun H2 l2 s2 e2 => ⟨xs, ys, s2 _ _ e1, e2, ?_, fun l3 h3 => k _ l3 (Same.tr s1 (Same.tr s2 (Same.up h3))) upd_same⟩⟩⟩
  have : sizeLine = 16777216 := rfl
  omega
def tLine (P : L2.St → Prop) (xs : List V) : TE := fun σ H Q => ∃ l zs, σ[2]? = some (some (.ref l)) ∧ H l = some (.lst zs) ∧ zs.length ≤ 40 ∧ P σ ∧ ∀ H' l', Same H H' → H' l' = some (.lst (zs ++ xs)) → Q (.ref l') H'
theorem nw_line {xs ys : List V} (h : PE X e (tOp uAdd (tOp uAdd (vr 2) (tNew P xs)) (tNew P' ys))) (hx : xs.length ≤ 1 := by first | exact opt_len _ _ | decide) (hy : ys.length ≤ 1 := by first | exact opt_len _ _ | decide) : PE X e (tLine (fun σ => P σ ∧ P' σ) (xs ++ ys)) := by
  refine PE.imp h fun σ H Q ⟨l, zs, hl, hz, hn, ⟨hp, hp'⟩, k⟩ => ?_
  have zl : sizeLine = 16777216 := rfl
  show (match σ[2]? with | some (some v) => _ | _ => False)
  rw [hl]
  refine ⟨hp, fun H1 l1 s1 e1 => ⟨zs, xs, s1 _ _ hz, e1, by omega, fun l2 h2 => ⟨hp', fun H3 l3 s3 e3 => ⟨zs ++ xs, ys, s3 _ _ upd_same, e3, by rw [List.length_append]; omega, fun l4 h4 => k _ l4 (Same.tr s1 (Same.tr (Same.up h2) (Same.tr s3 (Same.up h4)))) (by rw [upd_same, List.append_assoc])⟩⟩⟩⟩
theorem nw_last {xs : List V} (h : PE X e (tOp uAdd (vr 2) (tNew P xs))) (hx : xs.length ≤ 1 := by first | exact opt_len _ _ | decide) : PE X e (tLine P xs) := by
  refine PE.imp h fun σ H Q ⟨l, zs, hl, hz, hn, hp, k⟩ => ?_
  have zl : sizeLine = 16777216 := rfl
  show (match σ[2]? with | some (some v) => _ | _ => False)
  rw [hl]
  exact ⟨hp, fun H1 l1 s1 e1 => ⟨zs, xs, s1 _ _ hz, e1, by omega, fun l2 h2 => k _ l2 (Same.tr s1 (Same.up h2)) upd_same⟩⟩
end
abbrev s_told : Stmt := top 43
theorem sc_told : FnScope ["call", "e", "names", "tells"] ["call"] (defScope s_told) := ⟨rfl, rfl, rfl, by decide +kernel, rfl, by decide +kernel, by decide +kernel⟩
/-- the suite, when e is caught -/
def tSuite (K : PySem.W.Frag) (ea : ErrA) (a : Addr) (cls : Value) (d : Option Addr) : TS := fun Dn σ H => ∃ (D : Addr) (nam : Str) (σ0 : L2.St), cls = .ref D ∧ d = none ∧ ErrK K ea D nam ∧ σ = σ0.set 1 (some (.ref a)) ∧ ∀ H' p, Same H H' → (Rs.no nam).At H' p → Dn.rt (.ref p) H'
theorem opts : ∀ nam ∈ (["BadWord", "BadLot", "BadTerm", "BadStep", "BadShape", "BadPlace", "BadNumber", "BadFilling", "BadPlan", "BadTarget", "BadPaper", "BadCall", "NotAllowed"] : List Str), (((((((((opt (decide (nam = "BadWord")) "BadWord" ++ opt (decide (nam = "BadLot")) "BadLot") ++ (opt (decide (nam = "BadTerm")) "BadTerm" ++ opt (decide (nam = "BadStep")) "BadStep")) ++ (opt (decide (nam = "BadShape")) "BadShape" ++ opt (decide (nam = "BadPlace")) "BadPlace")) ++ (opt (decide (nam = "BadNumber")) "BadNumber" ++ opt (decide (nam = "BadFilling")) "BadFilling")) ++ (opt (decide (nam = "BadPlan")) "BadPlan" ++ opt (decide (nam = "BadTarget")) "BadTarget")) ++ (opt (decide (nam = "BadPaper")) "BadPaper" ++ opt (decide (nam = "BadCall")) "BadCall")) ++ (opt (decide (nam = "NotAllowed")) "NotAllowed" ++ opt (decide (nam = "BadText")) "BadText")) ++ (opt (decide (nam = "BadStack")) "BadStack" ++ opt (decide (nam = "TooMany")) "TooMany")) ++ opt false "no ValueError") = [V.str nam] ∧ decide (nam = "TooMany") = false ∧ decide (nam = "BadText") = false ∧ decide (nam = "BadStack") = false := by decide +kernel
section
variable {P : Program} {w : World} {K : PySem.W.Frag} {mg : Str → Option Value} {base : Heap}
theorem told_suite {ea : ErrA} (T : Txt K mg) (GE : ErrG mg ea) {f : Addr} {cdv : Value} {A : Around} {outer : List Env} {s : Shared} {H : Hp} {E : XK} {a : Addr} {oe : Obj} {cls : Value} {d : Option Addr} {pn : List (Addr × Obj)} {t : TS}
    (hz : Zc cls d oe) (hf : ∃ vs, oe.data = .fields vs) : PSs ((cxOf CX0 P w K mg base ["call", "e", "names", "tells"] "_law_told" (defScope s_told) f cdv A outer s H E).nox.suite a ((a, oe) :: pn))
      (match (defBody s_told) with | [.Try _ [.ExceptHandler _ _ su _] _ _ _] => su | _ => []) (tSuite K ea a cls d) := by
  have sc := sc_told
  refine ⟨fun pins s0 σ H0 Dn I hh => ?_⟩
  obtain ⟨D, nam, σ0, rfl, rfl, EK, eσ, k⟩ := hh
  obtain ⟨c, u2, u3, rfl⟩ : ∃ c u2 u3, σ = [c, some (V.ref a), u2, u3] := by
    have hl : σ.length = 4 := I.len
    rw [eσ, List.length_set] at hl
    match σ0, hl with
    | [x0, x1, x2, x3], _ => exact ⟨x0, x2, x3, eσ⟩
  have key : ∃ t, PSs ((cxOf CX0 P w K mg base ["call", "e", "names", "tells"] "_law_told" (defScope s_told) f cdv A outer s H E).nox.suite a ((a, oe) :: pn)) (match (defBody s_told) with | [.Try _ [.ExceptHandler _ _ su _] _ _ _] => su | _ => []) t ∧ t Dn [c, some (.ref a), u2, u3] H0 := by
    refine ⟨_, (pss_cons (ps_set (i := 2) sc.nd rfl (Or.inl rfl) (nw_two (nw_of (b := decide (nam = "BadWord")) (P := fun σ => σ[1]? = some (some (.ref a))) (pe_op o_mul (pe_lst (pa_cons pe_str pa_nil)) (pe_callTy b_int (by rfl) T.int (by decide +kernel) (pa_cons (pe_callB (call_isE EK.c hz hf) (by rfl) T.isinstance boot_isinstance (pa_cons (nm 1) (pa_cons (pe_gR rfl GE.BadWord) pa_nil))) pa_nil))) (fun σ H Q hσ q => by show (match σ[1]? with | some (some v) => _ | _ => False); rw [hσ]; exact ⟨_, _, _, rfl, fun u r => r, EK.BadWord, q⟩)) (nw_of (b := decide (nam = "BadLot")) (P := fun σ => σ[1]? = some (some (.ref a))) (pe_op o_mul (pe_lst (pa_cons pe_str pa_nil)) (pe_callTy b_int (by rfl) T.int (by decide +kernel) (pa_cons (pe_callB (call_isE EK.c hz hf) (by rfl) T.isinstance boot_isinstance (pa_cons (nm 1) (pa_cons (pe_gR rfl GE.BadLot) pa_nil))) pa_nil))) (fun σ H Q hσ q => by show (match σ[1]? with | some (some v) => _ | _ => False); rw [hσ]; exact ⟨_, _, _, rfl, fun u r => r, EK.BadLot, q⟩))))
        (pss_cons (ps_set (i := 2) sc.nd rfl (Or.inl rfl) (nw_line (pe_op o_add (pe_op o_add (nm 2) (nw_of (b := decide (nam = "BadTerm")) (P := fun σ => σ[1]? = some (some (.ref a))) (pe_op o_mul (pe_lst (pa_cons pe_str pa_nil)) (pe_callTy b_int (by rfl) T.int (by decide +kernel) (pa_cons (pe_callB (call_isE EK.c hz hf) (by rfl) T.isinstance boot_isinstance (pa_cons (nm 1) (pa_cons (pe_gR rfl GE.BadTerm) pa_nil))) pa_nil))) (fun σ H Q hσ q => by show (match σ[1]? with | some (some v) => _ | _ => False); rw [hσ]; exact ⟨_, _, _, rfl, fun u r => r, EK.BadTerm, q⟩))) (nw_of (b := decide (nam = "BadStep")) (P := fun σ => σ[1]? = some (some (.ref a))) (pe_op o_mul (pe_lst (pa_cons pe_str pa_nil)) (pe_callTy b_int (by rfl) T.int (by decide +kernel) (pa_cons (pe_callB (call_isE EK.c hz hf) (by rfl) T.isinstance boot_isinstance (pa_cons (nm 1) (pa_cons (pe_gR rfl GE.BadStep) pa_nil))) pa_nil))) (fun σ H Q hσ q => by show (match σ[1]? with | some (some v) => _ | _ => False); rw [hσ]; exact ⟨_, _, _, rfl, fun u r => r, EK.BadStep, q⟩)))))
        (pss_cons (ps_set (i := 2) sc.nd rfl (Or.inl rfl) (nw_line (pe_op o_add (pe_op o_add (nm 2) (nw_of (b := decide (nam = "BadShape")) (P := fun σ => σ[1]? = some (some (.ref a))) (pe_op o_mul (pe_lst (pa_cons pe_str pa_nil)) (pe_callTy b_int (by rfl) T.int (by decide +kernel) (pa_cons (pe_callB (call_isE EK.c hz hf) (by rfl) T.isinstance boot_isinstance (pa_cons (nm 1) (pa_cons (pe_gR rfl GE.BadShape) pa_nil))) pa_nil))) (fun σ H Q hσ q => by show (match σ[1]? with | some (some v) => _ | _ => False); rw [hσ]; exact ⟨_, _, _, rfl, fun u r => r, EK.BadShape, q⟩))) (nw_of (b := decide (nam = "BadPlace")) (P := fun σ => σ[1]? = some (some (.ref a))) (pe_op o_mul (pe_lst (pa_cons pe_str pa_nil)) (pe_callTy b_int (by rfl) T.int (by decide +kernel) (pa_cons (pe_callB (call_isE EK.c hz hf) (by rfl) T.isinstance boot_isinstance (pa_cons (nm 1) (pa_cons (pe_gR rfl GE.BadPlace) pa_nil))) pa_nil))) (fun σ H Q hσ q => by show (match σ[1]? with | some (some v) => _ | _ => False); rw [hσ]; exact ⟨_, _, _, rfl, fun u r => r, EK.BadPlace, q⟩)))))
        (pss_cons (ps_set (i := 2) sc.nd rfl (Or.inl rfl) (nw_line (pe_op o_add (pe_op o_add (nm 2) (nw_of (b := decide (nam = "BadNumber")) (P := fun σ => σ[1]? = some (some (.ref a))) (pe_op o_mul (pe_lst (pa_cons pe_str pa_nil)) (pe_callTy b_int (by rfl) T.int (by decide +kernel) (pa_cons (pe_callB (call_isE EK.c hz hf) (by rfl) T.isinstance boot_isinstance (pa_cons (nm 1) (pa_cons (pe_gR rfl GE.BadNumber) pa_nil))) pa_nil))) (fun σ H Q hσ q => by show (match σ[1]? with | some (some v) => _ | _ => False); rw [hσ]; exact ⟨_, _, _, rfl, fun u r => r, EK.BadNumber, q⟩))) (nw_of (b := decide (nam = "BadFilling")) (P := fun σ => σ[1]? = some (some (.ref a))) (pe_op o_mul (pe_lst (pa_cons pe_str pa_nil)) (pe_callTy b_int (by rfl) T.int (by decide +kernel) (pa_cons (pe_callB (call_isE EK.c hz hf) (by rfl) T.isinstance boot_isinstance (pa_cons (nm 1) (pa_cons (pe_gR rfl GE.BadFilling) pa_nil))) pa_nil))) (fun σ H Q hσ q => by show (match σ[1]? with | some (some v) => _ | _ => False); rw [hσ]; exact ⟨_, _, _, rfl, fun u r => r, EK.BadFilling, q⟩)))))
        (pss_cons (ps_set (i := 2) sc.nd rfl (Or.inl rfl) (nw_line (pe_op o_add (pe_op o_add (nm 2) (nw_of (b := decide (nam = "BadPlan")) (P := fun σ => σ[1]? = some (some (.ref a))) (pe_op o_mul (pe_lst (pa_cons pe_str pa_nil)) (pe_callTy b_int (by rfl) T.int (by decide +kernel) (pa_cons (pe_callB (call_isE EK.c hz hf) (by rfl) T.isinstance boot_isinstance (pa_cons (nm 1) (pa_cons (pe_gR rfl GE.BadPlan) pa_nil))) pa_nil))) (fun σ H Q hσ q => by show (match σ[1]? with | some (some v) => _ | _ => False); rw [hσ]; exact ⟨_, _, _, rfl, fun u r => r, EK.BadPlan, q⟩))) (nw_of (b := decide (nam = "BadTarget")) (P := fun σ => σ[1]? = some (some (.ref a))) (pe_op o_mul (pe_lst (pa_cons pe_str pa_nil)) (pe_callTy b_int (by rfl) T.int (by decide +kernel) (pa_cons (pe_callB (call_isE EK.c hz hf) (by rfl) T.isinstance boot_isinstance (pa_cons (nm 1) (pa_cons (pe_gR rfl GE.BadTarget) pa_nil))) pa_nil))) (fun σ H Q hσ q => by show (match σ[1]? with | some (some v) => _ | _ => False); rw [hσ]; exact ⟨_, _, _, rfl, fun u r => r, EK.BadTarget, q⟩)))))
        (pss_cons (ps_set (i := 2) sc.nd rfl (Or.inl rfl) (nw_line (pe_op o_add (pe_op o_add (nm 2) (nw_of (b := decide (nam = "BadPaper")) (P := fun σ => σ[1]? = some (some (.ref a))) (pe_op o_mul (pe_lst (pa_cons pe_str pa_nil)) (pe_callTy b_int (by rfl) T.int (by decide +kernel) (pa_cons (pe_callB (call_isE EK.c hz hf) (by rfl) T.isinstance boot_isinstance (pa_cons (nm 1) (pa_cons (pe_gR rfl GE.BadPaper) pa_nil))) pa_nil))) (fun σ H Q hσ q => by show (match σ[1]? with | some (some v) => _ | _ => False); rw [hσ]; exact ⟨_, _, _, rfl, fun u r => r, EK.BadPaper, q⟩))) (nw_of (b := decide (nam = "BadCall")) (P := fun σ => σ[1]? = some (some (.ref a))) (pe_op o_mul (pe_lst (pa_cons pe_str pa_nil)) (pe_callTy b_int (by rfl) T.int (by decide +kernel) (pa_cons (pe_callB (call_isE EK.c hz hf) (by rfl) T.isinstance boot_isinstance (pa_cons (nm 1) (pa_cons (pe_gR rfl GE.BadCall) pa_nil))) pa_nil))) (fun σ H Q hσ q => by show (match σ[1]? with | some (some v) => _ | _ => False); rw [hσ]; exact ⟨_, _, _, rfl, fun u r => r, EK.BadCall, q⟩)))))
        (pss_cons (ps_set (i := 2) sc.nd rfl (Or.inl rfl) (nw_line (pe_op o_add (pe_op o_add (nm 2) (nw_of (b := decide (nam = "NotAllowed")) (P := fun σ => σ[1]? = some (some (.ref a))) (pe_op o_mul (pe_lst (pa_cons pe_str pa_nil)) (pe_callTy b_int (by rfl) T.int (by decide +kernel) (pa_cons (pe_callB (call_isE EK.c hz hf) (by rfl) T.isinstance boot_isinstance (pa_cons (nm 1) (pa_cons (pe_gR rfl GE.NotAllowed) pa_nil))) pa_nil))) (fun σ H Q hσ q => by show (match σ[1]? with | some (some v) => _ | _ => False); rw [hσ]; exact ⟨_, _, _, rfl, fun u r => r, EK.NotAllowed, q⟩))) (nw_of (b := decide (nam = "BadText")) (P := fun σ => σ[1]? = some (some (.ref a))) (pe_op o_mul (pe_lst (pa_cons pe_str pa_nil)) (pe_callTy b_int (by rfl) T.int (by decide +kernel) (pa_cons (pe_callB (call_isE EK.c hz hf) (by rfl) T.isinstance boot_isinstance (pa_cons (nm 1) (pa_cons (pe_gR rfl GE.BadText) pa_nil))) pa_nil))) (fun σ H Q hσ q => by show (match σ[1]? with | some (some v) => _ | _ => False); rw [hσ]; exact ⟨_, _, _, rfl, fun u r => r, EK.BadText, q⟩)))))
        (pss_cons (ps_set (i := 2) sc.nd rfl (Or.inl rfl) (nw_line (pe_op o_add (pe_op o_add (nm 2) (nw_of (b := decide (nam = "BadStack")) (P := fun σ => σ[1]? = some (some (.ref a))) (pe_op o_mul (pe_lst (pa_cons pe_str pa_nil)) (pe_callTy b_int (by rfl) T.int (by decide +kernel) (pa_cons (pe_callB (call_isE EK.c hz hf) (by rfl) T.isinstance boot_isinstance (pa_cons (nm 1) (pa_cons (pe_gR rfl GE.BadStack) pa_nil))) pa_nil))) (fun σ H Q hσ q => by show (match σ[1]? with | some (some v) => _ | _ => False); rw [hσ]; exact ⟨_, _, _, rfl, fun u r => r, EK.BadStack, q⟩))) (nw_of (b := decide (nam = "TooMany")) (P := fun σ => σ[1]? = some (some (.ref a))) (pe_op o_mul (pe_lst (pa_cons pe_str pa_nil)) (pe_callTy b_int (by rfl) T.int (by decide +kernel) (pa_cons (pe_callB (call_isE EK.c hz hf) (by rfl) T.isinstance boot_isinstance (pa_cons (nm 1) (pa_cons (pe_gR rfl GE.TooMany) pa_nil))) pa_nil))) (fun σ H Q hσ q => by show (match σ[1]? with | some (some v) => _ | _ => False); rw [hσ]; exact ⟨_, _, _, rfl, fun u r => r, EK.TooMany, q⟩)))))
        (pss_cons (ps_set (i := 2) sc.nd rfl (Or.inl rfl) (nw_last (pe_op o_add (nm 2) (nw_of (b := false) (P := fun σ => σ[1]? = some (some (.ref a))) (pe_op o_mul (pe_lst (pa_cons pe_str pa_nil)) (pe_callTy b_int (by rfl) T.int (by decide +kernel) (pa_cons (pe_not (pe_callB (call_isE EK.c hz hf) (by rfl) T.isinstance boot_isinstance (pa_cons (nm 1) (pa_cons (pe_bltn (by rfl) GE.VE boot_VE (v := .ty "ValueError") rfl) pa_nil)))) pa_nil))) (fun σ H Q hσ q => by show (match σ[1]? with | some (some v) => _ | _ => False); rw [hσ]; exact ⟨_, _, _, rfl, fun u r => r, EK.VE, _, rfl, q⟩)))))
        (pss_cons (ps_set (i := 3) sc.nd rfl (Or.inl rfl) (pe_tup pa_nil))
        (pss_cons (ps_if (tst (pe_callB (call_isE EK.c hz hf) (by rfl) T.isinstance boot_isinstance (pa_cons (nm 1) (pa_cons (pe_gR rfl GE.TooMany) pa_nil)))) (pss_one (ps_set (i := 3) sc.nd rfl (Or.inl rfl) (pe_tup (pa_cons pe_no (pa_cons pe_no pa_nil))))) (pss_one (ps_if (tst (pe_callB (call_isE EK.c hz hf) (by rfl) T.isinstance boot_isinstance (pa_cons (nm 1) (pa_cons (pe_gR rfl GE.BadText) pa_nil)))) (pss_one (ps_set (i := 3) sc.nd rfl (Or.inl rfl) (pe_tup (pa_cons pe_no pa_nil)))) (pss_one (ps_if (tst (pe_callB (call_isE EK.c hz hf) (by rfl) T.isinstance boot_isinstance (pa_cons (nm 1) (pa_cons (pe_gR rfl GE.BadStack) pa_nil)))) (pss_one (ps_set (i := 3) sc.nd rfl (Or.inl rfl) (pe_tup (pa_cons pe_no (pa_cons pe_no pa_nil))))) pss_nil)))))
        (pss_one (ps_ret (pe_tup (pa_cons pe_str (pa_cons (nm 2) (pa_cons (nm 3) pa_nil))))))))))))))))), ?_⟩
    refine ⟨⟨rfl, rfl⟩, fun H1 l1 s1 e1 => ?_⟩
    have b1 := grow2 (n := 0) (zs := []) (b := decide (nam = "BadWord")) (b' := decide (nam = "BadLot")) (s := "BadWord") (s' := "BadLot") (Nat.le_refl 0)
    refine ⟨l1, _, rfl, e1, Nat.le_trans b1 (by decide), ⟨rfl, rfl⟩, fun H2 l2 s2 e2 => ?_⟩
    have b2 := grow2 (b := decide (nam = "BadTerm")) (b' := decide (nam = "BadStep")) (s := "BadTerm") (s' := "BadStep") b1
    refine ⟨l2, _, rfl, e2, Nat.le_trans b2 (by decide), ⟨rfl, rfl⟩, fun H3 l3 s3 e3 => ?_⟩
    have b3 := grow2 (b := decide (nam = "BadShape")) (b' := decide (nam = "BadPlace")) (s := "BadShape") (s' := "BadPlace") b2
    refine ⟨l3, _, rfl, e3, Nat.le_trans b3 (by decide), ⟨rfl, rfl⟩, fun H4 l4 s4 e4 => ?_⟩
    have b4 := grow2 (b := decide (nam = "BadNumber")) (b' := decide (nam = "BadFilling")) (s := "BadNumber") (s' := "BadFilling") b3
    refine ⟨l4, _, rfl, e4, Nat.le_trans b4 (by decide), ⟨rfl, rfl⟩, fun H5 l5 s5 e5 => ?_⟩
    have b5 := grow2 (b := decide (nam = "BadPlan")) (b' := decide (nam = "BadTarget")) (s := "BadPlan") (s' := "BadTarget") b4
    refine ⟨l5, _, rfl, e5, Nat.le_trans b5 (by decide), ⟨rfl, rfl⟩, fun H6 l6 s6 e6 => ?_⟩
    have b6 := grow2 (b := decide (nam = "BadPaper")) (b' := decide (nam = "BadCall")) (s := "BadPaper") (s' := "BadCall") b5
    refine ⟨l6, _, rfl, e6, Nat.le_trans b6 (by decide), ⟨rfl, rfl⟩, fun H7 l7 s7 e7 => ?_⟩
    have b7 := grow2 (b := decide (nam = "NotAllowed")) (b' := decide (nam = "BadText")) (s := "NotAllowed") (s' := "BadText") b6
    refine ⟨l7, _, rfl, e7, Nat.le_trans b7 (by decide), ⟨rfl, rfl⟩, fun H8 l8 s8 e8 => ?_⟩
    have b8 := grow2 (b := decide (nam = "BadStack")) (b' := decide (nam = "TooMany")) (s := "BadStack") (s' := "TooMany") b7
    refine ⟨l8, _, rfl, e8, Nat.le_trans b8 (by decide), rfl, fun H9 l9 s9 e9 => ?_⟩
    obtain ⟨q1, q2, q3, q4⟩ := opts nam EK.plain
    rw [q1] at e9
    refine ⟨by show 0 ≤ sizeLine; decide, fun p hp => ?_⟩
    refine ⟨_, _, _, rfl, fun u r => r, EK.TooMany, ite2 (fun h => absurd h (by rw [q2]; decide)) (fun _ => ?_)⟩
    refine ⟨_, _, _, rfl, fun u r => r, EK.BadText, ite2 (fun h => absurd h (by rw [q3]; decide)) (fun _ => ?_)⟩
    refine ⟨_, _, _, rfl, fun u r => r, EK.BadStack, ite2 (fun h => absurd h (by rw [q4]; decide)) (fun _ => ?_)⟩
    refine ⟨by show 3 ≤ sizeLine; decide, fun r hr => ?_⟩
    have sx := Same.tr s1 (Same.tr s2 (Same.tr s3 (Same.tr s4 (Same.tr s5 (Same.tr s6 (Same.tr s7 (Same.tr s8 s9)))))))
    refine k _ r (Same.tr sx (Same.tr (Same.up hp) (Same.up hr))) ⟨l9, p, upd_same, ?_, Same.up hr _ _ upd_same⟩
    exact Same.up hr _ _ (Same.up hp _ _ e9)
  obtain ⟨t, ht, hq⟩ := key
  exact ht.run pins s0 _ H0 Dn I hq
end
end K0
namespace K0
open PySem PySem.Spec PyProof.Rows L2 Bs LamX
/-- what _law_told makes of a call's end -/
def toldV (Q : VK) : VK := fun v H => ∀ p, H p = none → Q (.ref p) (upd H p (.tup [.str "told", v]))
def toldE (K : PySem.W.Frag) (ea : ErrA) (Q : VK) : XK := fun cls d H => ∃ (D : Addr) (nam : Str), cls = .ref D ∧ d = none ∧ ErrK K ea D nam ∧ ∀ H' p, Same H H' → (Rs.no nam).At H' p → Q (.ref p) H'
abbrev s_is : Stmt := top 45
theorem sc_is : FnScope ["call", "due"] ["call", "due"] (defScope s_is) := ⟨rfl, rfl, rfl, by decide +kernel, rfl, by decide +kernel, by decide +kernel⟩
section
variable {P : Program} {w : World} {K : PySem.W.Frag} {mg : Str → Option Value} {base : Heap}
theorem told_body {ea : ErrA} (T : Txt K mg) (GE : ErrG mg ea) {g : Addr} {cdv : Value} {A : Around} {outer : List Env} {s : Shared} {H : Hp} {k : Nat} {fs : List Addr} {s0 : Shared} {H0 : Hp} {f : Addr} {sp : XK → Hp → VK → Prop} {Q : VK}
    (Th : ThkOk P w K mg base k fs s0 H0 f sp) (hr : Room k (A.deeper (envOfC "_law_told" (defScope s_told) s.heap.objs.size g cdv))) (hU : ∀ (H2 : Hp) (h : Heap), Un (frs outer) [] H H2 s.heap h → Un fs [] H0 H2 s0.heap h) (hsp : sp (toldE K ea Q) H (toldV Q)) :
    ∃ t, PSs (cxOf CX0 P w K mg base ["call", "e", "names", "tells"] "_law_told" (defScope s_told) g cdv A outer s H E0).nox (defBody s_told) t ∧ t { nx := fun _ H' => Q .non H', rt := Q } (L2.start ["call", "e", "names", "tells"] [.ref f]) H := by
  have sc := sc_told
  refine ⟨_, pss_one (ps_try_as (X := (cxOf CX0 P w K mg base ["call", "e", "names", "tells"] "_law_told" (defScope s_told) g cdv A outer s H E0).nox) (i := 1) (c := .ref ea.Refused) (Wout := fun _ _ _ _ => False)
      (tb := fun W D σ H => ∃ Ech : XK, (∀ cls d σ' H', Ech cls d H' → W cls d σ' H') ∧ σ[0]? = some (some (.ref f)) ∧ sp Ech H fun v H1 => 2 ≤ sizeLine ∧ ∀ p, H1 p = none → D.rt (.ref p) (upd H1 p (.tup [.str "told", v]))) (ts := tSuite K ea)
      rfl rfl sc.nd rfl rfl ⟨rfl, by decide, .inl GE.Refused⟩ L2.takes0 (fun W pn xe tk _ => ?_) (fun a oe cls d pn hz hf => told_suite (t := tSuite K ea a cls d) T GE hz hf)), ?_⟩
  · refine ⟨fun pins s1 σ H1 D I h => ?_⟩
    obtain ⟨Ech, hW, h1, h2⟩ := h
    have hp : ∀ p1 p2, PE ((cxOf CX0 P w K mg base ["call", "e", "names", "tells"] "_law_told" (defScope s_told) g cdv A outer s H E0).nox.tr pn xe) (.Call (.Name "call" p1) [] [] p2) (fun σ H Q => σ[0]? = some (some (.ref f)) ∧ sp Ech H Q) := fun p1 p2 => pe_thk (i := 0) (E := Ech) Th hr hU (passes_call tk hW) rfl (Or.inl rfl)
    exact (pss_one (ps_ret (pe_tup (pa_cons pe_str (pa_cons (hp _ _) pa_nil))))).run pins s1 σ H1 D I ⟨h1, h2⟩
  · refine ⟨toldE K ea Q, fun cls d σ' H' h => ?_, rfl, ?_⟩
    · obtain ⟨D, nam, rfl, rfl, EK, k⟩ := h
      exact ⟨true, EK.r, fun _ a _ => ⟨D, nam, _, rfl, rfl, EK, rfl, k⟩, fun z => by cases z⟩
    · have e2 : (fun (v : V) (H1 : Hp) => 2 ≤ sizeLine ∧ ∀ p, H1 p = none → Q (.ref p) (upd H1 p (.tup [.str "told", v]))) = toldV Q := by
        funext v H1
        exact propext ⟨fun h => h.2, fun h => ⟨by decide, h⟩⟩
      show sp (toldE K ea Q) H (fun v H1 => 2 ≤ sizeLine ∧ ∀ p, H1 p = none → Q (.ref p) (upd H1 p (.tup [.str "told", v])))
      rw [e2]
      exact hsp
/-- _law_told(call), in _law_is -/
theorem told_call {ea : ErrA} {g : Addr} {fd : FuncData} {gi : Addr} {cdi : Value} {A : Around} {outer : List Env} {s : Shared} {H : Hp} {k : Nat} {f : Addr} {sp : XK → Hp → VK → Prop} {p1 p2 p3 : Pos}
    (G : Fun K "_law_told" "_law_told" s_told g fd) (hm : mg "_law_told" = some (.ref g)) (bd : Binds K fd ["call"] []) (T : Txt K mg) (GE : ErrG mg ea) (Th : ThkOk P w K mg base k (frs outer) s H f sp) (hr : Room (k + 1) (A.deeper (envOfC "_law_is" (defScope s_is) s.heap.objs.size gi cdi))) :
    PE (cxOf CX0 P w K mg base ["call", "due"] "_law_is" (defScope s_is) gi cdi A outer s H E0).nox (.Call (.Name "_law_told" p1) [.Name "call" p2] [] p3) (fun σ H1 Q => σ[0]? = some (some (.ref f)) ∧ sp (toldE K ea Q) H1 (toldV Q)) := by
  refine ⟨fun pins s1 σ H1 Q I ⟨hs, h⟩ => ?_⟩
  have kp := G.kp
  obtain ⟨oc, od, kV, doc, pm, an, cdv, ct, osl, rfl, lk, hcd⟩ := G.ex
  refine wpAny_Call_Name_kw (ld_glob I rfl hm ?_ (by decide))
  refine PySem.W.callWith_K (h₀ := base) I.ok.mod.kin kp ?_ (by rfl) (by rfl)
  show wpAny _ _ (spliced ((false, eval (.Name "call" p2) _) :: backTo p3 (starEach [] _))) _ _ s1
  refine Calls.spliced_cons (thn ((pe_var (pos := p2) (i := 0) rfl (Or.inl rfl) (by decide) (by decide)).run pins s1 σ H1 (fun v H2 => v = .ref f ∧ H2 = H1) I ⟨.ref f, hs, rfl, rfl⟩) fun u s2 ⟨v, H2, I2, r2, ev, eH⟩ => ?_)
  subst ev
  subst eH
  obtain rfl : u = Value.ref f := r2
  refine Calls.spliced_nil ⟨I2.kIn, ?_⟩
  have rc := run_ofS (CX := CX0) (N := ["call", "e", "names", "tells"]) (ps := ["call"]) (us := [.ref f]) (vs := [.ref f]) (Q := Q) (E := E0) lk hcd sc_told hr I2.env0 (bd s2 [.ref f] I2.kIn rfl) (.cons rfl .nil) rfl fun hr2 => by
    obtain ⟨t, ht, hq⟩ := told_body (cdv := cdv) (g := g) (outer := envOfC "_law_is" (defScope s_is) s.heap.objs.size gi cdi :: outer) T GE Th hr2 (by intro H3 h3 u; exact un_deep (n := s.heap.objs.size) I2.base u fun o e => Nat.lt_irrefl _ (Heap.lt_size e)) h
    exact ⟨t, ht.nox, hq⟩
  refine wpAny_call (codeAny_mono rc fun r s3 hq => ?_)
  cases r with
  | error e => exact (show False from hq).elim
  | ok fl =>
    cases fl with
    | ret u => exact I2.after hq
    | next => exact False.elim hq
    | brk => exact False.elim hq
    | cont => exact False.elim hq
/-- what _law_is makes of what was told -/
def isQ (dv : V) (Q : VK) : VK := fun v H => spSame [v, dv] H Q E0
theorem is_body {ea : ErrA} {g : Addr} {fd : FuncData} {gi : Addr} {cdi : Value} {A : Around} {outer : List Env} {s : Shared} {H : Hp} {k : Nat} {f : Addr} {sp : XK → Hp → VK → Prop} {dv : V} {Q : VK}
    (G : Fun K "_law_told" "_law_told" s_told g fd) (hm : mg "_law_told" = some (.ref g)) (bd : Binds K fd ["call"] []) (T : Txt K mg) (GE : ErrG mg ea) (G_same : FnE P w K mg base CX0 1 "_law_same" ["told", "due"] spSame)
    (Th : ThkOk P w K mg base k (frs outer) s H f sp) (hr : Room (k + 1) (A.deeper (envOfC "_law_is" (defScope s_is) s.heap.objs.size gi cdi))) (h : sp (toldE K ea (isQ dv Q)) H (toldV (isQ dv Q))) :
    ∃ t, PSs (cxOf CX0 P w K mg base ["call", "due"] "_law_is" (defScope s_is) gi cdi A outer s H E0).nox (defBody s_is) t ∧ t { nx := fun _ H' => Q .non H', rt := Q } (L2.start ["call", "due"] [.ref f, dv]) H := by
  have sc := sc_is
  obtain ⟨_, _, G_same⟩ := G_same
  refine ⟨_, pss_one (ps_ret (fn G_same (hr.mono (by omega)) (by rfl) pass0 (pa_cons (told_call (ea := ea) (p1 := _) (p2 := _) (p3 := _) G hm bd T GE Th hr) (pa_cons (nm 1) pa_nil)))), ?_⟩
  exact ⟨rfl, h⟩
end
end K0
namespace K0
open PySem PySem.Spec PyProof.Rows L2 Bs LamX
/-- the defs that compare answers -/
structure Asks (P : Program) (w : World) (K : PySem.W.Frag) (mg : Str → Option Value) (base : Heap) (ea : ErrA) (gt gi : Addr) (fdt fdi : FuncData) : Prop where
  T : Txt K mg
  GE : ErrG mg ea
  told : Fun K "_law_told" "_law_told" s_told gt fdt
  told_m : mg "_law_told" = some (.ref gt)
  told_b : Binds K fdt ["call"] []
  is : Fun K "_law_is" "_law_is" s_is gi fdi
  is_m : mg "_law_is" = some (.ref gi)
  is_b : Binds K fdi ["call", "due"] []
  same : FnE P w K mg base CX0 1 "_law_same" ["told", "due"] spSame
/-- _law_is(lambda: .., due) -/
def tIs (K : PySem.W.Frag) (ea : ErrA) (T : List (Addr × Str)) (t : XK → TE) (t2 : TE) : TE := fun σ H Q => Tabs T H ∧ ∀ H1, ExtN H H1 → Tabs T H1 → t2 σ H1 fun dv H2 => Same H1 H2 ∧ t (toldE K ea (isQ dv Q)) σ H2 (toldV (isQ dv Q))
section
variable {X : Cx}
theorem pe_islam {ea : ErrA} {gt gi : Addr} {fdt fdi : FuncData} (W : Asks X.prog X.w X.K X.mg X.base ea gt gi fdt fdi) {T : List (Addr × Str)} {c Pt : Addr} {k : Nat} {params : Arguments} {body e2 : Expr} {scope : Scope} {t : XK → TE} {t2 : TE} {p lpos pos : Pos}
    (hg : Gl X "_law_is") (TB : TabB X.base X.mg c Pt) (hcode : X.env.code = .ref c) (hmT : (Pt, X.env.qual ++ "<lambda>") ∈ T) (hu : ∀ p ∈ T, p.1 = Pt → p.2 = X.env.qual ++ "<lambda>") (hr : Room (k + 3) X.A) (L : LamS X.env.scope scope)
    (hbody : ∀ (A : Around) (outer : List Env) (s : Shared) (H : Hp) (E : XK) (f c' : Addr), Room k (A.deeper (lamEnv X scope s.heap.objs.size f c')) → PE (lamCx X A outer s H E scope f c') body (t E)) (h2 : PE X e2 t2)
    (hdef : defaultsOf params X.env = ([], []) := by rfl) (hbind : ∀ (q : Str) (cl : List (Str × Addr)) (pm cv ctv : Value), bindArgs (PySem.W.kla_fn "<lambda>" q params body scope cl pm cv ctv) ⟨[], []⟩ = pure [] := by intros; rfl)
    (hfs : frs X.stack = X.env.locals :: X.fs := by rfl) (hs2 : starEach [e2] X.env = (false, eval e2 X.env) :: starEach [] X.env := by rfl)
    (hs : starEach [.Lambda params body scope lpos, e2] X.env = (false, eval (.Lambda params body scope lpos) X.env) :: starEach [e2] X.env := by rfl) (hpl : (backTo pos (starEach [e2] X.env)).any (·.1) = false := by rfl) :
    PE X (.Call (.Name "_law_is" p) [.Lambda params body scope lpos, e2] [] pos) (tIs X.K ea T t t2) := by
  refine ⟨fun pins s σ H Q I h => ?_⟩
  obtain ⟨hT, h⟩ := h
  have kp := W.is.kp
  obtain ⟨oc, od, kV, doc, pm, an, cdv, ct, osl, efd, lk, hcd⟩ := W.is.ex
  refine wpAny_Call_Name_kw (ld_glob I hg W.is_m ?_ (by decide))
  refine PySem.W.callWith_K (h₀ := X.base) I.ok.mod.kin kp ?_ hs hpl
  rw [hs]
  show wpAny _ _ (spliced ((false, eval (.Lambda params body scope lpos) X.env) :: backTo pos (starEach [e2] X.env))) _ _ s
  refine Calls.spliced_cons (lam_make2 I TB hcode hmT hu hT hdef (L.has I.ok) fun f c' pm' ctv H1 s1 I1 eN T1 hf hfn hfr hco => ?_)
  have nfr : f ≠ X.env.locals ∧ f ∉ X.fs := by
    rw [hfs] at hfr
    exact ⟨fun z => hfr (z ▸ List.mem_cons_self), fun z => hfr (List.mem_cons_of_mem _ z)⟩
  have I1p : Inv X ((f, PySem.W.kla_obj "<lambda>" (X.env.qual ++ "<lambda>") params body scope (cloFrom X.env.cells scope.names []) pm' c' ctv) :: pins) σ H1 s1 := I1.pins_of fun q hq => by
    rcases List.mem_cons.mp hq with rfl | hq
    · exact ⟨hf, hfn, nfr.1, nfr.2, fun v z => by cases z⟩
    · exact I1.pin q (List.mem_append_right _ hq)
  rw [hs2]
  show wpAny _ _ (spliced ((false, eval e2 X.env) :: backTo pos (starEach [] X.env))) _ _ s1
  refine Calls.spliced_cons (thn (h2.run _ s1 σ H1 _ I1p (h H1 eN T1)) fun u s2 ⟨dv, H2, I2p, r2, sm, q⟩ => ?_)
  obtain ⟨hf2, hfn2, _, _, _⟩ := I2p.pin (f, _) (List.mem_append_right _ List.mem_cons_self)
  have I2 : Inv X pins σ H2 s2 := I2p.pins_of fun q hq => I2p.pin q (List.mem_append_right _ (List.mem_cons_of_mem _ hq))
  refine Calls.spliced_nil ⟨I2.kIn, ?_⟩
  have Th := thk_of (k := k) (t := t) I2 L hf2 hfn2 hfr (hbind _ _ _ _ _) (fun A outer s H E hr2 => hbody A outer s H E f c' hr2)
  have bd := W.is_b
  rw [efd] at bd lk
  have rc : codeAny (model X.prog X.w) X.A (.call (.ref gi) ⟨[.ref f, u], []⟩) (CR CX0 X.stack X.prog X.w H2 s2 Q E0) s2 := by
    refine run_ofS (N := ["call", "due"]) (ps := ["call", "due"]) (us := [.ref f, u]) (vs := [.ref f, dv]) lk hcd sc_is hr I2.env0 (bd s2 [.ref f, u] I2.kIn rfl) (.cons rfl (.cons r2 .nil)) rfl fun hr2 => ?_
    obtain ⟨t', ht, hq⟩ := is_body (cdi := cdv) (gi := gi) (dv := dv) (Q := Q) W.told W.told_m W.told_b W.T W.GE W.same Th (hr2.mono (by omega)) ⟨sm _ _ hco, q⟩
    exact ⟨t', ht.nox, hq⟩
  refine wpAny_call (codeAny_mono rc fun r s3 hq => ?_)
  cases r with
  | error e => exact (show False from hq).elim
  | ok fl =>
    cases fl with
    | ret u => exact I2.after hq
    | next => exact False.elim hq
    | brk => exact False.elim hq
    | cont => exact False.elim hq
end
/-! ### the two ends -/
theorem rs_dq {H : Hp} {p : Addr} : ∀ {r : Rs}, r.At H p → Dq H (.ref p) r.data
  | .told z, h => .tup h (.cons (.str _) (.cons (.str _) .nil))
  | .no nam, ⟨q, r, h1, h2, h3⟩ => .tup h1 (.cons (.str _) (.cons (.lst h2 (.cons (.str _) .nil)) (.cons (.tup h3 .nil) .nil)))
theorem sz_rs (r : Rs) : sz r.data < 400000 := by cases r <;> simp [Rs.data, sz, szAll]
theorem isQ_of {H : Hp} {p q : Addr} {r : Rs} {Q : VK} (h1 : r.At H p) (h2 : r.At H q) (k : ∀ H', Same H H' → Q (.bl true) H') : isQ (.ref q) Q (.ref p) H := ⟨_, _, r.data, rfl, rs_dq h1, rs_dq h2, sz_rs r, k⟩
theorem rs_same {H H' : Hp} {p : Addr} {r : Rs} (h : r.At H p) (s : Same H H') : r.At H' p := Rs.At.mono h fun b o e _ => s b o e
theorem told_ok {H H' : Hp} {q : Addr} {z : Str} {Q : VK} (h : (Rs.told z).At H q) (s : Same H H') (k : ∀ H2, Same H H2 → Q (.bl true) H2) : toldV (isQ (.ref q) Q) (.str z) H' := fun p hp =>
  isQ_of (r := .told z) upd_same (rs_same (r := .told z) (rs_same (r := .told z) h s) (Same.up hp)) fun H2 s2 => k H2 (Same.tr s (Same.tr (Same.up hp) s2))
theorem told_no {K : PySem.W.Frag} {ea : ErrA} {D : Addr} {nam : Str} (EK : ErrK K ea D nam) {H H' : Hp} {q : Addr} {Q : VK} (h : (Rs.no nam).At H q) (s : Same H H') (k : ∀ H2, Same H H2 → Q (.bl true) H2) : toldE K ea (isQ (.ref q) Q) (.ref D) none H' :=
  ⟨D, nam, rfl, rfl, EK, fun H2 p s2 hp => isQ_of (r := .no nam) hp (rs_same (r := .no nam) (rs_same (r := .no nam) h s) s2) fun H3 s3 => k H3 (Same.tr s (Same.tr s2 s3))⟩
end K0
namespace Bs
open PySem PySem.Spec PyProof.Rows L2 LamX
/-! ### defs that are called with defaults, by keywords; defs that make lambdas -/
def FnDE (P : Program) (w : World) (K : PySem.W.Frag) (mg : Str → Option Value) (base : Heap) (CX : CXT) (k : Nat) (x : Str) (ps : List Str) (sp : Sp) (dvs : List V) : Prop :=
  ∃ f fd, FnOk P w K mg base CX k f fd ps sp ∧ mg x = some (.ref f) ∧ PySem.W.keepIn K (.ref f) = true ∧ ∃ ds, Vals dvs ds ∧ Binds K fd ps ds
def FnKE (P : Program) (w : World) (K : PySem.W.Frag) (mg : Str → Option Value) (base : Heap) (CX : CXT) (k : Nat) (x : Str) (ps : List Str) (sp : Sp) (ks : List Str) (gV : List V → List V → List V) : Prop :=
  ∃ f fd, FnOk P w K mg base CX k f fd ps sp ∧ mg x = some (.ref f) ∧ PySem.W.keepIn K (.ref f) = true ∧ ∃ g, KBn K fd ps 0 ks g gV
def tFD (sp : Sp) (dvs : List V) (E : XK) (t : TA) : TE := fun σ H Q => t σ H fun vs H1 => sp (vs ++ dvs) H1 Q E
def tFK (sp : Sp) (n : Nat) (gV : List V → List V → List V) (E : XK) (tk : TA) : TE := fun σ H Q => tk σ H fun zs H1 => zs.length = n ∧ sp (gV [] zs) H1 Q E
section
variable {X : Cx} {CX : CXT} {k : Nat} {ps ks : List Str} {sp : Sp} {dvs : List V} {gV : List V → List V → List V} {E : XK} {x : Str} {p pos : Pos} {e : Expr} {es : List Expr} {kws : List Keyword} {t tk : TA}
theorem fnD (F : FnDE X.prog X.w X.K X.mg X.base CX k x ps sp dvs) (hr : Room k X.A) (hg : Gl X x) (hx : Passes CX X E) (ha : PA X (e :: es) t) (hdb : (x == ("__debug__" : Str)) = false := by decide)
    (he : starEach (e :: es) X.env = (false, eval e X.env) :: starEach es X.env := by rfl) (hpl : (backTo pos (starEach es X.env)).any (·.1) = false := by rfl) : PE X (.Call (.Name x p) (e :: es) [] pos) (tFD sp dvs E t) := by
  obtain ⟨f, fd, ok, hm, kp, ds, hd, hb⟩ := F
  exact PE.imp (pe_call ok hr hg hm kp hb hd hx ha hdb he hpl) fun σ H Q h => h
theorem fnK (F : FnKE X.prog X.w X.K X.mg X.base CX k x ps sp ks gV) (hr : Room k X.A) (hg : Gl X x) (hx : Passes CX X E) (hkw : PK X kws tk) (hall : (backToKw pos (keywordEach kws X.env)).all (·.1.isSome) = true := by rfl)
    (hks : (backToKw pos (keywordEach kws X.env)).filterMap (·.1) = ks := by rfl) (hdb : (x == ("__debug__" : Str)) = false := by decide)
    (hpl : ((backTo pos (starEach [] X.env)).any (·.1) || (backToKw pos (keywordEach kws X.env)).any (·.1.isNone)) = false := by rfl) : PE X (.Call (.Name x p) [] kws pos) (tFK sp ks.length gV E tk) := by
  obtain ⟨f, fd, ok, hm, kp, g, hb⟩ := F
  refine ⟨fun pins s σ H Q I h => ?_⟩
  refine wpAny_Call_Name_kw (ld_glob I hg hm ?_ hdb)
  refine PySem.W.callWith_KW0 (h₀ := X.base) I.ok.mod.kin kp hall ?_ hpl
  refine thn (hkw.run pos pins s σ H _ I h) fun ws s2 ⟨zs, H2, I2, rz, l2, q2⟩ => ⟨I2.kIn, ?_⟩
  rw [hks]
  exact run_fnN (us := []) (vs := []) ok hr hb hx I2 .nil rz rfl l2 q2
/-- what a call of the lambda's body may let out goes on -/
theorem lamX {X : Cx} {A : Around} {outer : List Env} {s : Shared} {H : Hp} {E : XK} {scope : Scope} {f c' : Addr} : Passes (L2.CX X.prog X.w) (lamCx X A outer s H E scope f c') E := passes_call (takes_of rfl rfl rfl rfl) (fun _ _ _ _ h => h)
end
/-- a def whose code object stands at c -/
structure FunC (K : PySem.W.Frag) (x qual : Str) (st : Stmt) (f : Addr) (fd : FuncData) (c : Addr) : Prop where
  ex : ∃ (oc : Value) (od : Option Addr) (kV doc pm : Value) (an : Option Addr) (ct : Value) (osl : Array (Option Value)),
    fd = PySem.W.fnOf x qual (defArgs st) (defBody st) (defScope st) .none kV doc pm an (.ref c) ct ∧ K.lookup f = some ⟨oc, od, .func fd, osl⟩ ∧ PySem.W.codeIn K (.ref c) qual = true
  kp : PySem.W.keepIn K (.ref f) = true
theorem FunC.ok {P : Program} {w : World} {K : PySem.W.Frag} {mg : Str → Option Value} {base : Heap} {x qual : Str} {st : Stmt} {f c : Addr} {fd : FuncData} {N ps : List Str} {k : Nat} {sp : Sp} (F : FunC K x qual st f fd c) (S : FnScope N ps (defScope st)) (len : ∀ vs H Q E, sp vs H Q E → vs.length = ps.length)
    (hbody : ∀ (A : Around) (outer : List Env) (s : Shared) (H : Hp) (vs : List V) (Q : VK) (E : XK), Room k (A.deeper (envOfC qual (defScope st) s.heap.objs.size f (.ref c))) → sp vs H Q E →
      ∃ t, PSs (cxOf CX0 P w K mg base N qual (defScope st) f (.ref c) A outer s H E).nox (defBody st) t ∧ t { nx := fun _ H' => Q .non H', rt := Q } (L2.start N vs) H) : FnOk P w K mg base CX0 (k + 1) f fd ps sp := by
  obtain ⟨oc, od, kV, doc, pm, an, ct, osl, rfl, lk, hcd⟩ := F.ex
  refine fn_of lk hcd S len fun A outer s H vs Q E hr hsp => ?_
  obtain ⟨t, h, q⟩ := hbody A outer s H vs Q E hr hsp
  exact ⟨t, h.nox, q⟩
end Bs
namespace K0
open PySem PySem.Spec PyProof.Rows L2 Bs LamX
/-! ### the plain law -/
def keptR (n : Int) (z : Str) : Rs := if dueR n z = .told z then .told z else .no "BadLot"
theorem dueR_eq (n : Int) (z : Str) : dueR n z = if badM n (.str z) = false then .told (tx (normL n z)) else .no "BadLot" := by
  unfold dueR badM
  have : (z.cps.toList.filter fun c => !decide (c ∈ (below n).cps.toList)).length = 0 ↔ (!(z.cps.toList.all fun c => decide (c ∈ (below n).cps.toList))) = false := by
    rw [List.length_eq_zero_iff, List.filter_eq_nil_iff]
    generalize z.cps.toList = cs
    generalize (below n).cps.toList = B
    simp
  by_cases h : (z.cps.toList.filter fun c => !decide (c ∈ (below n).cps.toList)).length = 0
  · rw [if_pos h, if_pos (this.mp h)]
  · rw [if_neg h, if_neg (fun e => h (this.mpr e))]
theorem lot_iff (B : List Nat) : ∀ (cs : List Nat) (l : Option Nat), lotL B l cs = true ↔ (∀ c ∈ cs, c ∈ B) ∧ cs.Pairwise (· < ·) ∧ ∀ d ∈ l, ∀ c ∈ cs, d < c
  | [], l => by simp [lotL]
  | c :: r, l => by
    have ih := lot_iff B r (some c)
    have e : lotL B l (c :: r) = (decide (c ∈ B) && (after l c && lotL B (some c) r)) := by cases l <;> rfl
    rw [e, Bool.and_eq_true, Bool.and_eq_true, ih, decide_eq_true_iff, List.pairwise_cons]
    have ea : after l c = true ↔ ∀ d ∈ l, d < c := by cases l <;> simp [after]
    rw [ea]
    constructor
    · rintro ⟨h1, h2, h3, h4, h5⟩
      refine ⟨fun x hx => ?_, ⟨fun x hx => h5 c rfl x hx, h4⟩, fun d hd x hx => ?_⟩
      · rcases List.mem_cons.mp hx with rfl | hx
        · exact h1
        · exact h3 x hx
      · rcases List.mem_cons.mp hx with rfl | hx
        · exact h2 d hd
        · exact Nat.lt_trans (h2 d hd) (h5 c rfl x hx)
    · rintro ⟨h1, ⟨h2, h3⟩, h4⟩
      exact ⟨h1 c List.mem_cons_self, fun d hd => h4 d hd c List.mem_cons_self, fun x hx => h1 x (List.mem_cons_of_mem _ hx), h3, fun d hd x hx => by cases hd; exact h2 x hx⟩
theorem sorted_ext : ∀ {a b : List Nat}, a.Pairwise (· < ·) → b.Pairwise (· < ·) → (∀ x, x ∈ a ↔ x ∈ b) → a = b
  | [], [], _, _, _ => rfl
  | [], y :: b, _, _, h => absurd ((h y).mpr List.mem_cons_self) (by simp)
  | x :: a, [], _, _, h => absurd ((h x).mp List.mem_cons_self) (by simp)
  | x :: a, y :: b, ha, hb, h => by
    obtain ⟨h1, h2⟩ := List.pairwise_cons.mp ha
    obtain ⟨h3, h4⟩ := List.pairwise_cons.mp hb
    have hx := (h x).mp List.mem_cons_self
    have hy := (h y).mpr List.mem_cons_self
    have e : x = y := by
      rcases List.mem_cons.mp hx with e | hx
      · exact e
      · rcases List.mem_cons.mp hy with e | hy
        · exact e.symm
        · have := h1 y hy
          have := h3 x hx
          omega
    subst e
    rw [sorted_ext h2 h4 fun z => ⟨fun hz => ?_, fun hz => ?_⟩]
    · rcases List.mem_cons.mp ((h z).mp (List.mem_cons_of_mem _ hz)) with e | q
      · have := h1 z hz; omega
      · exact q
    · rcases List.mem_cons.mp ((h z).mpr (List.mem_cons_of_mem _ hz)) with e | q
      · have := h3 z hz; omega
      · exact q
theorem below_sorted {n : Int} (h1 : 1 ≤ n) (h2 : n ≤ 6) : (below n).cps.toList.Pairwise (· < ·) := by
  rw [below_eq h1 h2]
  exact List.Pairwise.sublist (List.take_sublist _ _) (by decide)
theorem kept_eq {n : Int} (h1 : 1 ≤ n) (h2 : n ≤ 6) (z : Str) : keptR n z = if isL n z = true then .told z else .no "BadLot" := by
  have key : dueR n z = .told z ↔ isL n z = true := by
    unfold isL
    rw [lot_iff, dueR_eq]
    have hb : badM n (.str z) = false ↔ ∀ c ∈ z.cps.toList, c ∈ (below n).cps.toList := by
      show (!(z.cps.toList.all fun c => decide (c ∈ (below n).cps.toList))) = false ↔ _
      generalize z.cps.toList = cs
      generalize (below n).cps.toList = B
      simp
    constructor
    · intro h
      split at h
      · rename_i hm
        have h3 := hb.mp hm
        refine ⟨h3, ?_, fun d hd => by cases hd⟩
        injection h with h
        have e : normL n z = z.cps.toList := by rw [← h, tx_cps]; rw [h]
        rw [← e]
        exact List.Pairwise.sublist List.filter_sublist (below_sorted h1 h2)
      · cases h
    · rintro ⟨h3, h4, _⟩
      rw [if_pos (hb.mpr h3)]
      have e : normL n z = z.cps.toList := sorted_ext (List.Pairwise.sublist List.filter_sublist (below_sorted h1 h2)) h4 fun x => by
        unfold normL
        rw [List.mem_filter, decide_eq_true_iff]
        exact ⟨fun h => h.2, fun h => ⟨h3 x h, h⟩⟩
      rw [e, tx_of]
  unfold keptR
  by_cases h : dueR n z = .told z
  · rw [if_pos h, if_pos (key.mp h)]
  · rw [if_neg h, if_neg (fun e => h (key.mpr e))]
end K0
namespace K0
open PySem PySem.Spec PyProof.Rows L2 Bs LamX
def lq (q : Str) : Str := (q ++ ".<locals>.") ++ "<lambda>"
/-- a def that makes lambdas: its code object c, its table Pt -/
structure Mkr (base : Heap) (mg : Str → Option Value) (TL : List (Addr × Str)) (q : Str) (c Pt : Addr) : Prop where
  tb : TabB base mg c Pt
  mem : (Pt, lq q) ∈ TL
  un : ∀ p ∈ TL, p.1 = Pt → p.2 = lq q
theorem Same.ext {H H' : Hp} (s : Same H H') : ExtN H H' := fun b o e _ => s b o e
theorem Tabs.same {TL : List (Addr × Str)} {H H' : Hp} (t : Tabs TL H) (s : Same H H') : Tabs TL H' := t.ext s
def spOkT (TL : List (Addr × Str)) (C : List V → Hp → Prop) : Sp := fun vs H Q _ => C vs H ∧ Tabs TL H ∧ ∀ H', ExtN H H' → Tabs TL H' → Q (.bl true) H'
abbrev s_wa : Stmt := top 53
theorem sc_wa : FnScope ["words", "word", "due"] ["words"] (defScope s_wa) := ⟨rfl, rfl, rfl, by decide +kernel, rfl, by decide +kernel, by decide +kernel⟩
def cWa (vs : List V) (H : Hp) : Prop := ∃ (lw : Addr) (ws : List Str), vs = [.ref lw] ∧ H lw = some (.lst (ws.map V.str)) ∧ ∀ z ∈ ws, z.length ≤ 100000
def wordR (z : Str) : Rs := if isW z = true then .told z else .no "BadWord"
theorem arg_str {H : Hp} {z : Str} (h : z.length ≤ 100000) : Arg H (.str z) := ⟨decide_eq_true h, fun z' e => by cases e; exact h⟩
section
variable {P : Program} {w : World} {K : PySem.W.Frag} {mg : Str → Option Value} {base : Heap}
/-- check_word asked of a text -/
theorem ask_word {ea : ErrA} {D : Addr} (EK : ErrK K ea D "BadWord") {H : Hp} {q : Addr} {z : Str} {Q : VK} (hz : z.length ≤ 100000) (h : (wordR z).At H q) (k : ∀ H2, Same H H2 → Q (.bl true) H2) :
    spCheckWord D [.str z] H (toldV (isQ (.ref q) Q)) (toldE K ea (isQ (.ref q) Q)) := by
  refine ⟨.str z, rfl, arg_str hz, fun e H' s => ?_, fun e H' s => ?_⟩
  · have e' : isW z = true := e
    unfold wordR at h
    rw [if_pos e'] at h
    exact told_ok h s k
  · have e' : isW z = false := e
    unfold wordR at h
    rw [if_neg (by rw [e']; decide)] at h
    exact told_no EK h s k
theorem ok_wa {ea : ErrA} {gt gi f c Pt : Addr} {fdt fdi fd : FuncData} {TL : List (Addr × Str)} (F : FunC K "_law_words_asked" "_law_words_asked" s_wa f fd c) (W : Asks P w K mg base ea gt gi fdt fdi) (M : Mkr base mg TL "_law_words_asked" c Pt) (EK : ErrK K ea ea.BadWord "BadWord")
    (G_no : FnE P w K mg base CX0 1 "_law_no" ["name"] spNo) (G_is_word : FnE P w K mg base CX0 2 "_law_is_word" ["told"] spIsw) (P_check_word : FnE P w K mg base (L2.CX P w) 2 "check_word" ["word"] (spCheckWord ea.BadWord))
    (PK_check_word : FnKE P w K mg base (L2.CX P w) 2 "check_word" ["word"] (spCheckWord ea.BadWord) ["word"] fun _ zs => zs) : FnOk P w K mg base CX0 6 f fd ["words"] (spOkT TL cWa) := by
  have sc := sc_wa
  obtain ⟨_, _, G_no⟩ := G_no
  obtain ⟨_, _, G_is_word⟩ := G_is_word
  obtain ⟨_, _, P_check_word⟩ := P_check_word
  refine F.ok sc (fun vs H Q E h => ?_) (fun A outer s H vs Q E hr h => ?_)
  · obtain ⟨⟨lw, ws, rfl, _⟩, _⟩ := h
    rfl
  · obtain ⟨⟨lw, ws, rfl, hlw, hws⟩, hT, k⟩ := h
    refine ⟨_, (pss_cons (ps_for PassesOwn.never rfl (pi_any (nm 0)) (pg_name (i := 1) sc.nd rfl (Or.inr rfl)) (pss_cons (ps_set (i := 2) sc.nd rfl (Or.inl rfl) (fn G_no (hr.mono (by decide)) (by rfl) pass0 (pa_cons pe_str pa_nil)))
      (pss_cut (ps_if (tst (fn G_is_word (hr.mono (by decide)) (by rfl) pass0 (pa_cons (nm 1) pa_nil))) (pss_one (ps_set (i := 2) sc.nd rfl (Or.inl rfl) (pe_tup (pa_cons pe_str (pa_cons (nm 1) pa_nil))))) pss_nil)
      (pss_cons (ps_if (pt_not (tst (pe_islam (k := 2) W rfl M.tb rfl M.mem M.un (hr.mono (by decide)) (lamS_by (by rfl)) (fun A outer s H E f c2 hr2 => (fn P_check_word (hr2.mono (by decide)) (by rfl) lamX (pa_cons (nm 1) pa_nil))) (nm 2)))) (pss_one (ps_ret pe_bl)) pss_nil)
      (pss_one (ps_if (pt_not (tst (pe_islam (k := 2) W rfl M.tb rfl M.mem M.un (hr.mono (by decide)) (lamS_by (by rfl)) (fun A outer s H E f c2 hr2 => (fnK PK_check_word (hr2.mono (by decide)) (by rfl) lamX (pk_cons (nm 1) pk_nil))) (nm 2)))) (pss_one (ps_ret pe_bl)) pss_nil))))))
      (pss_one (ps_ret pe_bl))), ?_⟩
    refine for_sq (K := K) (a := lw) (xs := ws.map V.str) (fun i σ H' => ExtN H H' ∧ Tabs TL H' ∧ ∃ v u, σ = [some (.ref lw), v, u]) ⟨ExtN.refl H, hT, none, none, rfl⟩ (.inl fun i σ H' _ ⟨e, _⟩ => SqL.of (e _ _ hlw (fun _ z => by cases z))) ?_ ?_ rfl
    · rintro i x σ H1 hx ⟨e1, t1, v, u, rfl⟩
      obtain ⟨z, hz, rfl⟩ := List.mem_map.mp (List.mem_of_getElem? hx)
      have hzl := hws z hz
      refine ⟨_, rfl, fun p H2 s2 hp => ?_⟩
      refine ⟨fun σ H3 => ∃ q, Same H1 H3 ∧ (wordR z).At H3 q ∧ σ = [some (.ref lw), some (.str z), some (.ref q)], ?_, ?_⟩
      · refine ⟨z, rfl, hzl, fun H3 s3 => ite2 (fun e => ?_) (fun e => ?_)⟩
        · have e' : isW z = true := e
          refine ⟨by show 2 ≤ sizeLine; decide, fun q hq => ⟨q, Same.tr s2 (Same.tr s3 (Same.up hq)), ?_, rfl⟩⟩
          unfold wordR
          rw [if_pos e']
          exact upd_same
        · have e' : ¬ isW z = true := e
          refine ⟨p, Same.tr s2 s3, ?_, rfl⟩
          unfold wordR
          rw [if_neg e']
          exact rs_same (r := .no "BadWord") hp s3
      · rintro σ H3 ⟨q, s3, hq, rfl⟩
        have t3 : Tabs TL H3 := Tabs.same t1 s3
        refine ⟨t3, fun H4 e4 t4 => ⟨fun _ _ e => e, ?_⟩⟩
        have q4 : (wordR z).At H4 q := Rs.At.mono hq e4
        refine ask_word EK hzl q4 fun H5 s5 => ?_
        have t5 : Tabs TL H5 := Tabs.same t4 s5
        have q5 := rs_same q4 s5
        refine ⟨t5, fun H6 e6 t6 => ⟨fun _ _ e => e, ?_⟩⟩
        refine ⟨rfl, ask_word EK hzl (Rs.At.mono q5 e6) fun H7 s7 => ?_⟩
        exact ⟨((((e1.trans (Same.ext s3)).trans e4).trans (Same.ext s5)).trans e6).trans (Same.ext s7), Tabs.same t6 s7, _, _, rfl⟩
    · rintro σ H1 ⟨e1, t1, v, u, rfl⟩
      exact k H1 e1 t1
end
end K0
namespace K0
open PySem PySem.Spec PyProof.Rows L2 Bs LamX
abbrev s_ask : Stmt := top 50
theorem sc_ask : FnScope ["text", "size", "due", "kept"] ["text", "size"] (defScope s_ask) := ⟨rfl, rfl, rfl, by decide +kernel, rfl, by decide +kernel, by decide +kernel⟩
def cAsk (vs : List V) (_ : Hp) : Prop := ∃ (z : Str) (n : Int), vs = [.str z, .int n] ∧ z.length ≤ 100000 ∧ okT z ∧ 1 ≤ n ∧ n ≤ 6
theorem eqv_told (r : Rs) (z : Str) : PyData.eqv r.data (Rs.told z).data = decide (r = .told z) := by
  cases r with
  | told y =>
    show ((Str.ofString "told" == Str.ofString "told") && ((y == z) && true)) = _
    by_cases h : y = z
    · subst h; simp
    · rw [decide_eq_false (fun e => h (by injection e)), beq_false_of_ne h]; simp
  | no nam =>
    rw [decide_eq_false (fun e => by cases e)]
    have e : (Str.ofString "refused" == Str.ofString "told") = false := by decide
    simp [Rs.data, PyData.eqv, PyData.eqvAll, e]
theorem rs_dp {K : PySem.W.Frag} {H : Hp} {p : Addr} : ∀ {r : Rs}, r.At H p → Dp K H (.ref p) r.data
  | .told z, h => .tup (SqT.of h) (.cons (.str _) (.cons (.str _) .nil))
  | .no nam, ⟨q, r, h1, h2, h3⟩ => .tup (SqT.of h1) (.cons (.str _) (.cons (.lst (SqL.of h2) (.cons (.str _) .nil)) (.cons (.tup (SqT.of h3) .nil) .nil)))
theorem told_shaped {z : Str} (h : okT z) : SeqAt.shaped (Rs.told z).data = true := by
  have h1 := h.strOk
  have h2 : PyData.strOk (Str.ofString "told") = true := by decide +kernel
  simp [Rs.data, SeqAt.shaped, PyData.canLay0, PyData.canLayAll0, PyData.depth, PyData.depthAll, h1, h2]
theorem due_shaped (n : Int) (z : Str) : SeqAt.shaped (dueR n z).data = true := by
  unfold dueR
  split
  · exact told_shaped (okT_tx fun c hc => okT_cut okT_abc c (List.mem_filter.mp hc).1)
  · decide +kernel
section
variable {P : Program} {w : World} {K : PySem.W.Frag} {mg : Str → Option Value} {base : Heap}
theorem ask_make {ea : ErrA} {D : Addr} (EK : ErrK K ea D "BadLot") {H : Hp} {q : Addr} {z : Str} {n : Int} {Q : VK} (hz : z.length ≤ 100000) (n1 : 1 ≤ n) (n6 : n ≤ 6) (h : (dueR n z).At H q) (k : ∀ H2, Same H H2 → Q (.bl true) H2) :
    spMakeLot D [.str z, .int n] H (toldV (isQ (.ref q) Q)) (toldE K ea (isQ (.ref q) Q)) := by
  rw [dueR_eq] at h
  refine ⟨.str z, .int n, rfl, arg_str hz, rfl, fun n' z' en _ _ ez hb H' s => ?_, fun hb H' s => ?_⟩
  · cases en
    cases ez
    rw [if_pos hb] at h
    exact told_ok h s k
  · have hb' : badM n (.str z) = true := by
      rcases hb with hb | ⟨n', en, _, _, hb⟩
      · have hb : (!(decide (1 ≤ n) && decide (n ≤ 6))) = true := hb
        rw [decide_eq_true n1, decide_eq_true n6] at hb
        cases hb
      · cases en
        exact hb
    rw [if_neg (by rw [hb']; decide)] at h
    exact told_no EK h s k
theorem ask_check {ea : ErrA} {D : Addr} (EK : ErrK K ea D "BadLot") {H : Hp} {q : Addr} {z : Str} {n : Int} {Q : VK} (hz : z.length ≤ 100000) (n1 : 1 ≤ n) (n6 : n ≤ 6) (h : (keptR n z).At H q) (k : ∀ H2, Same H H2 → Q (.bl true) H2) :
    spCheckLot D [.str z, .int n] H (toldV (isQ (.ref q) Q)) (toldE K ea (isQ (.ref q) Q)) := by
  rw [kept_eq n1 n6] at h
  refine ⟨.str z, .int n, rfl, arg_str hz, rfl, fun n' z' en _ _ ez hb H' s => ?_, fun hb H' s => ?_⟩
  · cases en
    cases ez
    rw [if_pos hb] at h
    exact told_ok h s k
  · have hb' : isL n z = false := by
      rcases hb with hb | ⟨n', en, _, _, hb⟩
      · have hb : (!(decide (1 ≤ n) && decide (n ≤ 6))) = true := hb
        rw [decide_eq_true n1, decide_eq_true n6] at hb
        cases hb
      · cases en
        have hb : (!isL n z) = true := hb
        simpa using hb
    rw [if_neg (by rw [hb']; decide)] at h
    exact told_no EK h s k
def swp {α : Type} : List α → List α
  | [a, b] => [b, a]
  | zs => zs
theorem swp_rel {zs : List V} {ws : List Value} (r : Vals zs ws) : Vals (swp zs) (swp ws) := by
  cases r with
  | nil => exact .nil
  | cons q1 r =>
    cases r with
    | nil => exact .cons q1 .nil
    | cons q2 r =>
      cases r with
      | nil => exact .cons q2 (.cons q1 .nil)
      | cons q3 r => exact .cons q1 (.cons q2 (.cons q3 r))
def swap2 (_ : List V) (zs : List V) : List V := swp zs
theorem ok_ask {ea : ErrA} {gt gi f c Pt : Addr} {fdt fdi fd : FuncData} {TL : List (Addr × Str)} (F : FunC K "_law_asked" "_law_asked" s_ask f fd c) (W : Asks P w K mg base ea gt gi fdt fdi) (M : Mkr base mg TL "_law_asked" c Pt) (EK : ErrK K ea ea.BadLot "BadLot")
    (G_no : FnE P w K mg base CX0 1 "_law_no" ["name"] spNo) (G_due : FnE P w K mg base CX0 2 "_law_due" ["text", "size"] spDue) (P_make_lot : FnE P w K mg base (L2.CX P w) 2 "make_lot" ["letters", "size"] (spMakeLot ea.BadLot))
    (PK_make_lot : FnKE P w K mg base (L2.CX P w) 2 "make_lot" ["letters", "size"] (spMakeLot ea.BadLot) ["size", "letters"] swap2) (P_check_lot : FnE P w K mg base (L2.CX P w) 2 "check_lot" ["lot", "size"] (spCheckLot ea.BadLot))
    (PK_check_lot : FnKE P w K mg base (L2.CX P w) 2 "check_lot" ["lot", "size"] (spCheckLot ea.BadLot) ["size", "lot"] swap2) : FnOk P w K mg base CX0 6 f fd ["text", "size"] (spOkT TL cAsk) := by
  have sc := sc_ask
  have T := W.T
  obtain ⟨_, _, G_no⟩ := G_no
  obtain ⟨_, _, G_due⟩ := G_due
  obtain ⟨_, _, P_make_lot⟩ := P_make_lot
  obtain ⟨_, _, P_check_lot⟩ := P_check_lot
  refine F.ok sc (fun vs H Q E h => ?_) (fun A outer s H vs Q E hr h => ?_)
  · obtain ⟨⟨z, n, rfl, _⟩, _⟩ := h
    rfl
  · obtain ⟨⟨z, n, rfl, hz, hok, n1, n6⟩, hT, k⟩ := h
    refine ⟨_, (pss_cons (ps_set (i := 2) sc.nd rfl (Or.inl rfl) (fn G_due (hr.mono (by decide)) (by rfl) pass0 (pa_cons (nm 0) (pa_cons (nm 1) pa_nil))))
      (pss_cons (ps_set (i := 3) sc.nd rfl (Or.inl rfl) (fn G_no (hr.mono (by decide)) (by rfl) pass0 (pa_cons pe_str pa_nil)))
      (pss_cut (ps_if (cmpT (o_eq hr) (nm 2) (pe_tup (pa_cons pe_str (pa_cons (nm 0) pa_nil))) (nomark _)) (pss_one (ps_set (i := 3) sc.nd rfl (Or.inl rfl) (nm 2))) pss_nil)
      (pss_one (ps_ret (pe_callB (b_all rfl) (by rfl) T.all boot_all (pa_cons (pe_lst (pa_cons (pe_islam (k := 2) W rfl M.tb rfl M.mem M.un (hr.mono (by decide)) (lamS_by (by rfl)) (fun A outer s H E f c2 hr2 => (fn P_make_lot (hr2.mono (by decide)) (by rfl) lamX (pa_cons (nm 0) (pa_cons (nm 1) pa_nil)))) (nm 2)) (pa_cons (pe_islam (k := 2) W rfl M.tb rfl M.mem M.un (hr.mono (by decide)) (lamS_by (by rfl)) (fun A outer s H E f c2 hr2 => (fnK PK_make_lot (hr2.mono (by decide)) (by rfl) lamX (pk_cons (nm 1) (pk_cons (nm 0) pk_nil)))) (nm 2)) (pa_cons (pe_islam (k := 2) W rfl M.tb rfl M.mem M.un (hr.mono (by decide)) (lamS_by (by rfl)) (fun A outer s H E f c2 hr2 => (fn P_check_lot (hr2.mono (by decide)) (by rfl) lamX (pa_cons (nm 0) (pa_cons (nm 1) pa_nil)))) (nm 3)) (pa_cons (pe_islam (k := 2) W rfl M.tb rfl M.mem M.un (hr.mono (by decide)) (lamS_by (by rfl)) (fun A outer s H E f c2 hr2 => (fnK PK_check_lot (hr2.mono (by decide)) (by rfl) lamX (pk_cons (nm 1) (pk_cons (nm 0) pk_nil)))) (nm 3)) pa_nil))))) pa_nil))))))), ?_⟩
    refine ⟨z, n, rfl, hz, n1, n6, fun p H1 s1 h1 => ⟨_, rfl, fun q H2 s2 h2 => ?_⟩⟩
    have h1' := rs_same h1 s2
    refine ⟨fun σ H3 => ∃ r, Same H2 H3 ∧ (keptR n z).At H3 r ∧ σ = [some (.str z), some (.int n), some (.ref p), some (.ref r)], ?_, ?_⟩
    · refine ⟨by show 2 ≤ sizeLine; decide, fun t ht => ⟨_, (Rs.told z).data, rs_dp (rs_same h1' (Same.up ht)), rs_dp (r := .told z) upd_same, due_shaped n z, told_shaped hok, ?_⟩⟩
      rw [eqv_told]
      refine ite2 (fun e => ?_) (fun e => ?_)
      · refine ⟨p, Same.up ht, ?_, rfl⟩
        have e' := of_decide_eq_true e
        unfold keptR
        rw [if_pos e', ← e']
        exact rs_same h1' (Same.up ht)
      · refine ⟨q, Same.up ht, ?_, rfl⟩
        have e' := of_decide_eq_false ((Bool.not_eq_true _).mp e)
        unfold keptR
        rw [if_neg e']
        exact rs_same (r := .no "BadLot") h2 (Same.up ht)
    · rintro σ H3 ⟨r, s3, h3, rfl⟩
      have s13 := Same.tr s2 s3
      have d3 := rs_same h1 s13
      have t3 : Tabs TL H3 := Tabs.same hT (Same.tr s1 s13)
      refine ⟨t3, fun H4 e4 t4 => ⟨fun _ _ e => e, ask_make EK hz n1 n6 (Rs.At.mono d3 e4) fun H5 s5 => ?_⟩⟩
      have e35 := e4.trans (Same.ext s5)
      refine ⟨Tabs.same t4 s5, fun H6 e6 t6 => ⟨fun _ _ e => e, rfl, ask_make EK hz n1 n6 (Rs.At.mono d3 (e35.trans e6)) fun H7 s7 => ?_⟩⟩
      have e37 := (e35.trans e6).trans (Same.ext s7)
      refine ⟨Tabs.same t6 s7, fun H8 e8 t8 => ⟨fun _ _ e => e, ask_check EK hz n1 n6 (Rs.At.mono h3 (e37.trans e8)) fun H9 s9 => ?_⟩⟩
      have e39 := (e37.trans e8).trans (Same.ext s9)
      refine ⟨Tabs.same t8 s9, fun Ha ea ta => ⟨fun _ _ e => e, rfl, ask_check EK hz n1 n6 (Rs.At.mono h3 (e39.trans ea)) fun Hb sb => ?_⟩⟩
      have e3b := (e39.trans ea).trans (Same.ext sb)
      refine ⟨by show 4 ≤ sizeLine; decide, fun l hl => ⟨[true, true, true, true], SqL.of upd_same, ?_⟩⟩
      exact k _ (((Same.ext (Same.tr s1 s13)).trans e3b).trans (Same.ext (Same.up hl))) (Tabs.same (Tabs.same ta sb) (Same.up hl))
end
end K0
namespace K0
open PySem PySem.Spec PyProof.Rows L2 Bs LamX
abbrev s_siz : Stmt := top 51
theorem sc_siz : FnScope ["texts", "size", "text", "due"] ["texts"] (defScope s_siz) := ⟨rfl, rfl, rfl, by decide +kernel, rfl, by decide +kernel, by decide +kernel⟩
def cSiz (vs : List V) (H : Hp) : Prop := ∃ (lt : Addr) (ts : List Str), vs = [.ref lt] ∧ H lt = some (.lst (ts.map V.str)) ∧ ∀ z ∈ ts, z.length ≤ 100000 ∧ okT z
abbrev s_ref : Stmt := top 52
theorem sc_ref : FnScope ["size", "lot", "text", "bads", "no"] ["size", "lot", "text", "bads"] (defScope s_ref) := ⟨rfl, rfl, rfl, by decide +kernel, rfl, by decide +kernel, by decide +kernel⟩
def cRef (vs : List V) (H : Hp) : Prop := ∃ (n : Int) (lot text : Str) (lb : Addr) (b0 b1 b2 b3 : V), vs = [.int n, .str lot, .str text, .ref lb] ∧ 1 ≤ n ∧ n ≤ 6 ∧ lot.length ≤ 100000 ∧ text.length ≤ 100000 ∧ Bads H n lb b0 b1 b2 b3
theorem Bads.ext {H H' : Hp} {n : Int} {l : Addr} {b0 b1 b2 b3 : V} (b : Bads H n l b0 b1 b2 b3) (e : ExtN H H') : Bads H' n l b0 b1 b2 b3 :=
  ⟨e _ _ b.at_ (fun _ z => by cases z), b.j0.mono fun p o _ h g => e p o h g, b.j1.mono fun p o _ h g => e p o h g, b.j2.mono fun p o _ h g => e p o h g, b.j3.mono fun p o _ h g => e p o h g, b.t0, b.t1, b.t2, b.t3, b.s0.mono fun p o _ h g => e p o h g, b.s1.mono fun p o _ h g => e p o h g, b.s2.mono fun p o _ h g => e p o h g, b.s3.mono fun p o _ h g => e p o h g, b.nm⟩
theorem arg_jk {H : Hp} {v : V} (j : Jk H v) : Arg H v := ⟨j, fun z e => by subst e; exact of_decide_eq_true j⟩
section
variable {K : PySem.W.Frag}
theorem ask_slots {ea : ErrA} {D : Addr} {H : Hp} {q : Addr} {n : Int} {Q : VK} (n1 : 1 ≤ n) (n6 : n ≤ 6) (h : (Rs.told (below n)).At H q) (k : ∀ H2, Same H H2 → Q (.bl true) H2) :
    spSlots D [.int n] H (toldV (isQ (.ref q) Q)) (toldE K ea (isQ (.ref q) Q)) := by
  refine ⟨.int n, rfl, rfl, fun m e _ _ => ?_, fun hb => ?_⟩
  · cases e
    exact told_ok h (fun _ _ e => e) k
  · have hb : (!(decide (1 ≤ n) && decide (n ≤ 6))) = true := hb
    rw [decide_eq_true n1, decide_eq_true n6] at hb
    cases hb
theorem no_slots {ea : ErrA} {D : Addr} (EK : ErrK K ea D "BadLot") {H : Hp} {q : Addr} {v : V} {Q : VK} (j : Jk H v) (hv : badS v = true) (h : (Rs.no "BadLot").At H q) (k : ∀ H2, Same H H2 → Q (.bl true) H2) :
    spSlots D [v] H (toldV (isQ (.ref q) Q)) (toldE K ea (isQ (.ref q) Q)) := by
  refine ⟨v, rfl, j, fun m e h1 h2 => ?_, fun _ => told_no EK h (fun _ _ e => e) k⟩
  subst e
  have hb : (!(decide (1 ≤ m) && decide (m ≤ 6))) = true := hv
  rw [decide_eq_true h1, decide_eq_true h2] at hb
  cases hb
theorem no_make {ea : ErrA} {D : Addr} (EK : ErrK K ea D "BadLot") {H : Hp} {q : Addr} {v nv : V} {Q : VK} (j : Jk H v) (jn : Jk H nv) (hv : badS nv = true ∨ ∃ n, nv = .int n ∧ 1 ≤ n ∧ n ≤ 6 ∧ badM n v = true) (h : (Rs.no "BadLot").At H q) (k : ∀ H2, Same H H2 → Q (.bl true) H2) :
    spMakeLot D [v, nv] H (toldV (isQ (.ref q) Q)) (toldE K ea (isQ (.ref q) Q)) := by
  refine ⟨v, nv, rfl, arg_jk j, jn, fun m z e h1 h2 ez hb H' s => ?_, fun _ H' s => told_no EK h s k⟩
  subst e
  subst ez
  rcases hv with hv | ⟨m', e, _, _, hv⟩
  · have hv : (!(decide (1 ≤ m) && decide (m ≤ 6))) = true := hv
    rw [decide_eq_true h1, decide_eq_true h2] at hv
    cases hv
  · cases e
    rw [hv] at hb
    cases hb
theorem no_check {ea : ErrA} {D : Addr} (EK : ErrK K ea D "BadLot") {H : Hp} {q : Addr} {v nv : V} {Q : VK} (j : Jk H v) (jn : Jk H nv) (hv : badS nv = true ∨ ∃ n, nv = .int n ∧ 1 ≤ n ∧ n ≤ 6 ∧ badL n v = true) (h : (Rs.no "BadLot").At H q) (k : ∀ H2, Same H H2 → Q (.bl true) H2) :
    spCheckLot D [v, nv] H (toldV (isQ (.ref q) Q)) (toldE K ea (isQ (.ref q) Q)) := by
  refine ⟨v, nv, rfl, arg_jk j, jn, fun m z e h1 h2 ez hb H' s => ?_, fun _ H' s => told_no EK h s k⟩
  subst e
  subst ez
  rcases hv with hv | ⟨m', e, _, _, hv⟩
  · have hv : (!(decide (1 ≤ m) && decide (m ≤ 6))) = true := hv
    rw [decide_eq_true h1, decide_eq_true h2] at hv
    cases hv
  · cases e
    have hv : (!isL m z) = true := hv
    rw [hb] at hv
    cases hv
theorem no_word {ea : ErrA} {D : Addr} (EK : ErrK K ea D "BadWord") {H : Hp} {q : Addr} {v : V} {Q : VK} (j : Jk H v) (hv : badW v = true) (h : (Rs.no "BadWord").At H q) (k : ∀ H2, Same H H2 → Q (.bl true) H2) :
    spCheckWord D [v] H (toldV (isQ (.ref q) Q)) (toldE K ea (isQ (.ref q) Q)) := by
  refine ⟨v, rfl, arg_jk j, fun e => ?_, fun _ H' s => told_no EK h s k⟩
  cases v with
  | str z =>
    have e' : isW z = true := e
    have hv : (!isW z) = true := hv
    rw [e'] at hv
    cases hv
  | _ => cases e
end
section
variable {P : Program} {w : World} {K : PySem.W.Frag} {mg : Str → Option Value} {base : Heap}
theorem ok_siz {ea : ErrA} {gt gi f c Pt : Addr} {fdt fdi fd : FuncData} {TL : List (Addr × Str)} (F : FunC K "_law_sizes" "_law_sizes" s_siz f fd c) (W : Asks P w K mg base ea gt gi fdt fdi) (M : Mkr base mg TL "_law_sizes" c Pt) (EK : ErrK K ea ea.BadLot "BadLot")
    (G_no : FnE P w K mg base CX0 1 "_law_no" ["name"] spNo) (G_due : FnE P w K mg base CX0 2 "_law_due" ["text", "size"] spDue) (G_asked : FnE P w K mg base CX0 6 "_law_asked" ["text", "size"] (spOkT TL cAsk))
    (P_slots_below : FnE P w K mg base (L2.CX P w) 1 "slots_below" ["size"] (spSlots ea.BadLot)) (PK_slots_below : FnKE P w K mg base (L2.CX P w) 1 "slots_below" ["size"] (spSlots ea.BadLot) ["size"] fun _ zs => zs)
    (PD_make_lot : FnDE P w K mg base (L2.CX P w) 2 "make_lot" ["letters", "size"] (spMakeLot ea.BadLot) [.int 6]) (PD_check_lot : FnDE P w K mg base (L2.CX P w) 2 "check_lot" ["lot", "size"] (spCheckLot ea.BadLot) [.int 6]) :
    FnOk P w K mg base CX0 7 f fd ["texts"] (spOkT TL cSiz) := by
  have sc := sc_siz
  have T := W.T
  obtain ⟨_, _, G_no⟩ := G_no
  obtain ⟨_, _, G_due⟩ := G_due
  obtain ⟨_, _, G_asked⟩ := G_asked
  obtain ⟨_, _, P_slots_below⟩ := P_slots_below
  refine F.ok sc (fun vs H Q E h => ?_) (fun A outer s H vs Q E hr h => ?_)
  · obtain ⟨⟨lt, ts, rfl, _⟩, _⟩ := h
    rfl
  · obtain ⟨⟨lt, ts, rfl, hlt, hts⟩, hT, k⟩ := h
    refine ⟨_, (pss_cons (ps_for PassesOwn.never rfl (pi_range2 rfl T.range (pa_cons pe_int (pa_cons pe_int pa_nil))) (pg_name (i := 1) sc.nd rfl (Or.inr rfl)) (pss_cons (ps_for PassesOwn.never rfl (pi_any (nm 0)) (pg_name (i := 2) sc.nd rfl (Or.inr rfl)) (pss_one (ps_if (pt_not (tst (fn G_asked (hr.mono (by decide)) (by rfl) pass0 (pa_cons (nm 2) (pa_cons (nm 1) pa_nil))))) (pss_one (ps_ret pe_bl)) pss_nil)))
      (pss_cons (ps_if (pt_not (tst (pe_islam (k := 2) W rfl M.tb rfl M.mem M.un (hr.mono (by decide)) (lamS_by (by rfl)) (fun A outer s H E f c2 hr2 => (fn P_slots_below (hr2.mono (by decide)) (by rfl) lamX (pa_cons (nm 1) pa_nil))) (pe_tup (pa_cons pe_str (pa_cons (pe_slice sl_any pe_str po_none (po (nm 1))) pa_nil)))))) (pss_one (ps_ret pe_bl)) pss_nil)
      (pss_one (ps_if (pt_not (tst (pe_islam (k := 2) W rfl M.tb rfl M.mem M.un (hr.mono (by decide)) (lamS_by (by rfl)) (fun A outer s H E f c2 hr2 => (fnK PK_slots_below (hr2.mono (by decide)) (by rfl) lamX (pk_cons (nm 1) pk_nil))) (pe_tup (pa_cons pe_str (pa_cons (pe_slice sl_any pe_str po_none (po (nm 1))) pa_nil)))))) (pss_one (ps_ret pe_bl)) pss_nil)))))
      (pss_cons (ps_for PassesOwn.never rfl (pi_any (nm 0)) (pg_name (i := 2) sc.nd rfl (Or.inr rfl)) (pss_cons (ps_set (i := 3) sc.nd rfl (Or.inl rfl) (fn G_due (hr.mono (by decide)) (by rfl) pass0 (pa_cons (nm 2) (pa_cons pe_int pa_nil))))
      (pss_cons (ps_if (pt_not (tst (pe_islam (k := 2) W rfl M.tb rfl M.mem M.un (hr.mono (by decide)) (lamS_by (by rfl)) (fun A outer s H E f c2 hr2 => (fnD PD_make_lot (hr2.mono (by decide)) (by rfl) lamX (pa_cons (nm 2) pa_nil))) (nm 3)))) (pss_one (ps_ret pe_bl)) pss_nil)
      (pss_cut (ps_if (cmpT (o_ne hr) (nm 3) (pe_tup (pa_cons pe_str (pa_cons (nm 2) pa_nil))) (nomark _)) (pss_one (ps_set (i := 3) sc.nd rfl (Or.inl rfl) (fn G_no (hr.mono (by decide)) (by rfl) pass0 (pa_cons pe_str pa_nil)))) pss_nil)
      (pss_one (ps_if (pt_not (tst (pe_islam (k := 2) W rfl M.tb rfl M.mem M.un (hr.mono (by decide)) (lamS_by (by rfl)) (fun A outer s H E f c2 hr2 => (fnD PD_check_lot (hr2.mono (by decide)) (by rfl) lamX (pa_cons (nm 2) pa_nil))) (nm 3)))) (pss_one (ps_ret pe_bl)) pss_nil))))))
      (pss_one (ps_ret pe_bl)))), ?_⟩
    have atl : ∀ {H'}, ExtN H H' → H' lt = some (.lst (ts.map V.str)) := fun e => e _ _ hlt (fun _ z => by cases z)
    refine ⟨_, _, rfl, ⟨by decide, by decide, by decide, by decide⟩, for_range (lo := 1) (n := 6) (fun i σ H' => ExtN H H' ∧ Tabs TL H' ∧ ∃ v u, σ = [some (.ref lt), v, u, none]) ⟨ExtN.refl H, hT, none, none, rfl⟩ ?_ ?_⟩
    · rintro i σ H1 hi ⟨e1, t1, v, u, rfl⟩
      have m1 : (1 : Int) ≤ 1 + (i : Int) := by omega
      have m6 : 1 + (i : Int) ≤ 6 := by omega
      refine for_sq (K := K) (a := lt) (xs := ts.map V.str) (fun j σ H' => ExtN H H' ∧ Tabs TL H' ∧ ∃ u, σ = [some (.ref lt), some (.int (1 + (i : Int))), u, none]) ⟨e1, t1, u, rfl⟩ (.inl fun j σ H' _ ⟨e, _⟩ => SqL.of (atl e)) ?_ ?_ rfl
      · rintro j x σ H2 hx ⟨e2, t2, u, rfl⟩
        obtain ⟨z, hz, rfl⟩ := List.mem_map.mp (List.mem_of_getElem? hx)
        exact ⟨⟨z, _, rfl, (hts z hz).1, (hts z hz).2, m1, m6⟩, t2, fun H3 e3 t3 => ⟨e2.trans e3, t3, _, rfl⟩⟩
      · rintro σ H2 ⟨e2, t2, u, rfl⟩
        refine ⟨t2, fun H3 e3 t3 => ⟨by decide, by show 2 ≤ sizeLine; decide, fun p hp => ⟨Same.up hp, ask_slots m1 m6 upd_same fun H4 s4 => ?_⟩⟩⟩
        have t4 : Tabs TL H4 := Tabs.same t3 (Same.tr (Same.up hp) s4)
        have e4 := (e2.trans e3).trans (Same.ext (Same.tr (Same.up hp) s4))
        refine ⟨t4, fun H5 e5 t5 => ⟨by decide, by show 2 ≤ sizeLine; decide, fun q hq => ⟨Same.up hq, rfl, ask_slots m1 m6 upd_same fun H6 s6 => ?_⟩⟩⟩
        exact ⟨(e4.trans e5).trans (Same.ext (Same.tr (Same.up hq) s6)), Tabs.same t5 (Same.tr (Same.up hq) s6), _, _, rfl⟩
    · rintro σ H1 ⟨e1, t1, v, u, rfl⟩
      refine for_sq (K := K) (a := lt) (xs := ts.map V.str) (fun j σ H' => ExtN H H' ∧ Tabs TL H' ∧ ∃ v u x, σ = [some (.ref lt), v, u, x]) ⟨e1, t1, v, u, none, rfl⟩ (.inl fun j σ H' _ ⟨e, _⟩ => SqL.of (atl e)) ?_ ?_ rfl
      · rintro j x σ H2 hx ⟨e2, t2, v, u, y, rfl⟩
        obtain ⟨z, hz, rfl⟩ := List.mem_map.mp (List.mem_of_getElem? hx)
        obtain ⟨hzl, hok⟩ := hts z hz
        refine ⟨z, 6, rfl, hzl, by decide, by decide, fun p H3 s3 h3 => ?_⟩
        refine ⟨Tabs.same t2 s3, fun H4 e4 t4 => ⟨fun _ _ e => e, ask_make EK hzl (by decide) (by decide) (Rs.At.mono h3 e4) fun H5 s5 => ?_⟩⟩
        have h5 := Rs.At.mono h3 (e4.trans (Same.ext s5))
        have t5 : Tabs TL H5 := Tabs.same t4 s5
        have e5 := e2.trans ((Same.ext s3).trans (e4.trans (Same.ext s5)))
        refine ⟨fun σ H6 => ∃ q, Same H5 H6 ∧ (keptR 6 z).At H6 q ∧ σ = [some (.ref lt), v, some (.str z), some (.ref q)], ?_, ?_⟩
        · refine ⟨by show 2 ≤ sizeLine; decide, fun t ht => ⟨_, (Rs.told z).data, rs_dp (rs_same h5 (Same.up ht)), rs_dp (r := .told z) upd_same, due_shaped 6 z, told_shaped hok, ?_⟩⟩
          rw [eqv_told]
          refine ite2 (fun e => ?_) (fun e => ?_)
          · have e' : dueR 6 z ≠ .told z := by simpa using e
            refine ⟨_, rfl, fun q H6 s6 h6 => ⟨q, Same.tr (Same.up ht) s6, ?_, rfl⟩⟩
            unfold keptR
            rw [if_neg e']
            exact h6
          · have e' : dueR 6 z = .told z := by simpa using e
            refine ⟨p, Same.up ht, ?_, rfl⟩
            unfold keptR
            rw [if_pos e', ← e']
            exact rs_same h5 (Same.up ht)
        · rintro σ H6 ⟨q, s6, h6, rfl⟩
          refine ⟨Tabs.same t5 s6, fun H7 e7 t7 => ⟨fun _ _ e => e, ask_check EK hzl (by decide) (by decide) (Rs.At.mono h6 e7) fun H8 s8 => ?_⟩⟩
          exact ⟨(e5.trans (Same.ext s6)).trans (e7.trans (Same.ext s8)), Tabs.same t7 s8, _, _, _, rfl⟩
      · rintro σ H2 ⟨e2, t2, v, u, y, rfl⟩
        exact k H2 e2 t2
theorem bad0 {v : V} (h : badT v = true) (n : Int) : badM n v = true ∧ badL n v = true := by cases v <;> first | exact ⟨rfl, rfl⟩ | cases h
theorem tx_a : tx (normL 1 "a") = "a" := by decide +kernel
theorem one_a : below 1 = "a" := by decide +kernel
theorem ok_ref {ea : ErrA} {gt gi f c Pt : Addr} {fdt fdi fd : FuncData} {TL : List (Addr × Str)} (F : FunC K "_law_refusals" "_law_refusals" s_ref f fd c) (W : Asks P w K mg base ea gt gi fdt fdi) (M : Mkr base mg TL "_law_refusals" c Pt) (EK : ErrK K ea ea.BadLot "BadLot") (EW : ErrK K ea ea.BadWord "BadWord")
    (G_no : FnE P w K mg base CX0 1 "_law_no" ["name"] spNo) (P_slots_below : FnE P w K mg base (L2.CX P w) 1 "slots_below" ["size"] (spSlots ea.BadLot)) (P_make_lot : FnE P w K mg base (L2.CX P w) 2 "make_lot" ["letters", "size"] (spMakeLot ea.BadLot))
    (P_check_lot : FnE P w K mg base (L2.CX P w) 2 "check_lot" ["lot", "size"] (spCheckLot ea.BadLot)) (P_check_word : FnE P w K mg base (L2.CX P w) 2 "check_word" ["word"] (spCheckWord ea.BadWord))
    (PD_make_lot : FnDE P w K mg base (L2.CX P w) 2 "make_lot" ["letters", "size"] (spMakeLot ea.BadLot) [.int 6]) (PD_check_lot : FnDE P w K mg base (L2.CX P w) 2 "check_lot" ["lot", "size"] (spCheckLot ea.BadLot) [.int 6]) :
    FnOk P w K mg base CX0 6 f fd ["size", "lot", "text", "bads"] (spOkT TL cRef) := by
  have sc := sc_ref
  have T := W.T
  obtain ⟨_, _, G_no⟩ := G_no
  obtain ⟨_, _, P_slots_below⟩ := P_slots_below
  obtain ⟨_, _, P_make_lot⟩ := P_make_lot
  obtain ⟨_, _, P_check_lot⟩ := P_check_lot
  obtain ⟨_, _, P_check_word⟩ := P_check_word
  refine F.ok sc (fun vs H Q E h => ?_) (fun A outer s H vs Q E hr h => ?_)
  · obtain ⟨⟨n, lot, text, lb, b0, b1, b2, b3, rfl, _⟩, _⟩ := h
    rfl
  · obtain ⟨⟨n, lot, text, lb, b0, b1, b2, b3, rfl, n1, n6, hlot, htext, B⟩, hT, k⟩ := h
    refine ⟨_, (pss_cons (ps_set (i := 4) sc.nd rfl (Or.inl rfl) (fn G_no (hr.mono (by decide)) (by rfl) pass0 (pa_cons pe_str pa_nil)))
      (pss_one (ps_ret (pe_callB (b_all rfl) (by rfl) T.all boot_all (pa_cons (pe_lst (pa_cons (pe_islam (k := 2) W rfl M.tb rfl M.mem M.un (hr.mono (by decide)) (lamS_by (by rfl)) (fun A outer s H E f c2 hr2 => (fn P_make_lot (hr2.mono (by decide)) (by rfl) lamX (pa_cons (pe_ix (x_anyK K rfl) (nm 3) pe_int (fun _ _ => rfl)) (pa_cons (nm 0) pa_nil)))) (nm 4)) (pa_cons (pe_islam (k := 2) W rfl M.tb rfl M.mem M.un (hr.mono (by decide)) (lamS_by (by rfl)) (fun A outer s H E f c2 hr2 => (fnD PD_make_lot (hr2.mono (by decide)) (by rfl) lamX (pa_cons (pe_ix (x_anyK K rfl) (nm 3) pe_int (fun _ _ => rfl)) pa_nil))) (nm 4)) (pa_cons (pe_islam (k := 2) W rfl M.tb rfl M.mem M.un (hr.mono (by decide)) (lamS_by (by rfl)) (fun A outer s H E f c2 hr2 => (fnD PD_check_lot (hr2.mono (by decide)) (by rfl) lamX (pa_cons (pe_ix (x_anyK K rfl) (nm 3) pe_int (fun _ _ => rfl)) pa_nil))) (nm 4)) (pa_cons (pe_islam (k := 2) W rfl M.tb rfl M.mem M.un (hr.mono (by decide)) (lamS_by (by rfl)) (fun A outer s H E f c2 hr2 => (fn P_check_lot (hr2.mono (by decide)) (by rfl) lamX (pa_cons (pe_ix (x_anyK K rfl) (nm 3) pe_int (fun _ _ => rfl)) (pa_cons (nm 0) pa_nil)))) (nm 4)) (pa_cons (pe_islam (k := 2) W rfl M.tb rfl M.mem M.un (hr.mono (by decide)) (lamS_by (by rfl)) (fun A outer s H E f c2 hr2 => (fn P_make_lot (hr2.mono (by decide)) (by rfl) lamX (pa_cons (nm 2) (pa_cons (pe_ix (x_anyK K rfl) (nm 3) pe_int (fun _ _ => rfl)) pa_nil)))) (nm 4)) (pa_cons (pe_islam (k := 2) W rfl M.tb rfl M.mem M.un (hr.mono (by decide)) (lamS_by (by rfl)) (fun A outer s H E f c2 hr2 => (fn P_check_lot (hr2.mono (by decide)) (by rfl) lamX (pa_cons (nm 1) (pa_cons (pe_ix (x_anyK K rfl) (nm 3) pe_int (fun _ _ => rfl)) pa_nil)))) (nm 4)) (pa_cons (pe_islam (k := 2) W rfl M.tb rfl M.mem M.un (hr.mono (by decide)) (lamS_by (by rfl)) (fun A outer s H E f c2 hr2 => (fn P_slots_below (hr2.mono (by decide)) (by rfl) lamX (pa_cons (pe_ix (x_anyK K rfl) (nm 3) pe_int (fun _ _ => rfl)) pa_nil))) (nm 4)) (pa_cons (pe_islam (k := 2) W rfl M.tb rfl M.mem M.un (hr.mono (by decide)) (lamS_by (by rfl)) (fun A outer s H E f c2 hr2 => (fn P_make_lot (hr2.mono (by decide)) (by rfl) lamX (pa_cons pe_str (pa_cons pe_int pa_nil)))) (pe_tup (pa_cons pe_str (pa_cons pe_str pa_nil)))) (pa_cons (pe_islam (k := 2) W rfl M.tb rfl M.mem M.un (hr.mono (by decide)) (lamS_by (by rfl)) (fun A outer s H E f c2 hr2 => (fn P_make_lot (hr2.mono (by decide)) (by rfl) lamX (pa_cons pe_str (pa_cons pe_bl pa_nil)))) (nm 4)) (pa_cons (pe_islam (k := 2) W rfl M.tb rfl M.mem M.un (hr.mono (by decide)) (lamS_by (by rfl)) (fun A outer s H E f c2 hr2 => (fn P_check_lot (hr2.mono (by decide)) (by rfl) lamX (pa_cons pe_str (pa_cons pe_int pa_nil)))) (pe_tup (pa_cons pe_str (pa_cons pe_str pa_nil)))) (pa_cons (pe_islam (k := 2) W rfl M.tb rfl M.mem M.un (hr.mono (by decide)) (lamS_by (by rfl)) (fun A outer s H E f c2 hr2 => (fn P_check_lot (hr2.mono (by decide)) (by rfl) lamX (pa_cons pe_str (pa_cons pe_bl pa_nil)))) (nm 4)) (pa_cons (pe_islam (k := 2) W rfl M.tb rfl M.mem M.un (hr.mono (by decide)) (lamS_by (by rfl)) (fun A outer s H E f c2 hr2 => (fn P_slots_below (hr2.mono (by decide)) (by rfl) lamX (pa_cons pe_int pa_nil))) (pe_tup (pa_cons pe_str (pa_cons pe_str pa_nil)))) (pa_cons (pe_islam (k := 2) W rfl M.tb rfl M.mem M.un (hr.mono (by decide)) (lamS_by (by rfl)) (fun A outer s H E f c2 hr2 => (fn P_slots_below (hr2.mono (by decide)) (by rfl) lamX (pa_cons pe_bl pa_nil))) (nm 4)) (pa_cons (pe_islam (k := 2) W rfl M.tb rfl M.mem M.un (hr.mono (by decide)) (lamS_by (by rfl)) (fun A outer s H E f c2 hr2 => (fn P_check_word (hr2.mono (by decide)) (by rfl) lamX (pa_cons (pe_ix (x_anyK K rfl) (nm 3) pe_int (fun _ _ => rfl)) pa_nil))) (fn G_no (hr.mono (by decide)) (by rfl) pass0 (pa_cons pe_str pa_nil))) pa_nil))))))))))))))) pa_nil))))), ?_⟩
    refine ⟨_, rfl, fun q H0 s0 h0 => ?_⟩
    have B0 := B.ext (Same.ext s0)
    have t0 : Tabs TL H0 := Tabs.same hT s0
    have jt : ∀ {H : Hp} {z : Str}, z.length ≤ 100000 → Jk H (.str z) := fun h => decide_eq_true h
    refine ⟨t0, fun H1 x1 t1 => ?_⟩
    have y1 : ExtN H0 H1 := x1
    have B1 := B0.ext y1
    refine ⟨fun _ _ e => e, ?_⟩
    refine ⟨_, _, .inl (SqL.of B1.at_), rfl, ?_⟩
    refine no_make EK B1.j0 rfl (.inr ⟨n, rfl, n1, n6, (bad0 B1.t0 n).1⟩) (Rs.At.mono h0 y1) (fun H2 s2 => ?_)
    have e2 : ExtN H0 H2 := y1.trans (Same.ext s2)
    have t2 : Tabs TL H2 := Tabs.same t1 s2
    refine ⟨t2, fun H3 x3 t3 => ?_⟩
    have y3 : ExtN H0 H3 := e2.trans x3
    have B3 := B0.ext y3
    refine ⟨fun _ _ e => e, ?_⟩
    refine ⟨_, _, .inl (SqL.of B3.at_), rfl, ?_⟩
    refine no_make EK B3.j0 rfl (.inr ⟨6, rfl, by decide, by decide, (bad0 B3.t0 6).1⟩) (Rs.At.mono h0 y3) (fun H4 s4 => ?_)
    have e4 : ExtN H0 H4 := y3.trans (Same.ext s4)
    have t4 : Tabs TL H4 := Tabs.same t3 s4
    refine ⟨t4, fun H5 x5 t5 => ?_⟩
    have y5 : ExtN H0 H5 := e4.trans x5
    have B5 := B0.ext y5
    refine ⟨fun _ _ e => e, ?_⟩
    refine ⟨_, _, .inl (SqL.of B5.at_), rfl, ?_⟩
    refine no_check EK B5.j0 rfl (.inr ⟨6, rfl, by decide, by decide, (bad0 B5.t0 6).2⟩) (Rs.At.mono h0 y5) (fun H6 s6 => ?_)
    have e6 : ExtN H0 H6 := y5.trans (Same.ext s6)
    have t6 : Tabs TL H6 := Tabs.same t5 s6
    refine ⟨t6, fun H7 x7 t7 => ?_⟩
    have y7 : ExtN H0 H7 := e6.trans x7
    have B7 := B0.ext y7
    refine ⟨fun _ _ e => e, ?_⟩
    refine ⟨_, _, .inl (SqL.of B7.at_), rfl, ?_⟩
    refine no_check EK B7.j1 rfl (.inr ⟨n, rfl, n1, n6, B7.t1⟩) (Rs.At.mono h0 y7) (fun H8 s8 => ?_)
    have e8 : ExtN H0 H8 := y7.trans (Same.ext s8)
    have t8 : Tabs TL H8 := Tabs.same t7 s8
    refine ⟨t8, fun H9 x9 t9 => ?_⟩
    have y9 : ExtN H0 H9 := e8.trans x9
    have B9 := B0.ext y9
    refine ⟨fun _ _ e => e, ?_⟩
    refine ⟨_, _, .inl (SqL.of B9.at_), rfl, ?_⟩
    refine no_make EK (jt htext) B9.j2 (.inl B9.t2) (Rs.At.mono h0 y9) (fun H10 s10 => ?_)
    have e10 : ExtN H0 H10 := y9.trans (Same.ext s10)
    have t10 : Tabs TL H10 := Tabs.same t9 s10
    refine ⟨t10, fun H11 x11 t11 => ?_⟩
    have y11 : ExtN H0 H11 := e10.trans x11
    have B11 := B0.ext y11
    refine ⟨fun _ _ e => e, ?_⟩
    refine ⟨_, _, .inl (SqL.of B11.at_), rfl, ?_⟩
    refine no_check EK (jt hlot) B11.j2 (.inl B11.t2) (Rs.At.mono h0 y11) (fun H12 s12 => ?_)
    have e12 : ExtN H0 H12 := y11.trans (Same.ext s12)
    have t12 : Tabs TL H12 := Tabs.same t11 s12
    refine ⟨t12, fun H13 x13 t13 => ?_⟩
    have y13 : ExtN H0 H13 := e12.trans x13
    have B13 := B0.ext y13
    refine ⟨fun _ _ e => e, ?_⟩
    refine ⟨_, _, .inl (SqL.of B13.at_), rfl, ?_⟩
    refine no_slots EK B13.j2 B13.t2 (Rs.At.mono h0 y13) (fun H14 s14 => ?_)
    have e14 : ExtN H0 H14 := y13.trans (Same.ext s14)
    have t14 : Tabs TL H14 := Tabs.same t13 s14
    refine ⟨t14, fun H15 x15 t15 => ?_⟩
    have y15 : ExtN H0 H15 := e14.trans x15
    have B15 := B0.ext y15
    refine ⟨by show 2 ≤ sizeLine; decide, fun p15 hp15 => ⟨Same.up hp15, ?_⟩⟩
    refine ask_make EK (by decide) (by decide) (by decide) (by rw [dueR_eq, if_pos (by decide +kernel), tx_a]; exact upd_same) (fun H16 z16 => ?_)
    have s16 : Same H15 H16 := Same.tr (Same.up hp15) z16
    have e16 : ExtN H0 H16 := y15.trans (Same.ext s16)
    have t16 : Tabs TL H16 := Tabs.same t15 s16
    refine ⟨t16, fun H17 x17 t17 => ?_⟩
    have y17 : ExtN H0 H17 := e16.trans x17
    have B17 := B0.ext y17
    refine ⟨fun _ _ e => e, ?_⟩
    refine no_make EK (jt (by decide)) rfl (.inl rfl) (Rs.At.mono h0 y17) (fun H18 s18 => ?_)
    have e18 : ExtN H0 H18 := y17.trans (Same.ext s18)
    have t18 : Tabs TL H18 := Tabs.same t17 s18
    refine ⟨t18, fun H19 x19 t19 => ?_⟩
    have y19 : ExtN H0 H19 := e18.trans x19
    have B19 := B0.ext y19
    refine ⟨by show 2 ≤ sizeLine; decide, fun p19 hp19 => ⟨Same.up hp19, ?_⟩⟩
    refine ask_check EK (by decide) (by decide) (by decide) (by rw [kept_eq (by decide) (by decide), if_pos (by decide +kernel)]; exact upd_same) (fun H20 z20 => ?_)
    have s20 : Same H19 H20 := Same.tr (Same.up hp19) z20
    have e20 : ExtN H0 H20 := y19.trans (Same.ext s20)
    have t20 : Tabs TL H20 := Tabs.same t19 s20
    refine ⟨t20, fun H21 x21 t21 => ?_⟩
    have y21 : ExtN H0 H21 := e20.trans x21
    have B21 := B0.ext y21
    refine ⟨fun _ _ e => e, ?_⟩
    refine no_check EK (jt (by decide)) rfl (.inl rfl) (Rs.At.mono h0 y21) (fun H22 s22 => ?_)
    have e22 : ExtN H0 H22 := y21.trans (Same.ext s22)
    have t22 : Tabs TL H22 := Tabs.same t21 s22
    refine ⟨t22, fun H23 x23 t23 => ?_⟩
    have y23 : ExtN H0 H23 := e22.trans x23
    have B23 := B0.ext y23
    refine ⟨by show 2 ≤ sizeLine; decide, fun p23 hp23 => ⟨Same.up hp23, ?_⟩⟩
    refine ask_slots (by decide) (by decide) (by rw [one_a]; exact upd_same) (fun H24 z24 => ?_)
    have s24 : Same H23 H24 := Same.tr (Same.up hp23) z24
    have e24 : ExtN H0 H24 := y23.trans (Same.ext s24)
    have t24 : Tabs TL H24 := Tabs.same t23 s24
    refine ⟨t24, fun H25 x25 t25 => ?_⟩
    have y25 : ExtN H0 H25 := e24.trans x25
    have B25 := B0.ext y25
    refine ⟨fun _ _ e => e, ?_⟩
    refine no_slots EK rfl rfl (Rs.At.mono h0 y25) (fun H26 s26 => ?_)
    have e26 : ExtN H0 H26 := y25.trans (Same.ext s26)
    have t26 : Tabs TL H26 := Tabs.same t25 s26
    refine ⟨t26, fun H27 x27 t27 => ?_⟩
    have y27 : ExtN H0 H27 := e26.trans x27
    have B27 := B0.ext y27
    refine ⟨_, rfl, fun p27 G27 hg27 hp27 => ⟨hg27, ?_⟩⟩
    have C27 := B27.ext (Same.ext hg27)
    refine ⟨_, _, .inl (SqL.of C27.at_), rfl, ?_⟩
    refine no_word EW C27.j3 C27.t3 hp27 (fun H28 z28 => ?_)
    have s28 : Same H27 H28 := Same.tr hg27 z28
    have e28 : ExtN H0 H28 := y27.trans (Same.ext s28)
    have t28 : Tabs TL H28 := Tabs.same t27 s28
    refine ⟨by show 14 ≤ sizeLine; decide, fun l hl => ⟨List.replicate 14 true, SqL.of upd_same, ?_⟩⟩
    exact k _ ((Same.ext s0).trans (e28.trans (Same.ext (Same.up hl)))) (Tabs.same t28 (Same.up hl))
end
end K0
namespace Bs
open PySem PySem.Spec PyProof.Rows L2 LamX
/-! ### the end: a law's call from the top, its state told whole -/
section
variable {P : Program} {w : World} {K : PySem.W.Frag} {mg mb : Str → Option Value} {fa a : Addr} {cs : List (Addr × Addr)} {s₁ : Shared} {vs : List Value} {ns : List Int}
/-- what is tracked at the top: the tables, and the script's list where K does not hold it -/
def topH (K : PySem.W.Frag) (cs : List (Addr × Addr)) (a : Addr) (vs : List Value) (ns : List Int) : Hp := fun b =>
  if b ∈ cs.map (·.2) then some (.tbl #[]) else if b = a ∧ (K.lookup a).isNone = true then some (.frz { cls := .type "list", data := .seq vs.toArray } (.lst (ns.map V.int))) else none
theorem law_end (KX : K.In s₁.heap) (hns : s₁.heap.Ns mainGlobals mg) (hb : s₁.heap.Ns builtinsNs mb) (hbb : ∀ x : Str, x ≠ "__name__" → mb x = bootBuiltins x) (hlim : s₁.heap.NoLimit) (hg : s₁.gens = #[])
    (hT : ∀ p ∈ cs, s₁.heap.get? p.2 = some { cls := .none, data := .fields #[] }) (nT : ∀ p ∈ cs, K.lookup p.2 = none) (C : ∀ p ∈ cs, PySem.W.CodeHd s₁.heap p.1 p.2)
    (hbm : ∃ (bm : Addr) (ob : Obj), mg "__builtins__" = some (.ref bm) ∧ bm ≠ builtinsNs ∧ s₁.heap.get? bm = some ob ∧ ob.cls = .type "module" ∧ ob.dict = some builtinsNs ∧ ob.data = .plain)
    (ha : s₁.heap.get? a = some { cls := .type "list", data := .seq vs.toArray }) (hi : IntsAre vs ns) (hl : ns.length ≤ sizeLine)
    (run : ∀ (base : Heap) (H : Hp), K.In base → base.Ns mainGlobals mg → (∀ p ∈ cs, TabB base mg p.1 p.2) → Env0 P w K mg base callerA [] s₁ H → (∀ p ∈ cs, H p.2 = some (.tbl #[])) → SqL K H a (ns.map V.int) →
      codeAny (model P w) callerA (.call (.ref fa) ⟨[.ref a], []⟩) (CR CX0 [] P w H s₁ (fun v _ => v = .bl true) E0) s₁) :
    codeAny (model P w) callerA (.call (.ref fa) ⟨[.ref a], []⟩) (fun r s' => r = .ok (.ret (.bool true)) ∧ OldK s₁.heap s'.heap ∧ s'.os = s₁.os ∧ AllBare s'.gens) s₁ := by
  have rv := vals_ints hi
  have nv := hi.length
  have tabAt : ∀ b ∈ cs.map (·.2), s₁.heap.get? b = some { cls := .none, data := .fields #[] } := fun b m => by
    obtain ⟨p, pm, rfl⟩ := List.mem_map.mp m
    exact hT p pm
  have inT : ∀ p ∈ cs, p.2 ∈ cs.map (·.2) := fun p pm => List.mem_map_of_mem pm
  have naT : a ∉ cs.map (·.2) := fun m => by
    have q := ha.symm.trans (tabAt a m)
    injection q with q
    injection q with _ _ q _
    cases q
  -- the places of the tracked
  have onT : ∀ b ∈ cs.map (·.2), topH K cs a vs ns b = some (.tbl #[]) := fun b m => if_pos m
  have onA : (K.lookup a).isNone = true → topH K cs a vs ns a = some (.frz { cls := .type "list", data := .seq vs.toArray } (.lst (ns.map V.int))) := fun k => (if_neg naT).trans (if_pos ⟨rfl, k⟩)
  have offs : ∀ b u, topH K cs a vs ns b = some u → (b ∈ cs.map (·.2) ∧ u = .tbl #[]) ∨ (b = a ∧ (K.lookup a).isNone = true ∧ u = .frz { cls := .type "list", data := .seq vs.toArray } (.lst (ns.map V.int))) := fun b u e => by
    unfold topH at e
    split at e
    · rename_i m; exact .inl ⟨m, (Option.some.inj e).symm⟩
    · split at e
      · rename_i m; exact .inr ⟨m.1, m.2, (Option.some.inj e).symm⟩
      · cases e
  generalize topH K cs a vs ns = H at onT onA offs
  have hTb : ∀ p ∈ cs, H p.2 = some (.tbl #[]) := fun p pm => onT _ (inT p pm)
  have hsq : SqL K H a (ns.map V.int) := by
    cases k : K.lookup a with
    | none => exact .inl (.inr ⟨_, onA (by rw [k]; rfl)⟩)
    | some o =>
      have q := KX a o k
      rw [ha] at q
      injection q with q
      subst q
      exact .inr ⟨_, vs.toArray, _, k, rfl, rfl, rfl, by rw [List.size_toArray, nv]; exact hl, by simpa using rv⟩
  have hok : HOk P w H s₁.heap := fun b u e => by
    rcases offs b u e with ⟨m, rfl⟩ | ⟨rfl, _, rfl⟩
    · exact tabAt b m
    · exact ⟨ha, by rw [List.length_map]; exact hl, vs, _, rv, ha⟩
  have free : ∀ b o, s₁.heap.get? b = some o → (∀ xs n, o.data ≠ .seq xs n) → o.data ≠ .fields #[] → H b = none := fun b o e n1 n2 => by
    cases q : H b with
    | none => rfl
    | some u =>
      rcases offs b u q with ⟨m, _⟩ | ⟨rfl, _, _⟩
      · have x := e.symm.trans (tabAt b m)
        injection x with x
        exact absurd (by rw [x]) n2
      · have x := e.symm.trans ha
        injection x with x
        exact absurd (by rw [x]) (n1 vs.toArray 0)
  have into : ∀ b o, s₁.heap.get? b = some o → H b = none → (hidT s₁.heap H).get? b = some o := fun b o e n => hidT_get e n
  have nsB : ∀ b (m : Str → Option Value), s₁.heap.Ns b m → (hidT s₁.heap H).Ns b m := fun b m ⟨o, es, ep, e, d, r⟩ => ⟨o, es, ep, into b o e (free b o e (fun xs n z => by rw [d] at z; cases z) fun z => by rw [d] at z; cases z), d, r⟩
  have kB : K.In (hidT s₁.heap H) := fun b o e => into b o (KX b o e) (by
    cases q : H b with
    | none => rfl
    | some u =>
      rcases offs b u q with ⟨m, _⟩ | ⟨rfl, k, _⟩
      · obtain ⟨p, pm, rfl⟩ := List.mem_map.mp m
        rw [nT p pm] at e
        cases e
      · rw [e] at k
        cases k)
  have modB : L2.Mod K mg (hidT s₁.heap H) := ⟨kB, nsB _ _ hns, ⟨mb, nsB _ _ hb, hbb⟩, (let ⟨mc, h1, h2⟩ := hlim; ⟨mc, nsB _ _ h1, h2⟩)⟩
  have tabB : ∀ p ∈ cs, TabB (hidT s₁.heap H) mg p.1 p.2 := fun p pm => by
    have here := hT p pm
    refine ⟨?_, ?_, fun z => ?_⟩
    · obtain ⟨o, us, file, tf, flags, tg, inF, text, tt, e1, r1, r2, r3, r4, r5, r6, r7, r8, hne⟩ := C p pm
      refine ⟨o, us, file, tf, flags, tg, inF, text, tt, into _ o e1 (free _ o e1 (fun xs n z => by rw [r2] at z; cases z) fun z => ?_), r1, r2, r3, r4, r5, r6, r7, r8, hne⟩
      rw [r2] at z
      cases z
      simp at r3
    · obtain ⟨bm, ob, b1, b2, b3, b4, b5, b6⟩ := hbm
      refine ⟨bm, ob, b1, b2, fun q => ?_, fun q => ?_, into bm ob b3 (free bm ob b3 (fun xs n z => by rw [b6] at z; cases z) fun z => by rw [b6] at z; cases z), b4, b5, b6⟩
      · obtain ⟨o, es, ep, e, d, _⟩ := hns
        rw [q, e] at b3
        cases b3
        rw [d] at b6
        cases b6
      · rw [q, here] at b3
        cases b3
        cases b6
    · obtain ⟨o, es, ep, e, d, _⟩ := hns
      rw [z, here] at e
      cases e
      cases d
  have env : Env0 P w K mg (hidT s₁.heap H) callerA [] s₁ H := ⟨rfl, modB, fun b o e => of_hidT e, Nat.le_of_eq (hidT_size _ _), trivial, (fun b m => absurd (show b ∈ ([] : List Addr) from m) (by simp)), hok, .of_eq hg⟩
  refine codeAny_mono (run _ H kB (nsB _ _ hns) tabB env hTb hsq) fun r s' h => ?_
  cases r with
  | error e => exact (show False from h).elim
  | ok fl =>
    cases fl with
    | next => exact False.elim h
    | brk => exact False.elim h
    | cont => exact False.elim h
    | ret u =>
      obtain ⟨v, H', os, bare, un, hok', rel, rfl⟩ := h
      obtain rfl : u = Value.bool true := rel
      have old : ∀ b o, b ∉ cs.map (·.2) → s₁.heap.get? b = some o → s'.heap.get? b = some o := fun b o nb e => by
        cases q : H b with
        | none => exact un.keep b o e q (fun z => absurd (show b ∈ ([] : List Addr) from z) (by simp)) (by simp)
        | some u =>
          rcases offs b u q with ⟨m, _⟩ | ⟨rfl, _, rfl⟩
          · exact absurd m nb
          · obtain ⟨e2, _⟩ := hok' b _ (un.frzs b _ _ q)
            rw [ha] at e
            cases e
            exact e2
      have grown : ∀ p ∈ cs, ∃ more : Array Value, s'.heap.get? p.2 = some { cls := .none, data := .fields more } := fun p pm => by
        obtain ⟨more, z⟩ := un.tbls p.2 #[] (hTb p pm)
        exact ⟨_, hok' p.2 _ z⟩
      refine ⟨rfl, ⟨fun b o e => ?_, fun b o e => ?_⟩, os, bare⟩
      · by_cases m : b ∈ cs.map (·.2)
        · obtain ⟨p, pm, rfl⟩ := List.mem_map.mp m
          obtain ⟨more, hm⟩ := grown p pm
          rw [hT p pm] at e
          cases e
          exact .inr (.inl ⟨((C p pm).tab (hT p pm)).isCodeTable, rfl, #[], more, rfl, by rw [Array.empty_append]; exact hm⟩)
        · exact .inl (old b o m e)
      · by_cases m : b ∈ cs.map (·.2)
        · obtain ⟨p, pm, rfl⟩ := List.mem_map.mp m
          obtain ⟨more, hm⟩ := grown p pm
          exact ⟨_, hm⟩
        · exact ⟨o, old b o m e⟩
end
end Bs
namespace Bs
open PySem PySem.Spec PyProof.Rows L2 LamX
/-! ### repr of a list of small data -/
theorem rd_sc {h : Heap} {v : V} {u : Value} {d : PyData} (e : scD v = some d) (r : RelV v u) : Reads h u d [] := by
  cases v with
  | non => cases e; cases r; exact .none
  | bl b => cases e; cases r; exact .bool b
  | int i => cases e; obtain ⟨t, rfl⟩ := r; exact .int i t
  | str z => cases e; obtain ⟨t, rfl⟩ := r; exact .str z t
  | _ => cases e
theorem rd_all {h : Heap} : ∀ {vs : List V} {us : List Value} {ds : List PyData}, allD vs = some ds → Vals vs us → ReadsAll h us ds []
  | [], _, _, e, r => by
    cases r
    cases e
    exact .nil
  | v :: vs, _, _, e, r => by
    cases r with
    | cons r1 r2 =>
      unfold allD at e
      split at e
      · rename_i d ds h1 h2
        cases e
        exact ReadsAll.cons (as := []) (bs := []) (rd_sc h1 r1) (rd_all h2 r2)
      · cases e
theorem rd_of {X : Cx} {pins : List (Addr × Obj)} {σ : L2.St} {H : Hp} {s : Shared} (I : Inv X pins σ H s) {v : V} {u : Value} {d : PyData} (j : Jd H v d) (r : RelV v u) : ∃ as, Reads s.heap u d as ∧ sysModules ∉ as := by
  cases j with
  | sc e => exact ⟨[], rd_sc e r, by simp⟩
  | lst e n q =>
    obtain rfl : u = .ref _ := r
    obtain ⟨_, its, m, rv, hg⟩ := I.hok _ _ e
    exact ⟨_, .list hg rfl rfl (by rw [List.toList_toArray]; exact rd_all q rv), by simpa using n.symm⟩
  | tup e q =>
    obtain rfl : u = .ref _ := r
    obtain ⟨_, its, rv, ⟨o, ho, hc, m, hd⟩⟩ := I.hok _ _ e
    exact ⟨_, .tuple ho hc hd (by rw [List.toList_toArray]; exact rd_all q rv), by simp⟩
  | d0 e =>
    obtain rfl : u = .ref _ := r
    obtain ⟨_, ns, vs, kv, hd⟩ := I.hok _ _ e
    cases kv
    refine ⟨_, PyProof.V.reads_dictOf (enc := fun k => match k with | .inl i => .int i | .inr x => .str x) (fun k key hk => ?_) hd .nil, by simpa using (beq_eq_false_iff_ne.mp ns).symm⟩
    rcases keyIs_shape hk with ⟨i, t, rfl, rfl⟩ | ⟨x, t, rfl, rfl⟩
    · exact .int i t
    · exact .str x t
  | @d1 p a b e =>
    obtain rfl : u = .ref _ := r
    obtain ⟨_, ns, vs, kv, hd⟩ := I.hok _ _ e
    cases kv with
    | cons h1 h2 =>
      cases h2
      rename_i q
      obtain ⟨k', w'⟩ := q
      obtain ⟨e1, ⟨t, e2⟩⟩ := h1
      have e1 : Sum.inr a = k' := e1
      have e2 : w' = Value.str b t := e2
      subst e1
      subst e2
      refine ⟨_, PyProof.V.reads_dictOf (enc := fun k => match k with | .inl i => .int i | .inr x => .str x) (D := [(.str a, .str b)]) (fun k key hk => ?_) hd (.cons (.str b t) .nil), by simpa using (beq_eq_false_iff_ne.mp ns).symm⟩
      rcases keyIs_shape hk with ⟨i, t, rfl, rfl⟩ | ⟨x, t, rfl, rfl⟩
      · exact .int i t
      · exact .str x t
theorem list4_len (a b c d : Str) (ha : a.length ≤ 2000) (hb : b.length ≤ 2000) (hc : c.length ≤ 2000) (hd : d.length ≤ 2000) : (listText [a, b, c, d]).length ≤ sizeLine := by
  have l0 : ∀ z : Str, z.length = 0 ∨ True := fun _ => .inr trivial
  have e : listText [a, b, c, d] = ((((((((Str.ofString "[" ++ Str.ofString "") ++ a) ++ Str.ofString ", ") ++ b) ++ Str.ofString ", ") ++ c) ++ Str.ofString ", ") ++ d) ++ Str.ofString "]" := rfl
  rw [e]
  simp only [app_len]
  have e1 : (Str.ofString "[").length = 1 := by decide
  have e2 : (Str.ofString "").length = 0 := by decide
  have e3 : (Str.ofString ", ").length = 2 := by decide
  have e4 : (Str.ofString "]").length = 1 := by decide
  have : sizeLine = 16777216 := rfl
  omega
/-- repr of a list of four small data -/
def uRepr : List V → Hp → VK → Prop := fun xs H Q => match xs with
  | [.ref p] => ∃ b0 b1 b2 b3 d0 d1 d2 d3, H p = some (.lst [b0, b1, b2, b3]) ∧ p ≠ sysModules ∧ (Jd H b0 d0 ∧ showOk d0 = true) ∧ (Jd H b1 d1 ∧ showOk d1 = true) ∧ (Jd H b2 d2 ∧ showOk d2 = true) ∧ (Jd H b3 d3 ∧ showOk d3 = true) ∧ Q (.str (PyData.list [d0, d1, d2, d3]).shown) H
  | _ => False
theorem showOk_of {d : PyData} (h : showOk d = true) : d.showable = true ∧ d.shown.length ≤ 2000 ∧ d.depth ≤ 10 := by
  unfold showOk at h
  simp only [Bool.and_eq_true, decide_eq_true_eq] at h
  exact ⟨h.1, h.2.1, h.2.2⟩
theorem b_repr {X : Cx} (hg : X.A.guards = some []) (hu : X.A.units + 50 < cLine) : CallR X (.builtin "repr") uRepr := by
  intro pins s σ H xs us Q I r h
  unfold uRepr at h
  split at h
  · obtain ⟨b0, b1, b2, b3, d0, d1, d2, d3, hp, np, ⟨j0, s0⟩, ⟨j1, s1⟩, ⟨j2, s2⟩, ⟨j3, s3⟩, q⟩ := h
    cases r with
    | cons r0 rr =>
      cases rr
      cases r0
      obtain ⟨_, its, n, rv, hgt⟩ := I.hok _ _ hp
      cases rv with
      | cons r0 rv =>
      cases rv with
      | cons r1 rv =>
      cases rv with
      | cons r2 rv =>
      cases rv with
      | cons r3 rv =>
      cases rv
      obtain ⟨a0, q0, n0⟩ := rd_of I j0 r0
      obtain ⟨a1, q1, n1⟩ := rd_of I j1 r1
      obtain ⟨a2, q2, n2⟩ := rd_of I j2 r2
      obtain ⟨a3, q3, n3⟩ := rd_of I j3 r3
      obtain ⟨v0, l0, p0⟩ := showOk_of s0
      obtain ⟨v1, l1, p1⟩ := showOk_of s1
      obtain ⟨v2, l2, p2⟩ := showOk_of s2
      obtain ⟨v3, l3, p3⟩ := showOk_of s3
      refine PySem.repr_of_reads' (h₀ := s.heap) (d := .list [d0, d1, d2, d3]) (.list hgt rfl rfl (by rw [List.toList_toArray]; exact .cons q0 (.cons q1 (.cons q2 (.cons q3 .nil))))) ?_ (fun _ => ?_) hg ?_ (fun _ _ e => e) (fun h' u tk hk => ⟨.str _, H, I.kept hk, ⟨u, rfl⟩, q⟩) (list4_len _ _ _ _ l0 l1 l2 l3)
      · simp [PyData.showable, PyData.showableAll, v0, v1, v2, v3]
      · simp only [List.mem_cons, List.mem_append, not_or]
        exact ⟨np.symm, n0, n1, n2, n3, by simp⟩
      · simp only [PyData.depth, PyData.depthAll]
        omega
  · exact h.elim
end Bs
namespace K0
open PySem PySem.Spec PyProof.Rows L2 Bs LamX
abbrev s_law : Stmt := top 54
theorem sc_law : FnScope ["script", "store", "size", "text", "other", "lot", "words", "bads", "kept"] ["script"] (defScope s_law) := ⟨rfl, rfl, rfl, by decide +kernel, rfl, by decide +kernel, by decide +kernel⟩
theorem Tabs.grow {TL : List (Addr × Str)} {H H' : Hp} {a c : Addr} (S : StAt H a c) (t : Tabs TL H) (g : Grow a H H') : Tabs TL H' := fun p hp => by
  obtain ⟨xs, ea⟩ := S.lst
  obtain ⟨ps, h1, h2, h3⟩ := t p hp
  refine ⟨ps, g _ _ (fun z => by rw [z, ea] at h1; cases h1) h1, h2, fun pos cv hc => ?_⟩
  obtain ⟨c2, e1, e2⟩ := h3 pos cv hc
  refine ⟨c2, e1, g _ _ (fun z => ?_) e2⟩
  rw [z, ea] at e2
  injection e2 with e2
  unfold CodeO at e2
  cases e2
theorem cut_strs (ws : List Str) (lo hi : Option Int) : ∃ vs : List Str, cutV (ws.map V.str) lo hi = vs.map V.str ∧ ∀ z ∈ vs, z ∈ ws := by
  refine ⟨(ws.drop (HT.sIx ws.length 0 lo)).take (HT.sIx ws.length ws.length hi - HT.sIx ws.length 0 lo), ?_, fun z hz => List.mem_of_mem_drop (List.mem_of_mem_take hz)⟩
  unfold cutV
  rw [List.length_map, List.map_take, List.map_drop]
section
variable {P : Program} {w : World} {K : PySem.W.Frag} {mg : Str → Option Value} {base : Heap}
theorem run_law {fa a : Addr} {fd : FuncData} {s₁ : Shared} {H : Hp} {TL : List (Addr × Str)} {ns : List Int} (F : Fun K "law" "law" s_law fa fd) (T : Txt K mg) (hb : BindsTo s₁ fd ⟨[.ref a], []⟩ [("script", .ref a)]) (e0 : Env0 P w K mg base callerA [] s₁ H) (hT : ∀ p ∈ TL, H p.1 = some (.tbl #[]))
    (hS : SqL K H a (ns.map V.int)) (hl : ns.length ≤ 63) (G_store : FnE P w K mg base CX0 2 "_law_store" ["script"] (spStore K)) (G_drawn : FnE P w K mg base CX0 5 "_law_drawn" ["store"] spDrawn) (G_bads : FnE P w K mg base CX0 5 "_law_bads" ["store", "size"] spBads)
    (G_sizes : FnE P w K mg base CX0 7 "_law_sizes" ["texts"] (spOkT TL cSiz)) (G_words_asked : FnE P w K mg base CX0 6 "_law_words_asked" ["words"] (spOkT TL cWa)) (G_refusals : FnE P w K mg base CX0 6 "_law_refusals" ["size", "lot", "text", "bads"] (spOkT TL cRef))
    (G_asked : FnE P w K mg base CX0 6 "_law_asked" ["text", "size"] (spOkT TL cAsk)) : codeAny (model P w) callerA (.call (.ref fa) ⟨[.ref a], []⟩) (CR CX0 [] P w H s₁ (fun v _ => v = .bl true) E0) s₁ := by
  have sc := sc_law
  obtain ⟨_, _, G_store⟩ := G_store
  obtain ⟨_, _, G_drawn⟩ := G_drawn
  obtain ⟨_, _, G_bads⟩ := G_bads
  obtain ⟨_, _, G_sizes⟩ := G_sizes
  obtain ⟨_, _, G_words_asked⟩ := G_words_asked
  obtain ⟨_, _, G_refusals⟩ := G_refusals
  obtain ⟨_, _, G_asked⟩ := G_asked
  obtain ⟨oc, od, kV, doc, pm, an, cdv, ct, osl, rfl, lk, hcd⟩ := F.ex
  have room : Room 8 callerA := ⟨rfl, by decide, by decide⟩
  refine run_ofS (k := 7) (N := ["script", "store", "size", "text", "other", "lot", "words", "bads", "kept"]) (ps := ["script"]) (us := [.ref a]) (vs := [.ref a]) lk hcd sc room e0 hb (.cons rfl .nil) rfl fun hr => ?_
  have key : ∃ t, PSs (cxOf CX0 P w K mg base ["script", "store", "size", "text", "other", "lot", "words", "bads", "kept"] "law" (defScope s_law) fa cdv callerA [] s₁ H E0).nox (defBody s_law) t ∧ t { nx := fun _ _ => V.non = .bl true, rt := fun v _ => v = .bl true } (L2.start ["script", "store", "size", "text", "other", "lot", "words", "bads", "kept"] [.ref a]) H := by
    have hgd : (cxOf CX0 P w K mg base ["script", "store", "size", "text", "other", "lot", "words", "bads", "kept"] "law" (defScope s_law) fa cdv callerA [] s₁ H E0).nox.A.guards = some [] := rfl
    have hun : (cxOf CX0 P w K mg base ["script", "store", "size", "text", "other", "lot", "words", "bads", "kept"] "law" (defScope s_law) fa cdv callerA [] s₁ H E0).nox.A.units + 50 < cLine := by show callerA.units + 3 + 50 < cLine; decide
    refine ⟨_, (pss_cons (ps_set (i := 1) sc.nd rfl (Or.inl rfl) (fn G_store (hr.mono (by decide)) (by rfl) pass0 (pa_cons (nm 0) pa_nil)))
      (pss_cons (ps_asg (fn G_drawn (hr.mono (by decide)) (by rfl) pass0 (pa_cons (nm 1) pa_nil)) (pg_any rfl (pgs_cons (pg_name (i := 2) sc.nd rfl (Or.inl rfl)) (pgs_cons (pg_name (i := 3) sc.nd rfl (Or.inl rfl)) (pgs_cons (pg_name (i := 4) sc.nd rfl (Or.inl rfl)) (pgs_cons (pg_name (i := 5) sc.nd rfl (Or.inl rfl)) (pgs_cons (pg_name (i := 6) sc.nd rfl (Or.inl rfl)) pgs_nil)))))))
      (pss_cons (ps_set (i := 7) sc.nd rfl (Or.inl rfl) (fn G_bads (hr.mono (by decide)) (by rfl) pass0 (pa_cons (nm 1) (pa_cons (nm 2) pa_nil))))
      (pss_cons (ps_set (i := 8) sc.nd rfl (Or.inl rfl) (pe_callB (b_repr hgd hun) (by rfl) T.repr boot_repr (pa_cons (nm 7) pa_nil)))
      (pss_cons (ps_if (PW.pt (pw_or (pt_not (tst (fn G_sizes (hr.mono (by decide)) (by rfl) pass0 (pa_cons (pe_lst (pa_cons (nm 3) (pa_cons (nm 4) (pa_cons (nm 5) pa_nil)))) pa_nil)))) (pw_or1 (pt_not (tst (fn G_words_asked (hr.mono (by decide)) (by rfl) pass0 (pa_cons (nm 6) pa_nil))))))) (pss_one (ps_ret pe_bl)) pss_nil)
      (pss_cons (ps_if (PW.pt (pw_or (pt_not (tst (fn G_refusals (hr.mono (by decide)) (by rfl) pass0 (pa_cons (nm 2) (pa_cons (nm 5) (pa_cons (nm 3) (pa_cons (nm 7) pa_nil))))))) (pw_or1 (cmpT (o_ne hr) (pe_callB (b_repr hgd hun) (by rfl) T.repr boot_repr (pa_cons (nm 7) pa_nil)) (nm 8) (nomark _))))) (pss_one (ps_ret pe_bl)) pss_nil)
      (pss_one (ps_ret (pe_and (fn G_asked (hr.mono (by decide)) (by rfl) pass0 (pa_cons (nm 3) (pa_cons (nm 2) pa_nil))) (pe_and (fn G_asked (hr.mono (by decide)) (by rfl) pass0 (pa_cons (nm 5) (pa_cons (nm 2) pa_nil))) (pe_one (fn G_words_asked (hr.mono (by decide)) (by rfl) pass0 (pa_cons (pe_slice sl_any (nm 6) po_none (po pe_int)) pa_nil))))))))))))), ?_⟩
    have t0 : Tabs TL H := fun p hp => TabS.nil (hT p hp)
    refine ⟨a, ns, rfl, hS, hl, fun st c H1 _ _ s1 S1 => ?_⟩
    have t1 : Tabs TL H1 := Tabs.same t0 s1
    refine ⟨st, c, rfl, S1, fun n text other lot ws l lw H2 n1 n6 lt lo ll okt oko okl hws _ hlw hls nl nlw S2 g2 => ?_⟩
    have t2 : Tabs TL H2 := Tabs.grow S1 t1 g2
    refine ⟨_, .inl (SqL.of hls), rfl, _, _, rfl, _, _, rfl, _, _, rfl, _, _, rfl, _, _, rfl, rfl, ?_⟩
    refine ⟨st, c, n, rfl, S2, n1, n6, fun lb b0 b1 b2 b3 H3 B3 S3 g3 => ?_⟩
    have t3 : Tabs TL H3 := Tabs.grow S2 t2 g3
    have hlw3 := g3 _ _ nlw hlw
    obtain ⟨d0, j0⟩ := B3.s0
    obtain ⟨d1, j1⟩ := B3.s1
    obtain ⟨d2, j2⟩ := B3.s2
    obtain ⟨d3, j3⟩ := B3.s3
    refine ⟨b0, b1, b2, b3, d0, d1, d2, d3, B3.at_, B3.nm, j0, j1, j2, j3, ?_⟩
    refine ⟨by show 3 ≤ sizeLine; decide, fun lq hlq => ?_⟩
    have x3 := Same.up (o := .lst [.str text, .str other, .str lot]) hlq
    refine ⟨⟨lq, [text, other, lot], rfl, upd_same, fun z hz => ?_⟩, Tabs.same t3 x3, fun H4 e4 t4 => ?_⟩
    · rcases List.mem_cons.mp hz with rfl | hz
      · exact ⟨by omega, okt⟩
      · rcases List.mem_cons.mp hz with rfl | hz
        · exact ⟨by omega, oko⟩
        · rcases List.mem_cons.mp hz with rfl | hz
          · exact ⟨by omega, okl⟩
          · cases hz
    have x4 := (Same.ext x3).trans e4
    have hlw4 := x4 _ _ hlw3 (fun _ z => by cases z)
    refine ⟨⟨lw, ws, rfl, hlw4, fun z hz => by have := hws z hz; omega⟩, t4, fun H5 e5 t5 => ?_⟩
    have x5 := x4.trans e5
    have B5 := B3.ext x5
    refine ⟨⟨n, lot, text, lb, b0, b1, b2, b3, rfl, n1, n6, by omega, by omega, B5⟩, t5, fun H6 e6 t6 => ?_⟩
    have x6 := x5.trans e6
    have B6 := B3.ext x6
    have up : ∀ {v d}, Jd H3 v d → Jd H6 v d := fun j => j.mono fun p o _ h g => x6 p o h g
    refine ⟨b0, b1, b2, b3, d0, d1, d2, d3, B6.at_, B6.nm, ⟨up j0.1, j0.2⟩, ⟨up j1.1, j1.2⟩, ⟨up j2.1, j2.2⟩, ⟨up j3.1, j3.2⟩, ?_⟩
    refine ⟨rfl, ite2 (fun e => ?_) (fun _ => ?_)⟩
    · simp at e
    refine ⟨⟨text, n, rfl, by omega, okt, n1, n6⟩, t6, fun H7 e7 t7 => ⟨_, rfl, ?_⟩⟩
    refine ⟨⟨lot, n, rfl, by omega, okl, n1, n6⟩, t7, fun H8 e8 t8 => ⟨_, rfl, ?_⟩⟩
    have hlw8 := ((x6.trans e7).trans e8) _ _ hlw3 (fun _ z => by cases z)
    refine .inl ⟨_, SqL.of hlw8, fun lc hlc => ?_⟩
    obtain ⟨vs, e, hv⟩ := cut_strs ws none (some 1)
    have e : cutV (ws.map V.str) none (some 1) = vs.map V.str := e
    refine ⟨⟨lc, vs, rfl, by rw [← e]; exact upd_same, fun z hz => by have := hws z (hv z hz); omega⟩, Tabs.same t8 (Same.up hlc), fun H9 _ _ => rfl⟩
  obtain ⟨t, ht, hq⟩ := key
  exact ⟨t, ht.nox, hq⟩
end
end K0
namespace K0
open PySem PySem.Spec PyProof.Rows L2 Bs LamX
/-- the tables of the four defs that make lambdas -/
def TLof (p1 p2 p3 p4 : Addr) : List (Addr × Str) := [(p1, lq "_law_asked"), (p2, lq "_law_sizes"), (p3, lq "_law_refusals"), (p4, lq "_law_words_asked")]
theorem mkrs {base : Heap} {mg : Str → Option Value} {c1 p1 c2 p2 c3 p3 c4 p4 : Addr} (hTB : ∀ p ∈ [(c1, p1), (c2, p2), (c3, p3), (c4, p4)], TabB base mg p.1 p.2) (hnd : ([p1, p2, p3, p4] : List Addr).Nodup) :
    Mkr base mg (TLof p1 p2 p3 p4) "_law_asked" c1 p1 ∧ Mkr base mg (TLof p1 p2 p3 p4) "_law_sizes" c2 p2 ∧ Mkr base mg (TLof p1 p2 p3 p4) "_law_refusals" c3 p3 ∧ Mkr base mg (TLof p1 p2 p3 p4) "_law_words_asked" c4 p4 := by
  simp only [List.nodup_cons, List.mem_cons, List.not_mem_nil, or_false, not_or] at hnd
  obtain ⟨⟨n1, n2, n3⟩, ⟨n4, n5⟩, n6, _⟩ := hnd
  have all : ∀ {Q : Addr × Str → Prop}, Q (p1, lq "_law_asked") → Q (p2, lq "_law_sizes") → Q (p3, lq "_law_refusals") → Q (p4, lq "_law_words_asked") → ∀ p ∈ TLof p1 p2 p3 p4, Q p := fun q1 q2 q3 q4 p hp => by
    simp only [TLof, List.mem_cons, List.not_mem_nil, or_false] at hp
    rcases hp with rfl | rfl | rfl | rfl
    · exact q1
    · exact q2
    · exact q3
    · exact q4
  refine ⟨⟨hTB (c1, p1) (by simp), by simp [TLof], all (fun _ => rfl) (fun e => absurd e.symm n1) (fun e => absurd e.symm n2) (fun e => absurd e.symm n3)⟩, ⟨hTB (c2, p2) (by simp), by simp [TLof], all (fun e => absurd e n1) (fun _ => rfl) (fun e => absurd e.symm n4) (fun e => absurd e.symm n5)⟩,
    ⟨hTB (c3, p3) (by simp), by simp [TLof], all (fun e => absurd e n2) (fun e => absurd e n4) (fun _ => rfl) (fun e => absurd e.symm n6)⟩, ⟨hTB (c4, p4) (by simp), by simp [TLof], all (fun e => absurd e n3) (fun e => absurd e n5) (fun e => absurd e n6) (fun _ => rfl)⟩⟩
theorem tl_at {H : Hp} {c1 p1 c2 p2 c3 p3 c4 p4 : Addr} (h : ∀ p ∈ [(c1, p1), (c2, p2), (c3, p3), (c4, p4)], H p.2 = some (.tbl #[])) : ∀ p ∈ TLof p1 p2 p3 p4, H p.1 = some (.tbl #[]) := fun p hp => by
  simp only [TLof, List.mem_cons, List.not_mem_nil, or_false] at hp
  rcases hp with rfl | rfl | rfl | rfl
  · exact h (c1, p1) (by simp)
  · exact h (c2, p2) (by simp)
  · exact h (c3, p3) (by simp)
  · exact h (c4, p4) (by simp)
theorem all_mk {P : Program} {w : World} {K : PySem.W.Frag} {h : Heap} {mg : Str → Option Value} (X : K.In h) (G : h.Ns mainGlobals mg)
    {fmix : Addr} {odmix anmix : Option Addr} {slmix : Array (Option Value)} {ocmix kVmix dcmix pmmix cdmix ctmix : Value}
    {fstore : Addr} {odstore anstore : Option Addr} {slstore : Array (Option Value)} {ocstore kVstore dcstore pmstore cdstore ctstore : Value}
    {fopen : Addr} {odopen anopen : Option Addr} {slopen : Array (Option Value)} {ocopen kVopen dcopen pmopen cdopen ctopen : Value}
    {ftake : Addr} {odtake antake : Option Addr} {sltake : Array (Option Value)} {octake kVtake dctake pmtake cdtake cttake : Value}
    {fpick : Addr} {odpick anpick : Option Addr} {slpick : Array (Option Value)} {ocpick kVpick dcpick pmpick cdpick ctpick : Value}
    {fcount : Addr} {odcount ancount : Option Addr} {slcount : Array (Option Value)} {occount kVcount dccount pmcount cdcount ctcount : Value}
    {fword : Addr} {odword anword : Option Addr} {slword : Array (Option Value)} {ocword kVword dcword pmword cdword ctword : Value}
    {fbadw : Addr} {odbadw anbadw : Option Addr} {slbadw : Array (Option Value)} {ocbadw kVbadw dcbadw pmbadw cdbadw ctbadw : Value}
    {flot : Addr} {odlot anlot : Option Addr} {sllot : Array (Option Value)} {oclot kVlot dclot pmlot cdlot ctlot : Value}
    {fbadl : Addr} {odbadl anbadl : Option Addr} {slbadl : Array (Option Value)} {ocbadl kVbadl dcbadl pmbadl cdbadl ctbadl : Value}
    {fbadz : Addr} {odbadz anbadz : Option Addr} {slbadz : Array (Option Value)} {ocbadz kVbadz dcbadz pmbadz cdbadz ctbadz : Value}
    {fletters : Addr} {odletters anletters : Option Addr} {slletters : Array (Option Value)} {ocletters kVletters dcletters pmletters cdletters ctletters : Value}
    {fsame : Addr} {odsame ansame : Option Addr} {slsame : Array (Option Value)} {ocsame kVsame dcsame pmsame cdsame ctsame : Value}
    {fisw : Addr} {odisw anisw : Option Addr} {slisw : Array (Option Value)} {ocisw kVisw dcisw pmisw cdisw ctisw : Value}
    {ftold : Addr} {odtold antold : Option Addr} {sltold : Array (Option Value)} {octold kVtold dctold pmtold cdtold cttold : Value}
    {fsign : Addr} {odsign ansign : Option Addr} {slsign : Array (Option Value)} {ocsign kVsign dcsign pmsign cdsign ctsign : Value}
    {fis : Addr} {odis anis : Option Addr} {slis : Array (Option Value)} {ocis kVis dcis pmis cdis ctis : Value}
    {fno : Addr} {odno anno : Option Addr} {slno : Array (Option Value)} {ocno kVno dcno pmno cdno ctno : Value}
    {fdrawn : Addr} {oddrawn andrawn : Option Addr} {sldrawn : Array (Option Value)} {ocdrawn kVdrawn dcdrawn pmdrawn cddrawn ctdrawn : Value}
    {fbadv : Addr} {odbadv anbadv : Option Addr} {slbadv : Array (Option Value)} {ocbadv kVbadv dcbadv pmbadv cdbadv ctbadv : Value}
    {fdue : Addr} {oddue andue : Option Addr} {sldue : Array (Option Value)} {ocdue kVdue dcdue pmdue cddue ctdue : Value}
    {flaw : Addr} {odlaw anlaw : Option Addr} {sllaw : Array (Option Value)} {oclaw kVlaw dclaw pmlaw cdlaw ctlaw : Value}
    {fpisw : Addr} {odpisw anpisw : Option Addr} {slpisw : Array (Option Value)} {ocpisw kVpisw dcpisw pmpisw cdpisw ctpisw : Value}
    {fpchw : Addr} {odpchw anpchw : Option Addr} {slpchw : Array (Option Value)} {ocpchw kVpchw dcpchw pmpchw cdpchw ctpchw : Value}
    {fpslo : Addr} {odpslo anpslo : Option Addr} {slpslo : Array (Option Value)} {ocpslo kVpslo dcpslo pmpslo cdpslo ctpslo : Value}
    {fask Cask Pask : Addr} {odask anask : Option Addr} {slask : Array (Option Value)} {ocask kVask dcask pmask ctask : Value}
    {fsiz Csiz Psiz : Addr} {odsiz ansiz : Option Addr} {slsiz : Array (Option Value)} {ocsiz kVsiz dcsiz pmsiz ctsiz : Value}
    {fref Cref Pref : Addr} {odref anref : Option Addr} {slref : Array (Option Value)} {ocref kVref dcref pmref ctref : Value}
    {fwa Cwa Pwa : Addr} {odwa anwa : Option Addr} {slwa : Array (Option Value)} {ocwa kVwa dcwa pmwa ctwa : Value}
    {fchl Dchl : Addr} {ochl : Obj} {tkchl : Tok} {nchl : Nat} {odchl anchl : Option Addr} {slchl : Array (Option Value)} {occhl kVchl dcchl pmchl cdchl ctchl : Value}
    {fmkl Dmkl : Addr} {omkl : Obj} {tkmkl : Tok} {nmkl : Nat} {odmkl anmkl : Option Addr} {slmkl : Array (Option Value)} {ocmkl kVmkl dcmkl pmmkl cdmkl ctmkl : Value}
    {ea : ErrA}
    {tLETTERS : Tok}
    {tLETTERS_AND_DIGITS : Tok}
    {tALL_SLOTS : Tok}
    {tLONGEST_WORD : Tok}
    (amix : PySem.W.nsIn K mainGlobals "_law_mix" = some (some (.ref fmix)))
    (lmix : K.lookup fmix = some ⟨ocmix, odmix, .func (PySem.W.fnOf "_law_mix" "_law_mix" (defArgs s_mix) (defBody s_mix) (defScope s_mix) .none kVmix dcmix pmmix anmix cdmix ctmix), slmix⟩)
    (cmix : PySem.W.codeIn K cdmix "_law_mix" = true)
    (kmix : PySem.W.keepIn K (.ref fmix) = true)
    (astore : PySem.W.nsIn K mainGlobals "_law_store" = some (some (.ref fstore)))
    (lstore : K.lookup fstore = some ⟨ocstore, odstore, .func (PySem.W.fnOf "_law_store" "_law_store" (defArgs s_store) (defBody s_store) (defScope s_store) .none kVstore dcstore pmstore anstore cdstore ctstore), slstore⟩)
    (cstore : PySem.W.codeIn K cdstore "_law_store" = true)
    (kstore : PySem.W.keepIn K (.ref fstore) = true)
    (aopen : PySem.W.nsIn K mainGlobals "_law_open" = some (some (.ref fopen)))
    (lopen : K.lookup fopen = some ⟨ocopen, odopen, .func (PySem.W.fnOf "_law_open" "_law_open" (defArgs s_open) (defBody s_open) (defScope s_open) .none kVopen dcopen pmopen anopen cdopen ctopen), slopen⟩)
    (copen : PySem.W.codeIn K cdopen "_law_open" = true)
    (kopen : PySem.W.keepIn K (.ref fopen) = true)
    (atake : PySem.W.nsIn K mainGlobals "_law_take" = some (some (.ref ftake)))
    (ltake : K.lookup ftake = some ⟨octake, odtake, .func (PySem.W.fnOf "_law_take" "_law_take" (defArgs s_take) (defBody s_take) (defScope s_take) .none kVtake dctake pmtake antake cdtake cttake), sltake⟩)
    (ctake : PySem.W.codeIn K cdtake "_law_take" = true)
    (ktake : PySem.W.keepIn K (.ref ftake) = true)
    (apick : PySem.W.nsIn K mainGlobals "_law_pick" = some (some (.ref fpick)))
    (lpick : K.lookup fpick = some ⟨ocpick, odpick, .func (PySem.W.fnOf "_law_pick" "_law_pick" (defArgs s_pick) (defBody s_pick) (defScope s_pick) .none kVpick dcpick pmpick anpick cdpick ctpick), slpick⟩)
    (cpick : PySem.W.codeIn K cdpick "_law_pick" = true)
    (kpick : PySem.W.keepIn K (.ref fpick) = true)
    (acount : PySem.W.nsIn K mainGlobals "_law_count" = some (some (.ref fcount)))
    (lcount : K.lookup fcount = some ⟨occount, odcount, .func (PySem.W.fnOf "_law_count" "_law_count" (defArgs s_count) (defBody s_count) (defScope s_count) .none kVcount dccount pmcount ancount cdcount ctcount), slcount⟩)
    (ccount : PySem.W.codeIn K cdcount "_law_count" = true)
    (kcount : PySem.W.keepIn K (.ref fcount) = true)
    (aword : PySem.W.nsIn K mainGlobals "_law_word" = some (some (.ref fword)))
    (lword : K.lookup fword = some ⟨ocword, odword, .func (PySem.W.fnOf "_law_word" "_law_word" (defArgs s_word) (defBody s_word) (defScope s_word) .none kVword dcword pmword anword cdword ctword), slword⟩)
    (cword : PySem.W.codeIn K cdword "_law_word" = true)
    (kword : PySem.W.keepIn K (.ref fword) = true)
    (abadw : PySem.W.nsIn K mainGlobals "_law_bad_word" = some (some (.ref fbadw)))
    (lbadw : K.lookup fbadw = some ⟨ocbadw, odbadw, .func (PySem.W.fnOf "_law_bad_word" "_law_bad_word" (defArgs s_badw) (defBody s_badw) (defScope s_badw) .none kVbadw dcbadw pmbadw anbadw cdbadw ctbadw), slbadw⟩)
    (cbadw : PySem.W.codeIn K cdbadw "_law_bad_word" = true)
    (kbadw : PySem.W.keepIn K (.ref fbadw) = true)
    (alot : PySem.W.nsIn K mainGlobals "_law_lot" = some (some (.ref flot)))
    (llot : K.lookup flot = some ⟨oclot, odlot, .func (PySem.W.fnOf "_law_lot" "_law_lot" (defArgs s_lot) (defBody s_lot) (defScope s_lot) .none kVlot dclot pmlot anlot cdlot ctlot), sllot⟩)
    (clot : PySem.W.codeIn K cdlot "_law_lot" = true)
    (klot : PySem.W.keepIn K (.ref flot) = true)
    (abadl : PySem.W.nsIn K mainGlobals "_law_bad_lot" = some (some (.ref fbadl)))
    (lbadl : K.lookup fbadl = some ⟨ocbadl, odbadl, .func (PySem.W.fnOf "_law_bad_lot" "_law_bad_lot" (defArgs s_badl) (defBody s_badl) (defScope s_badl) .none kVbadl dcbadl pmbadl anbadl cdbadl ctbadl), slbadl⟩)
    (cbadl : PySem.W.codeIn K cdbadl "_law_bad_lot" = true)
    (kbadl : PySem.W.keepIn K (.ref fbadl) = true)
    (abadz : PySem.W.nsIn K mainGlobals "_law_bad_size" = some (some (.ref fbadz)))
    (lbadz : K.lookup fbadz = some ⟨ocbadz, odbadz, .func (PySem.W.fnOf "_law_bad_size" "_law_bad_size" (defArgs s_bads) (defBody s_bads) (defScope s_bads) .none kVbadz dcbadz pmbadz anbadz cdbadz ctbadz), slbadz⟩)
    (cbadz : PySem.W.codeIn K cdbadz "_law_bad_size" = true)
    (kbadz : PySem.W.keepIn K (.ref fbadz) = true)
    (aletters : PySem.W.nsIn K mainGlobals "_law_letters" = some (some (.ref fletters)))
    (lletters : K.lookup fletters = some ⟨ocletters, odletters, .func (PySem.W.fnOf "_law_letters" "_law_letters" (defArgs s_letters) (defBody s_letters) (defScope s_letters) .none kVletters dcletters pmletters anletters cdletters ctletters), slletters⟩)
    (cletters : PySem.W.codeIn K cdletters "_law_letters" = true)
    (kletters : PySem.W.keepIn K (.ref fletters) = true)
    (asame : PySem.W.nsIn K mainGlobals "_law_same" = some (some (.ref fsame)))
    (lsame : K.lookup fsame = some ⟨ocsame, odsame, .func (PySem.W.fnOf "_law_same" "_law_same" (defArgs s_same) (defBody s_same) (defScope s_same) .none kVsame dcsame pmsame ansame cdsame ctsame), slsame⟩)
    (csame : PySem.W.codeIn K cdsame "_law_same" = true)
    (ksame : PySem.W.keepIn K (.ref fsame) = true)
    (aisw : PySem.W.nsIn K mainGlobals "_law_is_word" = some (some (.ref fisw)))
    (lisw : K.lookup fisw = some ⟨ocisw, odisw, .func (PySem.W.fnOf "_law_is_word" "_law_is_word" (defArgs s_isw) (defBody s_isw) (defScope s_isw) .none kVisw dcisw pmisw anisw cdisw ctisw), slisw⟩)
    (cisw : PySem.W.codeIn K cdisw "_law_is_word" = true)
    (kisw : PySem.W.keepIn K (.ref fisw) = true)
    (atold : PySem.W.nsIn K mainGlobals "_law_told" = some (some (.ref ftold)))
    (ltold : K.lookup ftold = some ⟨octold, odtold, .func (PySem.W.fnOf "_law_told" "_law_told" (defArgs s_told) (defBody s_told) (defScope s_told) .none kVtold dctold pmtold antold cdtold cttold), sltold⟩)
    (ctold : PySem.W.codeIn K cdtold "_law_told" = true)
    (ktold : PySem.W.keepIn K (.ref ftold) = true)
    (asign : PySem.W.nsIn K mainGlobals "_law_sign" = some (some (.ref fsign)))
    (lsign : K.lookup fsign = some ⟨ocsign, odsign, .func (PySem.W.fnOf "_law_sign" "_law_sign" (defArgs s_sign) (defBody s_sign) (defScope s_sign) .none kVsign dcsign pmsign ansign cdsign ctsign), slsign⟩)
    (csign : PySem.W.codeIn K cdsign "_law_sign" = true)
    (ksign : PySem.W.keepIn K (.ref fsign) = true)
    (ais : PySem.W.nsIn K mainGlobals "_law_is" = some (some (.ref fis)))
    (lis : K.lookup fis = some ⟨ocis, odis, .func (PySem.W.fnOf "_law_is" "_law_is" (defArgs s_is) (defBody s_is) (defScope s_is) .none kVis dcis pmis anis cdis ctis), slis⟩)
    (cis : PySem.W.codeIn K cdis "_law_is" = true)
    (kis : PySem.W.keepIn K (.ref fis) = true)
    (ano : PySem.W.nsIn K mainGlobals "_law_no" = some (some (.ref fno)))
    (lno : K.lookup fno = some ⟨ocno, odno, .func (PySem.W.fnOf "_law_no" "_law_no" (defArgs s_no) (defBody s_no) (defScope s_no) .none kVno dcno pmno anno cdno ctno), slno⟩)
    (cno : PySem.W.codeIn K cdno "_law_no" = true)
    (kno : PySem.W.keepIn K (.ref fno) = true)
    (adrawn : PySem.W.nsIn K mainGlobals "_law_drawn" = some (some (.ref fdrawn)))
    (ldrawn : K.lookup fdrawn = some ⟨ocdrawn, oddrawn, .func (PySem.W.fnOf "_law_drawn" "_law_drawn" (defArgs s_drawn) (defBody s_drawn) (defScope s_drawn) .none kVdrawn dcdrawn pmdrawn andrawn cddrawn ctdrawn), sldrawn⟩)
    (cdrawn : PySem.W.codeIn K cddrawn "_law_drawn" = true)
    (kdrawn : PySem.W.keepIn K (.ref fdrawn) = true)
    (abadv : PySem.W.nsIn K mainGlobals "_law_bads" = some (some (.ref fbadv)))
    (lbadv : K.lookup fbadv = some ⟨ocbadv, odbadv, .func (PySem.W.fnOf "_law_bads" "_law_bads" (defArgs s_badv) (defBody s_badv) (defScope s_badv) .none kVbadv dcbadv pmbadv anbadv cdbadv ctbadv), slbadv⟩)
    (cbadv : PySem.W.codeIn K cdbadv "_law_bads" = true)
    (kbadv : PySem.W.keepIn K (.ref fbadv) = true)
    (adue : PySem.W.nsIn K mainGlobals "_law_due" = some (some (.ref fdue)))
    (ldue : K.lookup fdue = some ⟨ocdue, oddue, .func (PySem.W.fnOf "_law_due" "_law_due" (defArgs s_due) (defBody s_due) (defScope s_due) .none kVdue dcdue pmdue andue cddue ctdue), sldue⟩)
    (cdue : PySem.W.codeIn K cddue "_law_due" = true)
    (kdue : PySem.W.keepIn K (.ref fdue) = true)
    (alaw : PySem.W.nsIn K mainGlobals "law" = some (some (.ref flaw)))
    (llaw : K.lookup flaw = some ⟨oclaw, odlaw, .func (PySem.W.fnOf "law" "law" (defArgs s_law) (defBody s_law) (defScope s_law) .none kVlaw dclaw pmlaw anlaw cdlaw ctlaw), sllaw⟩)
    (claw : PySem.W.codeIn K cdlaw "law" = true)
    (klaw : PySem.W.keepIn K (.ref flaw) = true)
    (apisw : PySem.W.nsIn K mainGlobals "is_word" = some (some (.ref fpisw)))
    (lpisw : K.lookup fpisw = some ⟨ocpisw, odpisw, .func (PySem.W.fnOf "is_word" "is_word" (defArgs p_isw) (defBody p_isw) (defScope p_isw) .none kVpisw dcpisw pmpisw anpisw cdpisw ctpisw), slpisw⟩)
    (cpisw : PySem.W.codeIn K cdpisw "is_word" = true)
    (kpisw : PySem.W.keepIn K (.ref fpisw) = true)
    (apchw : PySem.W.nsIn K mainGlobals "check_word" = some (some (.ref fpchw)))
    (lpchw : K.lookup fpchw = some ⟨ocpchw, odpchw, .func (PySem.W.fnOf "check_word" "check_word" (defArgs p_chw) (defBody p_chw) (defScope p_chw) .none kVpchw dcpchw pmpchw anpchw cdpchw ctpchw), slpchw⟩)
    (cpchw : PySem.W.codeIn K cdpchw "check_word" = true)
    (kpchw : PySem.W.keepIn K (.ref fpchw) = true)
    (apslo : PySem.W.nsIn K mainGlobals "slots_below" = some (some (.ref fpslo)))
    (lpslo : K.lookup fpslo = some ⟨ocpslo, odpslo, .func (PySem.W.fnOf "slots_below" "slots_below" (defArgs p_slo) (defBody p_slo) (defScope p_slo) .none kVpslo dcpslo pmpslo anpslo cdpslo ctpslo), slpslo⟩)
    (cpslo : PySem.W.codeIn K cdpslo "slots_below" = true)
    (kpslo : PySem.W.keepIn K (.ref fpslo) = true)
    (aask : PySem.W.nsIn K mainGlobals "_law_asked" = some (some (.ref fask)))
    (lask : K.lookup fask = some ⟨ocask, odask, .func (PySem.W.fnOf "_law_asked" "_law_asked" (defArgs s_ask) (defBody s_ask) (defScope s_ask) .none kVask dcask pmask anask (.ref Cask) ctask), slask⟩)
    (cask : PySem.W.codeIn K (.ref Cask) "_law_asked" = true)
    (kask : PySem.W.keepIn K (.ref fask) = true)
    (asiz : PySem.W.nsIn K mainGlobals "_law_sizes" = some (some (.ref fsiz)))
    (lsiz : K.lookup fsiz = some ⟨ocsiz, odsiz, .func (PySem.W.fnOf "_law_sizes" "_law_sizes" (defArgs s_siz) (defBody s_siz) (defScope s_siz) .none kVsiz dcsiz pmsiz ansiz (.ref Csiz) ctsiz), slsiz⟩)
    (csiz : PySem.W.codeIn K (.ref Csiz) "_law_sizes" = true)
    (ksiz : PySem.W.keepIn K (.ref fsiz) = true)
    (aref : PySem.W.nsIn K mainGlobals "_law_refusals" = some (some (.ref fref)))
    (lref : K.lookup fref = some ⟨ocref, odref, .func (PySem.W.fnOf "_law_refusals" "_law_refusals" (defArgs s_ref) (defBody s_ref) (defScope s_ref) .none kVref dcref pmref anref (.ref Cref) ctref), slref⟩)
    (cref : PySem.W.codeIn K (.ref Cref) "_law_refusals" = true)
    (kref : PySem.W.keepIn K (.ref fref) = true)
    (awa : PySem.W.nsIn K mainGlobals "_law_words_asked" = some (some (.ref fwa)))
    (lwa : K.lookup fwa = some ⟨ocwa, odwa, .func (PySem.W.fnOf "_law_words_asked" "_law_words_asked" (defArgs s_wa) (defBody s_wa) (defScope s_wa) .none kVwa dcwa pmwa anwa (.ref Cwa) ctwa), slwa⟩)
    (cwa : PySem.W.codeIn K (.ref Cwa) "_law_words_asked" = true)
    (kwa : PySem.W.keepIn K (.ref fwa) = true)
    (achl : PySem.W.nsIn K mainGlobals "check_lot" = some (some (.ref fchl)))
    (lchl : K.lookup fchl = some ⟨occhl, odchl, .func (PySem.W.fnOf "check_lot" "check_lot" (defArgs p_chl) (defBody p_chl) (defScope p_chl) (.ref Dchl) kVchl dcchl pmchl anchl cdchl ctchl), slchl⟩)
    (cchl : PySem.W.codeIn K cdchl "check_lot" = true)
    (kchl : PySem.W.keepIn K (.ref fchl) = true)
    (dchl : K.lookup Dchl = some ochl)
    (echl : ochl.data = .seq #[.int 6 tkchl] nchl)
    (amkl : PySem.W.nsIn K mainGlobals "make_lot" = some (some (.ref fmkl)))
    (lmkl : K.lookup fmkl = some ⟨ocmkl, odmkl, .func (PySem.W.fnOf "make_lot" "make_lot" (defArgs p_mkl) (defBody p_mkl) (defScope p_mkl) (.ref Dmkl) kVmkl dcmkl pmmkl anmkl cdmkl ctmkl), slmkl⟩)
    (cmkl : PySem.W.codeIn K cdmkl "make_lot" = true)
    (kmkl : PySem.W.keepIn K (.ref fmkl) = true)
    (dmkl : K.lookup Dmkl = some omkl)
    (emkl : omkl.data = .seq #[.int 6 tkmkl] nmkl)
    (gRefused : PySem.W.nsIn K mainGlobals "Refused" = some (some (.ref ea.Refused)))
    (gBadWord : PySem.W.nsIn K mainGlobals "BadWord" = some (some (.ref ea.BadWord)))
    (gBadLot : PySem.W.nsIn K mainGlobals "BadLot" = some (some (.ref ea.BadLot)))
    (gBadTerm : PySem.W.nsIn K mainGlobals "BadTerm" = some (some (.ref ea.BadTerm)))
    (gBadStep : PySem.W.nsIn K mainGlobals "BadStep" = some (some (.ref ea.BadStep)))
    (gBadShape : PySem.W.nsIn K mainGlobals "BadShape" = some (some (.ref ea.BadShape)))
    (gBadPlace : PySem.W.nsIn K mainGlobals "BadPlace" = some (some (.ref ea.BadPlace)))
    (gBadNumber : PySem.W.nsIn K mainGlobals "BadNumber" = some (some (.ref ea.BadNumber)))
    (gBadFilling : PySem.W.nsIn K mainGlobals "BadFilling" = some (some (.ref ea.BadFilling)))
    (gBadPlan : PySem.W.nsIn K mainGlobals "BadPlan" = some (some (.ref ea.BadPlan)))
    (gBadTarget : PySem.W.nsIn K mainGlobals "BadTarget" = some (some (.ref ea.BadTarget)))
    (gBadPaper : PySem.W.nsIn K mainGlobals "BadPaper" = some (some (.ref ea.BadPaper)))
    (gBadCall : PySem.W.nsIn K mainGlobals "BadCall" = some (some (.ref ea.BadCall)))
    (gNotAllowed : PySem.W.nsIn K mainGlobals "NotAllowed" = some (some (.ref ea.NotAllowed)))
    (gBadText : PySem.W.nsIn K mainGlobals "BadText" = some (some (.ref ea.BadText)))
    (gBadStack : PySem.W.nsIn K mainGlobals "BadStack" = some (some (.ref ea.BadStack)))
    (gTooMany : PySem.W.nsIn K mainGlobals "TooMany" = some (some (.ref ea.TooMany)))
    (qLETTERS : PySem.W.nsIn K mainGlobals "LETTERS" = some (some (.str alpha tLETTERS)))
    (qLETTERS_AND_DIGITS : PySem.W.nsIn K mainGlobals "LETTERS_AND_DIGITS" = some (some (.str alnum tLETTERS_AND_DIGITS)))
    (qALL_SLOTS : PySem.W.nsIn K mainGlobals "ALL_SLOTS" = some (some (.str abc tALL_SLOTS)))
    (qLONGEST_WORD : PySem.W.nsIn K mainGlobals "LONGEST_WORD" = some (some (.int 8 tLONGEST_WORD)))
    (zint : PySem.W.nsIn K mainGlobals "int" = some none)
    (zmax : PySem.W.nsIn K mainGlobals "max" = some none)
    (zlen : PySem.W.nsIn K mainGlobals "len" = some none)
    (zrange : PySem.W.nsIn K mainGlobals "range" = some none)
    (zisinstance : PySem.W.nsIn K mainGlobals "isinstance" = some none)
    (zstr : PySem.W.nsIn K mainGlobals "str" = some none)
    (zbool : PySem.W.nsIn K mainGlobals "bool" = some none)
    (zall : PySem.W.nsIn K mainGlobals "all" = some none)
    (zlist : PySem.W.nsIn K mainGlobals "list" = some none)
    (zrepr : PySem.W.nsIn K mainGlobals "repr" = some none)
    (zzip : PySem.W.nsIn K mainGlobals "zip" = some none)
    (ztuple : PySem.W.nsIn K mainGlobals "tuple" = some none)
    (zdict : PySem.W.nsIn K mainGlobals "dict" = some none)
    (zValueError : PySem.W.nsIn K mainGlobals "ValueError" = some none)
    (EBadWord : ErrK K ea ea.BadWord "BadWord")
    (kBadWord : PySem.W.keepIn K (.ref ea.BadWord) = true)
    (xBadWord : PySem.W.excIn K ea.BadWord [.type "ValueError", .type "Exception", .type "BaseException", .type "object"] "ValueError.__new__" = true)
    (tBadWord : PySem.W.typeIn K (.ref ea.BadWord) = some (.type "type"))
    (EBadLot : ErrK K ea ea.BadLot "BadLot")
    (kBadLot : PySem.W.keepIn K (.ref ea.BadLot) = true)
    (xBadLot : PySem.W.excIn K ea.BadLot [.type "ValueError", .type "Exception", .type "BaseException", .type "object"] "ValueError.__new__" = true)
    (tBadLot : PySem.W.typeIn K (.ref ea.BadLot) = some (.type "type")) :
    ∀ (fa : Addr), mg "law" = some (.ref fa) → ∀ (base : Heap) (s₁ : Shared) (H : Hp) (a : Addr) (ns : List Int), (∀ p ∈ [(Cask, Pask), (Csiz, Psiz), (Cref, Pref), (Cwa, Pwa)], TabB base mg p.1 p.2) → ([Pask, Psiz, Pref, Pwa] : List Addr).Nodup → Env0 P w K mg base callerA [] s₁ H →
      (∀ p ∈ [(Cask, Pask), (Csiz, Psiz), (Cref, Pref), (Cwa, Pwa)], H p.2 = some (.tbl #[])) → SqL K H a (ns.map V.int) → ns.length ≤ 63 → codeAny (model P w) callerA (.call (.ref fa) ⟨[.ref a], []⟩) (CR CX0 [] P w H s₁ (fun v _ => v = .bl true) E0) s₁ := by
  intro fa hfa base s₁ H a ns hTB hnd e0 hHT hS hlen
  have e := hfa.symm.trans (PySem.W.mg_of X G alaw)
  cases e
  have T : Txt K mg := ⟨PySem.W.mg_none_of X G zint, PySem.W.mg_none_of X G zmax, PySem.W.mg_none_of X G zlen, PySem.W.mg_none_of X G zrange, PySem.W.mg_none_of X G zisinstance, PySem.W.mg_none_of X G zstr, PySem.W.mg_none_of X G zbool, PySem.W.mg_none_of X G zall, PySem.W.mg_none_of X G zlist, PySem.W.mg_none_of X G zrepr, PySem.W.mg_none_of X G zzip, PySem.W.mg_none_of X G ztuple, PySem.W.mg_none_of X G zdict⟩
  have Cc : Cs mg := ⟨⟨_, PySem.W.mg_of X G qLETTERS⟩, ⟨_, PySem.W.mg_of X G qLETTERS_AND_DIGITS⟩, ⟨_, PySem.W.mg_of X G qALL_SLOTS⟩, ⟨_, PySem.W.mg_of X G qLONGEST_WORD⟩⟩
  have GE : ErrG mg ea := ⟨PySem.W.mg_of X G gRefused, PySem.W.mg_of X G gBadWord, PySem.W.mg_of X G gBadLot, PySem.W.mg_of X G gBadTerm, PySem.W.mg_of X G gBadStep, PySem.W.mg_of X G gBadShape, PySem.W.mg_of X G gBadPlace, PySem.W.mg_of X G gBadNumber, PySem.W.mg_of X G gBadFilling, PySem.W.mg_of X G gBadPlan, PySem.W.mg_of X G gBadTarget, PySem.W.mg_of X G gBadPaper, PySem.W.mg_of X G gBadCall, PySem.W.mg_of X G gNotAllowed, PySem.W.mg_of X G gBadText, PySem.W.mg_of X G gBadStack, PySem.W.mg_of X G gTooMany, PySem.W.mg_none_of X G zValueError⟩
  have RBadWord : ErrC K mg "BadWord" ea.BadWord := ⟨PySem.W.mg_of X G gBadWord, kBadWord, xBadWord, EBadWord.c.hs, tBadWord⟩
  have RBadLot : ErrC K mg "BadLot" ea.BadLot := ⟨PySem.W.mg_of X G gBadLot, kBadLot, xBadLot, EBadLot.c.hs, tBadLot⟩
  have Fmix := fun_mk (st := s_mix) lmix cmix kmix
  have Fstore := fun_mk (st := s_store) lstore cstore kstore
  have Fopen := fun_mk (st := s_open) lopen copen kopen
  have Ftake := fun_mk (st := s_take) ltake ctake ktake
  have Fpick := fun_mk (st := s_pick) lpick cpick kpick
  have Fcount := fun_mk (st := s_count) lcount ccount kcount
  have Fword := fun_mk (st := s_word) lword cword kword
  have Fbadw := fun_mk (st := s_badw) lbadw cbadw kbadw
  have Flot := fun_mk (st := s_lot) llot clot klot
  have Fbadl := fun_mk (st := s_badl) lbadl cbadl kbadl
  have Fbadz := fun_mk (st := s_bads) lbadz cbadz kbadz
  have Fletters := fun_mk (st := s_letters) lletters cletters kletters
  have Fsame := fun_mk (st := s_same) lsame csame ksame
  have Fisw := fun_mk (st := s_isw) lisw cisw kisw
  have Ftold := fun_mk (st := s_told) ltold ctold ktold
  have Fsign := fun_mk (st := s_sign) lsign csign ksign
  have Fis := fun_mk (st := s_is) lis cis kis
  have Fno := fun_mk (st := s_no) lno cno kno
  have Fdrawn := fun_mk (st := s_drawn) ldrawn cdrawn kdrawn
  have Fbadv := fun_mk (st := s_badv) lbadv cbadv kbadv
  have Fdue := fun_mk (st := s_due) ldue cdue kdue
  have Flaw := fun_mk (st := s_law) llaw claw klaw
  have Fpisw := fun_mk (st := p_isw) lpisw cpisw kpisw
  have Fpchw := fun_mk (st := p_chw) lpchw cpchw kpchw
  have Fpslo := fun_mk (st := p_slo) lpslo cpslo kpslo
  have bmix := Fmix.binds (ps := ["cell", "turn"]) fun _ _ _ _ _ _ us hl => match us, hl with | [_, _], _ => rfl
  have Gmix : FnE P w K mg base (CX0) 1 "_law_mix" ["cell", "turn"] (spMix) := ⟨_, _, ok_mix Fmix T, PySem.W.mg_of X G amix, kmix, bmix⟩
  have bopen := Fopen.binds (ps := ["store"]) fun _ _ _ _ _ _ us hl => match us, hl with | [_], _ => rfl
  have Gopen : FnE P w K mg base (CX0) 1 "_law_open" ["store"] (spOpen) := ⟨_, _, ok_open Fopen T, PySem.W.mg_of X G aopen, kopen, bopen⟩
  obtain ⟨_, _, Gmix1⟩ := id Gmix
  obtain ⟨_, _, Gopen1⟩ := id Gopen
  have btake := Ftake.binds (ps := ["store", "limit"]) fun _ _ _ _ _ _ us hl => match us, hl with | [_, _], _ => rfl
  have Gtake : FnE P w K mg base (CX0) 2 "_law_take" ["store", "limit"] (spTake) := ⟨_, _, ok_take Ftake T Gmix1 Gopen1, PySem.W.mg_of X G atake, ktake, btake⟩
  have bstore := Fstore.binds (ps := ["script"]) fun _ _ _ _ _ _ us hl => match us, hl with | [_], _ => rfl
  have Gstore : FnE P w K mg base (CX0) 2 "_law_store" ["script"] (spStore K) := ⟨_, _, ok_store Fstore T Gmix1, PySem.W.mg_of X G astore, kstore, bstore⟩
  have bpick := Fpick.binds (ps := ["store", "things"]) fun _ _ _ _ _ _ us hl => match us, hl with | [_, _], _ => rfl
  have Gpick : FnE P w K mg base (CX0) 3 "_law_pick" ["store", "things"] (spPick) := ⟨_, _, ok_pick Fpick T Gtake, PySem.W.mg_of X G apick, kpick, bpick⟩
  have bcount := Fcount.binds (ps := ["store", "most"]) fun _ _ _ _ _ _ us hl => match us, hl with | [_, _], _ => rfl
  have Gcount : FnE P w K mg base (CX0) 3 "_law_count" ["store", "most"] (spCount) := ⟨_, _, ok_count Fcount T Gtake, PySem.W.mg_of X G acount, kcount, bcount⟩
  have bsign := Fsign.binds (ps := ["store"]) fun _ _ _ _ _ _ us hl => match us, hl with | [_], _ => rfl
  have Gsign : FnE P w K mg base (CX0) 4 "_law_sign" ["store"] (spSign) := ⟨_, _, ok_sign Fsign T Gpick, PySem.W.mg_of X G asign, ksign, bsign⟩
  have bword := Fword.binds (ps := ["store"]) fun _ _ _ _ _ _ us hl => match us, hl with | [_], _ => rfl
  have Gword : FnE P w K mg base (CX0) 4 "_law_word" ["store"] (spWord) := ⟨_, _, ok_word Fword T Gtake Gpick, PySem.W.mg_of X G aword, kword, bword⟩
  have bletters := Fletters.binds (ps := ["store", "size"]) fun _ _ _ _ _ _ us hl => match us, hl with | [_, _], _ => rfl
  have Gletters : FnE P w K mg base (CX0) 4 "_law_letters" ["store", "size"] (spLetters) := ⟨_, _, ok_letters Fletters T Gcount Gpick, PySem.W.mg_of X G aletters, kletters, bletters⟩
  have blot := Flot.binds (ps := ["store", "size"]) fun _ _ _ _ _ _ us hl => match us, hl with | [_, _], _ => rfl
  have Glot : FnE P w K mg base (CX0) 4 "_law_lot" ["store", "size"] (spLot) := ⟨_, _, ok_lot Flot T Gtake Gpick, PySem.W.mg_of X G alot, klot, blot⟩
  have bbadw := Fbadw.binds (ps := ["store"]) fun _ _ _ _ _ _ us hl => match us, hl with | [_], _ => rfl
  have Gbadw : FnE P w K mg base (CX0) 4 "_law_bad_word" ["store"] (spBadW) := ⟨_, _, ok_badw Fbadw T Gpick, PySem.W.mg_of X G abadw, kbadw, bbadw⟩
  have bbadz := Fbadz.binds (ps := ["store"]) fun _ _ _ _ _ _ us hl => match us, hl with | [_], _ => rfl
  have Gbadz : FnE P w K mg base (CX0) 4 "_law_bad_size" ["store"] (spBadS) := ⟨_, _, ok_badsz Fbadz T Gpick, PySem.W.mg_of X G abadz, kbadz, bbadz⟩
  have bbadl := Fbadl.binds (ps := ["store", "size"]) fun _ _ _ _ _ _ us hl => match us, hl with | [_, _], _ => rfl
  have Gbadl : FnE P w K mg base (CX0) 4 "_law_bad_lot" ["store", "size"] (spBadL) := ⟨_, _, ok_badl Fbadl T Gpick, PySem.W.mg_of X G abadl, kbadl, bbadl⟩
  have bbadv := Fbadv.binds (ps := ["store", "size"]) fun _ _ _ _ _ _ us hl => match us, hl with | [_, _], _ => rfl
  have Gbadv : FnE P w K mg base (CX0) 5 "_law_bads" ["store", "size"] (spBads) := ⟨_, _, ok_badv Fbadv T Gpick Gbadl Gbadz Gbadw, PySem.W.mg_of X G abadv, kbadv, bbadv⟩
  have bdrawn := Fdrawn.binds (ps := ["store"]) fun _ _ _ _ _ _ us hl => match us, hl with | [_], _ => rfl
  have Gdrawn : FnE P w K mg base (CX0) 5 "_law_drawn" ["store"] (spDrawn) := ⟨_, _, ok_drawn Fdrawn T Gtake Gletters Gsign Gword Glot, PySem.W.mg_of X G adrawn, kdrawn, bdrawn⟩
  have bno := Fno.binds (ps := ["name"]) fun _ _ _ _ _ _ us hl => match us, hl with | [_], _ => rfl
  have Gno : FnE P w K mg base (CX0) 1 "_law_no" ["name"] (spNo) := ⟨_, _, ok_no Fno T, PySem.W.mg_of X G ano, kno, bno⟩
  have bdue := Fdue.binds (ps := ["text", "size"]) fun _ _ _ _ _ _ us hl => match us, hl with | [_, _], _ => rfl
  have Gdue : FnE P w K mg base (CX0) 2 "_law_due" ["text", "size"] (spDue) := ⟨_, _, ok_due Fdue T Gno, PySem.W.mg_of X G adue, kdue, bdue⟩
  have bisw := Fisw.binds (ps := ["told"]) fun _ _ _ _ _ _ us hl => match us, hl with | [_], _ => rfl
  have Gisw : FnE P w K mg base (CX0) 2 "_law_is_word" ["told"] (spIsw) := ⟨_, _, ok_isw Fisw T, PySem.W.mg_of X G aisw, kisw, bisw⟩
  have bsame := Fsame.binds (ps := ["told", "due"]) fun _ _ _ _ _ _ us hl => match us, hl with | [_, _], _ => rfl
  have Gsame : FnE P w K mg base (CX0) 1 "_law_same" ["told", "due"] (spSame) := ⟨_, _, ok_same Fsame T, PySem.W.mg_of X G asame, ksame, bsame⟩
  have bpisw := Fpisw.binds (ps := ["word"]) fun _ _ _ _ _ _ us hl => match us, hl with | [_], _ => rfl
  have Gpisw : FnE P w K mg base (L2.CX P w) 1 "is_word" ["word"] (spIsWord) := ⟨_, _, pk_isw Fpisw T Cc, PySem.W.mg_of X G apisw, kpisw, bpisw⟩
  have bpchw := Fpchw.binds (ps := ["word"]) fun _ _ _ _ _ _ us hl => match us, hl with | [_], _ => rfl
  have Gpchw : FnE P w K mg base (L2.CX P w) 2 "check_word" ["word"] (spCheckWord ea.BadWord) := ⟨_, _, pk_chw Fpchw T RBadWord Gpisw, PySem.W.mg_of X G apchw, kpchw, bpchw⟩
  have bpslo := Fpslo.binds (ps := ["size"]) fun _ _ _ _ _ _ us hl => match us, hl with | [_], _ => rfl
  have Gpslo : FnE P w K mg base (L2.CX P w) 1 "slots_below" ["size"] (spSlots ea.BadLot) := ⟨_, _, pk_slo Fpslo T Cc RBadLot, PySem.W.mg_of X G apslo, kpslo, bpslo⟩
  have Fchl : FunD K "check_lot" "check_lot" (defArgs p_chl) (defBody p_chl) (defScope p_chl) [.int 6] [] fchl _ := ⟨⟨_, _, _, _, _, _, _, _, _, _, rfl, lchl, cchl, .inr ⟨by simp, Dchl, ochl, [.int 6 tkchl], nchl, rfl, dchl, echl, .cons ⟨_, rfl⟩ .nil⟩, .inl rfl⟩, kchl⟩
  have Ochl : FnOk P w K mg base (L2.CX P w) 2 fchl _ ["lot", "size"] (spCheckLot ea.BadLot) := pk_chl Fchl T RBadLot Gpslo
  have bchl := Fchl.binds1 (ps := ["lot", "size"]) 2 1 (by simp) rfl fun _ _ _ _ _ _ _ us its h1 h2 => match us, its, h1, h2 with | [_, _], [_], _, _ => ⟨_, rfl, rfl⟩
  obtain ⟨dschl, vchl, bchl⟩ := bchl
  cases vchl
  have Gchl : FnE P w K mg base (L2.CX P w) 2 "check_lot" ["lot", "size"] (spCheckLot ea.BadLot) := ⟨_, _, Ochl, PySem.W.mg_of X G achl, kchl, bchl⟩
  have GDchl : FnDE P w K mg base (L2.CX P w) 2 "check_lot" ["lot", "size"] (spCheckLot ea.BadLot) [.int 6] := ⟨_, _, Ochl, PySem.W.mg_of X G achl, kchl, Fchl.binds1 (ps := ["lot", "size"]) 1 0 (by simp) rfl fun _ _ _ _ _ _ _ us its h1 h2 => match us, its, h1, h2 with | [_], [_], _, _ => ⟨_, rfl, rfl⟩⟩
  have GKchl : FnKE P w K mg base (L2.CX P w) 2 "check_lot" ["lot", "size"] (spCheckLot ea.BadLot) ["size", "lot"] swap2 := by
    obtain ⟨its, kb⟩ := Fchl.kbindsD (ps := ["lot", "size"]) 0 ["size", "lot"] (fun vs ds zs => swp zs) (by simp) (fun r1 r2 r3 => swp_rel r3) (fun _ _ _ _ _ _ _ us its ws h1 h2 h3 => match us, its, ws, h1, h2, h3 with | [], [_], [_, _], _, _, _ => ⟨_, rfl, rfl⟩)
    exact ⟨_, _, Ochl, PySem.W.mg_of X G achl, kchl, _, kb⟩
  have Fmkl : FunD K "make_lot" "make_lot" (defArgs p_mkl) (defBody p_mkl) (defScope p_mkl) [.int 6] [] fmkl _ := ⟨⟨_, _, _, _, _, _, _, _, _, _, rfl, lmkl, cmkl, .inr ⟨by simp, Dmkl, omkl, [.int 6 tkmkl], nmkl, rfl, dmkl, emkl, .cons ⟨_, rfl⟩ .nil⟩, .inl rfl⟩, kmkl⟩
  have Omkl : FnOk P w K mg base (L2.CX P w) 2 fmkl _ ["letters", "size"] (spMakeLot ea.BadLot) := pk_mkl Fmkl T RBadLot Gpslo
  have bmkl := Fmkl.binds1 (ps := ["letters", "size"]) 2 1 (by simp) rfl fun _ _ _ _ _ _ _ us its h1 h2 => match us, its, h1, h2 with | [_, _], [_], _, _ => ⟨_, rfl, rfl⟩
  obtain ⟨dsmkl, vmkl, bmkl⟩ := bmkl
  cases vmkl
  have Gmkl : FnE P w K mg base (L2.CX P w) 2 "make_lot" ["letters", "size"] (spMakeLot ea.BadLot) := ⟨_, _, Omkl, PySem.W.mg_of X G amkl, kmkl, bmkl⟩
  have GDmkl : FnDE P w K mg base (L2.CX P w) 2 "make_lot" ["letters", "size"] (spMakeLot ea.BadLot) [.int 6] := ⟨_, _, Omkl, PySem.W.mg_of X G amkl, kmkl, Fmkl.binds1 (ps := ["letters", "size"]) 1 0 (by simp) rfl fun _ _ _ _ _ _ _ us its h1 h2 => match us, its, h1, h2 with | [_], [_], _, _ => ⟨_, rfl, rfl⟩⟩
  have GKmkl : FnKE P w K mg base (L2.CX P w) 2 "make_lot" ["letters", "size"] (spMakeLot ea.BadLot) ["size", "letters"] swap2 := by
    obtain ⟨its, kb⟩ := Fmkl.kbindsD (ps := ["letters", "size"]) 0 ["size", "letters"] (fun vs ds zs => swp zs) (by simp) (fun r1 r2 r3 => swp_rel r3) (fun _ _ _ _ _ _ _ us its ws h1 h2 h3 => match us, its, ws, h1, h2, h3 with | [], [_], [_, _], _, _, _ => ⟨_, rfl, rfl⟩)
    exact ⟨_, _, Omkl, PySem.W.mg_of X G amkl, kmkl, _, kb⟩
  obtain ⟨_, _, Qpslo⟩ := id Gpslo
  have GKpslo : FnKE P w K mg base (L2.CX P w) 1 "slots_below" ["size"] (spSlots ea.BadLot) ["size"] fun _ zs => zs := ⟨fpslo, _, pk_slo Fpslo T Cc RBadLot, PySem.W.mg_of X G apslo, kpslo, fun _ ws => ws, ⟨fun s us ws _ h1 h2 => match us, ws, h1, h2 with | [], [_], _, _ => .of_eq rfl, fun _ r => r⟩⟩
  obtain ⟨_, _, Qpchw⟩ := id Gpchw
  have GKpchw : FnKE P w K mg base (L2.CX P w) 2 "check_word" ["word"] (spCheckWord ea.BadWord) ["word"] fun _ zs => zs := ⟨fpchw, _, pk_chw Fpchw T RBadWord Gpisw, PySem.W.mg_of X G apchw, kpchw, fun _ ws => ws, ⟨fun s us ws _ h1 h2 => match us, ws, h1, h2 with | [], [_], _, _ => .of_eq rfl, fun _ r => r⟩⟩
  have btold := Ftold.binds (ps := ["call"]) fun _ _ _ _ _ _ us hl => match us, hl with | [_], _ => rfl
  have bis := Fis.binds (ps := ["call", "due"]) fun _ _ _ _ _ _ us hl => match us, hl with | [_, _], _ => rfl
  have W : Asks P w K mg base ea ftold fis _ _ := ⟨T, GE, Ftold, PySem.W.mg_of X G atold, btold, Fis, PySem.W.mg_of X G ais, bis, Gsame⟩
  obtain ⟨Mask, Msiz, Mref, Mwa⟩ := mkrs hTB hnd
  have Fask : FunC K "_law_asked" "_law_asked" s_ask fask _ Cask := ⟨⟨_, _, _, _, _, _, _, _, rfl, lask, cask⟩, kask⟩
  have Fsiz : FunC K "_law_sizes" "_law_sizes" s_siz fsiz _ Csiz := ⟨⟨_, _, _, _, _, _, _, _, rfl, lsiz, csiz⟩, ksiz⟩
  have Fref : FunC K "_law_refusals" "_law_refusals" s_ref fref _ Cref := ⟨⟨_, _, _, _, _, _, _, _, rfl, lref, cref⟩, kref⟩
  have Fwa : FunC K "_law_words_asked" "_law_words_asked" s_wa fwa _ Cwa := ⟨⟨_, _, _, _, _, _, _, _, rfl, lwa, cwa⟩, kwa⟩
  have Gwa : FnE P w K mg base CX0 6 "_law_words_asked" ["words"] (spOkT (TLof Pask Psiz Pref Pwa) cWa) := ⟨_, _, ok_wa Fwa W Mwa EBadWord Gno Gisw Gpchw GKpchw, PySem.W.mg_of X G awa, kwa, .all fun us hl => match us, hl with | [_], _ => rfl⟩
  have Gask : FnE P w K mg base CX0 6 "_law_asked" ["text", "size"] (spOkT (TLof Pask Psiz Pref Pwa) cAsk) := ⟨_, _, ok_ask Fask W Mask EBadLot Gno Gdue Gmkl GKmkl Gchl GKchl, PySem.W.mg_of X G aask, kask, .all fun us hl => match us, hl with | [_, _], _ => rfl⟩
  have Gsiz : FnE P w K mg base CX0 7 "_law_sizes" ["texts"] (spOkT (TLof Pask Psiz Pref Pwa) cSiz) := ⟨_, _, ok_siz Fsiz W Msiz EBadLot Gno Gdue Gask Gpslo GKpslo GDmkl GDchl, PySem.W.mg_of X G asiz, ksiz, .all fun us hl => match us, hl with | [_], _ => rfl⟩
  have Gref : FnE P w K mg base CX0 6 "_law_refusals" ["size", "lot", "text", "bads"] (spOkT (TLof Pask Psiz Pref Pwa) cRef) := ⟨_, _, ok_ref Fref W Mref EBadLot EBadWord Gno Gpslo Gmkl Gchl Gpchw GDmkl GDchl, PySem.W.mg_of X G aref, kref, .all fun us hl => match us, hl with | [_, _, _, _], _ => rfl⟩
  exact run_law Flaw T (.of_eq rfl) e0 (tl_at hHT) hS hlen Gstore Gdrawn Gbadv Gsiz Gwa Gref Gask
theorem all_mk2 {P : Program} {w : World} {K : PySem.W.Frag} {h : Heap} {mg : Str → Option Value} (X : K.In h) (G : h.Ns mainGlobals mg)
    {fmix : Addr} {odmix anmix : Option Addr} {slmix : Array (Option Value)} {ocmix kVmix dcmix pmmix cdmix ctmix : Value}
    {fstore : Addr} {odstore anstore : Option Addr} {slstore : Array (Option Value)} {ocstore kVstore dcstore pmstore cdstore ctstore : Value}
    {fopen : Addr} {odopen anopen : Option Addr} {slopen : Array (Option Value)} {ocopen kVopen dcopen pmopen cdopen ctopen : Value}
    {ftake : Addr} {odtake antake : Option Addr} {sltake : Array (Option Value)} {octake kVtake dctake pmtake cdtake cttake : Value}
    {fpick : Addr} {odpick anpick : Option Addr} {slpick : Array (Option Value)} {ocpick kVpick dcpick pmpick cdpick ctpick : Value}
    {fcount : Addr} {odcount ancount : Option Addr} {slcount : Array (Option Value)} {occount kVcount dccount pmcount cdcount ctcount : Value}
    {fword : Addr} {odword anword : Option Addr} {slword : Array (Option Value)} {ocword kVword dcword pmword cdword ctword : Value}
    {fbadw : Addr} {odbadw anbadw : Option Addr} {slbadw : Array (Option Value)} {ocbadw kVbadw dcbadw pmbadw cdbadw ctbadw : Value}
    {flot : Addr} {odlot anlot : Option Addr} {sllot : Array (Option Value)} {oclot kVlot dclot pmlot cdlot ctlot : Value}
    {fbadl : Addr} {odbadl anbadl : Option Addr} {slbadl : Array (Option Value)} {ocbadl kVbadl dcbadl pmbadl cdbadl ctbadl : Value}
    {fbadz : Addr} {odbadz anbadz : Option Addr} {slbadz : Array (Option Value)} {ocbadz kVbadz dcbadz pmbadz cdbadz ctbadz : Value}
    {fletters : Addr} {odletters anletters : Option Addr} {slletters : Array (Option Value)} {ocletters kVletters dcletters pmletters cdletters ctletters : Value}
    {fsame : Addr} {odsame ansame : Option Addr} {slsame : Array (Option Value)} {ocsame kVsame dcsame pmsame cdsame ctsame : Value}
    {fisw : Addr} {odisw anisw : Option Addr} {slisw : Array (Option Value)} {ocisw kVisw dcisw pmisw cdisw ctisw : Value}
    {ftold : Addr} {odtold antold : Option Addr} {sltold : Array (Option Value)} {octold kVtold dctold pmtold cdtold cttold : Value}
    {fsign : Addr} {odsign ansign : Option Addr} {slsign : Array (Option Value)} {ocsign kVsign dcsign pmsign cdsign ctsign : Value}
    {fis : Addr} {odis anis : Option Addr} {slis : Array (Option Value)} {ocis kVis dcis pmis cdis ctis : Value}
    {fno : Addr} {odno anno : Option Addr} {slno : Array (Option Value)} {ocno kVno dcno pmno cdno ctno : Value}
    {fdrawn : Addr} {oddrawn andrawn : Option Addr} {sldrawn : Array (Option Value)} {ocdrawn kVdrawn dcdrawn pmdrawn cddrawn ctdrawn : Value}
    {fbadv : Addr} {odbadv anbadv : Option Addr} {slbadv : Array (Option Value)} {ocbadv kVbadv dcbadv pmbadv cdbadv ctbadv : Value}
    {fdue : Addr} {oddue andue : Option Addr} {sldue : Array (Option Value)} {ocdue kVdue dcdue pmdue cddue ctdue : Value}
    {flaw : Addr} {odlaw anlaw : Option Addr} {sllaw : Array (Option Value)} {oclaw kVlaw dclaw pmlaw cdlaw ctlaw : Value}
    {fpisw : Addr} {odpisw anpisw : Option Addr} {slpisw : Array (Option Value)} {ocpisw kVpisw dcpisw pmpisw cdpisw ctpisw : Value}
    {fpchw : Addr} {odpchw anpchw : Option Addr} {slpchw : Array (Option Value)} {ocpchw kVpchw dcpchw pmpchw cdpchw ctpchw : Value}
    {fpslo : Addr} {odpslo anpslo : Option Addr} {slpslo : Array (Option Value)} {ocpslo kVpslo dcpslo pmpslo cdpslo ctpslo : Value}
    {fask Cask Pask : Addr} {odask anask : Option Addr} {slask : Array (Option Value)} {ocask kVask dcask pmask ctask : Value}
    {fsiz Csiz Psiz : Addr} {odsiz ansiz : Option Addr} {slsiz : Array (Option Value)} {ocsiz kVsiz dcsiz pmsiz ctsiz : Value}
    {fref Cref Pref : Addr} {odref anref : Option Addr} {slref : Array (Option Value)} {ocref kVref dcref pmref ctref : Value}
    {fwa Cwa Pwa : Addr} {odwa anwa : Option Addr} {slwa : Array (Option Value)} {ocwa kVwa dcwa pmwa ctwa : Value}
    {fchl Dchl : Addr} {ochl : Obj} {tkchl : Tok} {nchl : Nat} {odchl anchl : Option Addr} {slchl : Array (Option Value)} {occhl kVchl dcchl pmchl cdchl ctchl : Value}
    {fmkl Dmkl : Addr} {omkl : Obj} {tkmkl : Tok} {nmkl : Nat} {odmkl anmkl : Option Addr} {slmkl : Array (Option Value)} {ocmkl kVmkl dcmkl pmmkl cdmkl ctmkl : Value}
    {tLETTERS : Tok}
    {tLETTERS_AND_DIGITS : Tok}
    {tALL_SLOTS : Tok}
    {tLONGEST_WORD : Tok}
    {yARefused yABadWord yABadLot yABadTerm yABadStep yABadShape yABadPlace yABadNumber yABadFilling yABadPlan yABadTarget yABadPaper yABadCall yANotAllowed yABadText yABadStack yATooMany : Addr}
    (amix : PySem.W.nsIn K mainGlobals "_law_mix" = some (some (.ref fmix)))
    (lmix : K.lookup fmix = some ⟨ocmix, odmix, .func (PySem.W.fnOf "_law_mix" "_law_mix" (defArgs s_mix) (defBody s_mix) (defScope s_mix) .none kVmix dcmix pmmix anmix cdmix ctmix), slmix⟩)
    (cmix : PySem.W.codeIn K cdmix "_law_mix" = true)
    (kmix : PySem.W.keepIn K (.ref fmix) = true)
    (astore : PySem.W.nsIn K mainGlobals "_law_store" = some (some (.ref fstore)))
    (lstore : K.lookup fstore = some ⟨ocstore, odstore, .func (PySem.W.fnOf "_law_store" "_law_store" (defArgs s_store) (defBody s_store) (defScope s_store) .none kVstore dcstore pmstore anstore cdstore ctstore), slstore⟩)
    (cstore : PySem.W.codeIn K cdstore "_law_store" = true)
    (kstore : PySem.W.keepIn K (.ref fstore) = true)
    (aopen : PySem.W.nsIn K mainGlobals "_law_open" = some (some (.ref fopen)))
    (lopen : K.lookup fopen = some ⟨ocopen, odopen, .func (PySem.W.fnOf "_law_open" "_law_open" (defArgs s_open) (defBody s_open) (defScope s_open) .none kVopen dcopen pmopen anopen cdopen ctopen), slopen⟩)
    (copen : PySem.W.codeIn K cdopen "_law_open" = true)
    (kopen : PySem.W.keepIn K (.ref fopen) = true)
    (atake : PySem.W.nsIn K mainGlobals "_law_take" = some (some (.ref ftake)))
    (ltake : K.lookup ftake = some ⟨octake, odtake, .func (PySem.W.fnOf "_law_take" "_law_take" (defArgs s_take) (defBody s_take) (defScope s_take) .none kVtake dctake pmtake antake cdtake cttake), sltake⟩)
    (ctake : PySem.W.codeIn K cdtake "_law_take" = true)
    (ktake : PySem.W.keepIn K (.ref ftake) = true)
    (apick : PySem.W.nsIn K mainGlobals "_law_pick" = some (some (.ref fpick)))
    (lpick : K.lookup fpick = some ⟨ocpick, odpick, .func (PySem.W.fnOf "_law_pick" "_law_pick" (defArgs s_pick) (defBody s_pick) (defScope s_pick) .none kVpick dcpick pmpick anpick cdpick ctpick), slpick⟩)
    (cpick : PySem.W.codeIn K cdpick "_law_pick" = true)
    (kpick : PySem.W.keepIn K (.ref fpick) = true)
    (acount : PySem.W.nsIn K mainGlobals "_law_count" = some (some (.ref fcount)))
    (lcount : K.lookup fcount = some ⟨occount, odcount, .func (PySem.W.fnOf "_law_count" "_law_count" (defArgs s_count) (defBody s_count) (defScope s_count) .none kVcount dccount pmcount ancount cdcount ctcount), slcount⟩)
    (ccount : PySem.W.codeIn K cdcount "_law_count" = true)
    (kcount : PySem.W.keepIn K (.ref fcount) = true)
    (aword : PySem.W.nsIn K mainGlobals "_law_word" = some (some (.ref fword)))
    (lword : K.lookup fword = some ⟨ocword, odword, .func (PySem.W.fnOf "_law_word" "_law_word" (defArgs s_word) (defBody s_word) (defScope s_word) .none kVword dcword pmword anword cdword ctword), slword⟩)
    (cword : PySem.W.codeIn K cdword "_law_word" = true)
    (kword : PySem.W.keepIn K (.ref fword) = true)
    (abadw : PySem.W.nsIn K mainGlobals "_law_bad_word" = some (some (.ref fbadw)))
    (lbadw : K.lookup fbadw = some ⟨ocbadw, odbadw, .func (PySem.W.fnOf "_law_bad_word" "_law_bad_word" (defArgs s_badw) (defBody s_badw) (defScope s_badw) .none kVbadw dcbadw pmbadw anbadw cdbadw ctbadw), slbadw⟩)
    (cbadw : PySem.W.codeIn K cdbadw "_law_bad_word" = true)
    (kbadw : PySem.W.keepIn K (.ref fbadw) = true)
    (alot : PySem.W.nsIn K mainGlobals "_law_lot" = some (some (.ref flot)))
    (llot : K.lookup flot = some ⟨oclot, odlot, .func (PySem.W.fnOf "_law_lot" "_law_lot" (defArgs s_lot) (defBody s_lot) (defScope s_lot) .none kVlot dclot pmlot anlot cdlot ctlot), sllot⟩)
    (clot : PySem.W.codeIn K cdlot "_law_lot" = true)
    (klot : PySem.W.keepIn K (.ref flot) = true)
    (abadl : PySem.W.nsIn K mainGlobals "_law_bad_lot" = some (some (.ref fbadl)))
    (lbadl : K.lookup fbadl = some ⟨ocbadl, odbadl, .func (PySem.W.fnOf "_law_bad_lot" "_law_bad_lot" (defArgs s_badl) (defBody s_badl) (defScope s_badl) .none kVbadl dcbadl pmbadl anbadl cdbadl ctbadl), slbadl⟩)
    (cbadl : PySem.W.codeIn K cdbadl "_law_bad_lot" = true)
    (kbadl : PySem.W.keepIn K (.ref fbadl) = true)
    (abadz : PySem.W.nsIn K mainGlobals "_law_bad_size" = some (some (.ref fbadz)))
    (lbadz : K.lookup fbadz = some ⟨ocbadz, odbadz, .func (PySem.W.fnOf "_law_bad_size" "_law_bad_size" (defArgs s_bads) (defBody s_bads) (defScope s_bads) .none kVbadz dcbadz pmbadz anbadz cdbadz ctbadz), slbadz⟩)
    (cbadz : PySem.W.codeIn K cdbadz "_law_bad_size" = true)
    (kbadz : PySem.W.keepIn K (.ref fbadz) = true)
    (aletters : PySem.W.nsIn K mainGlobals "_law_letters" = some (some (.ref fletters)))
    (lletters : K.lookup fletters = some ⟨ocletters, odletters, .func (PySem.W.fnOf "_law_letters" "_law_letters" (defArgs s_letters) (defBody s_letters) (defScope s_letters) .none kVletters dcletters pmletters anletters cdletters ctletters), slletters⟩)
    (cletters : PySem.W.codeIn K cdletters "_law_letters" = true)
    (kletters : PySem.W.keepIn K (.ref fletters) = true)
    (asame : PySem.W.nsIn K mainGlobals "_law_same" = some (some (.ref fsame)))
    (lsame : K.lookup fsame = some ⟨ocsame, odsame, .func (PySem.W.fnOf "_law_same" "_law_same" (defArgs s_same) (defBody s_same) (defScope s_same) .none kVsame dcsame pmsame ansame cdsame ctsame), slsame⟩)
    (csame : PySem.W.codeIn K cdsame "_law_same" = true)
    (ksame : PySem.W.keepIn K (.ref fsame) = true)
    (aisw : PySem.W.nsIn K mainGlobals "_law_is_word" = some (some (.ref fisw)))
    (lisw : K.lookup fisw = some ⟨ocisw, odisw, .func (PySem.W.fnOf "_law_is_word" "_law_is_word" (defArgs s_isw) (defBody s_isw) (defScope s_isw) .none kVisw dcisw pmisw anisw cdisw ctisw), slisw⟩)
    (cisw : PySem.W.codeIn K cdisw "_law_is_word" = true)
    (kisw : PySem.W.keepIn K (.ref fisw) = true)
    (atold : PySem.W.nsIn K mainGlobals "_law_told" = some (some (.ref ftold)))
    (ltold : K.lookup ftold = some ⟨octold, odtold, .func (PySem.W.fnOf "_law_told" "_law_told" (defArgs s_told) (defBody s_told) (defScope s_told) .none kVtold dctold pmtold antold cdtold cttold), sltold⟩)
    (ctold : PySem.W.codeIn K cdtold "_law_told" = true)
    (ktold : PySem.W.keepIn K (.ref ftold) = true)
    (asign : PySem.W.nsIn K mainGlobals "_law_sign" = some (some (.ref fsign)))
    (lsign : K.lookup fsign = some ⟨ocsign, odsign, .func (PySem.W.fnOf "_law_sign" "_law_sign" (defArgs s_sign) (defBody s_sign) (defScope s_sign) .none kVsign dcsign pmsign ansign cdsign ctsign), slsign⟩)
    (csign : PySem.W.codeIn K cdsign "_law_sign" = true)
    (ksign : PySem.W.keepIn K (.ref fsign) = true)
    (ais : PySem.W.nsIn K mainGlobals "_law_is" = some (some (.ref fis)))
    (lis : K.lookup fis = some ⟨ocis, odis, .func (PySem.W.fnOf "_law_is" "_law_is" (defArgs s_is) (defBody s_is) (defScope s_is) .none kVis dcis pmis anis cdis ctis), slis⟩)
    (cis : PySem.W.codeIn K cdis "_law_is" = true)
    (kis : PySem.W.keepIn K (.ref fis) = true)
    (ano : PySem.W.nsIn K mainGlobals "_law_no" = some (some (.ref fno)))
    (lno : K.lookup fno = some ⟨ocno, odno, .func (PySem.W.fnOf "_law_no" "_law_no" (defArgs s_no) (defBody s_no) (defScope s_no) .none kVno dcno pmno anno cdno ctno), slno⟩)
    (cno : PySem.W.codeIn K cdno "_law_no" = true)
    (kno : PySem.W.keepIn K (.ref fno) = true)
    (adrawn : PySem.W.nsIn K mainGlobals "_law_drawn" = some (some (.ref fdrawn)))
    (ldrawn : K.lookup fdrawn = some ⟨ocdrawn, oddrawn, .func (PySem.W.fnOf "_law_drawn" "_law_drawn" (defArgs s_drawn) (defBody s_drawn) (defScope s_drawn) .none kVdrawn dcdrawn pmdrawn andrawn cddrawn ctdrawn), sldrawn⟩)
    (cdrawn : PySem.W.codeIn K cddrawn "_law_drawn" = true)
    (kdrawn : PySem.W.keepIn K (.ref fdrawn) = true)
    (abadv : PySem.W.nsIn K mainGlobals "_law_bads" = some (some (.ref fbadv)))
    (lbadv : K.lookup fbadv = some ⟨ocbadv, odbadv, .func (PySem.W.fnOf "_law_bads" "_law_bads" (defArgs s_badv) (defBody s_badv) (defScope s_badv) .none kVbadv dcbadv pmbadv anbadv cdbadv ctbadv), slbadv⟩)
    (cbadv : PySem.W.codeIn K cdbadv "_law_bads" = true)
    (kbadv : PySem.W.keepIn K (.ref fbadv) = true)
    (adue : PySem.W.nsIn K mainGlobals "_law_due" = some (some (.ref fdue)))
    (ldue : K.lookup fdue = some ⟨ocdue, oddue, .func (PySem.W.fnOf "_law_due" "_law_due" (defArgs s_due) (defBody s_due) (defScope s_due) .none kVdue dcdue pmdue andue cddue ctdue), sldue⟩)
    (cdue : PySem.W.codeIn K cddue "_law_due" = true)
    (kdue : PySem.W.keepIn K (.ref fdue) = true)
    (alaw : PySem.W.nsIn K mainGlobals "law" = some (some (.ref flaw)))
    (llaw : K.lookup flaw = some ⟨oclaw, odlaw, .func (PySem.W.fnOf "law" "law" (defArgs s_law) (defBody s_law) (defScope s_law) .none kVlaw dclaw pmlaw anlaw cdlaw ctlaw), sllaw⟩)
    (claw : PySem.W.codeIn K cdlaw "law" = true)
    (klaw : PySem.W.keepIn K (.ref flaw) = true)
    (apisw : PySem.W.nsIn K mainGlobals "is_word" = some (some (.ref fpisw)))
    (lpisw : K.lookup fpisw = some ⟨ocpisw, odpisw, .func (PySem.W.fnOf "is_word" "is_word" (defArgs p_isw) (defBody p_isw) (defScope p_isw) .none kVpisw dcpisw pmpisw anpisw cdpisw ctpisw), slpisw⟩)
    (cpisw : PySem.W.codeIn K cdpisw "is_word" = true)
    (kpisw : PySem.W.keepIn K (.ref fpisw) = true)
    (apchw : PySem.W.nsIn K mainGlobals "check_word" = some (some (.ref fpchw)))
    (lpchw : K.lookup fpchw = some ⟨ocpchw, odpchw, .func (PySem.W.fnOf "check_word" "check_word" (defArgs p_chw) (defBody p_chw) (defScope p_chw) .none kVpchw dcpchw pmpchw anpchw cdpchw ctpchw), slpchw⟩)
    (cpchw : PySem.W.codeIn K cdpchw "check_word" = true)
    (kpchw : PySem.W.keepIn K (.ref fpchw) = true)
    (apslo : PySem.W.nsIn K mainGlobals "slots_below" = some (some (.ref fpslo)))
    (lpslo : K.lookup fpslo = some ⟨ocpslo, odpslo, .func (PySem.W.fnOf "slots_below" "slots_below" (defArgs p_slo) (defBody p_slo) (defScope p_slo) .none kVpslo dcpslo pmpslo anpslo cdpslo ctpslo), slpslo⟩)
    (cpslo : PySem.W.codeIn K cdpslo "slots_below" = true)
    (kpslo : PySem.W.keepIn K (.ref fpslo) = true)
    (aask : PySem.W.nsIn K mainGlobals "_law_asked" = some (some (.ref fask)))
    (lask : K.lookup fask = some ⟨ocask, odask, .func (PySem.W.fnOf "_law_asked" "_law_asked" (defArgs s_ask) (defBody s_ask) (defScope s_ask) .none kVask dcask pmask anask (.ref Cask) ctask), slask⟩)
    (cask : PySem.W.codeIn K (.ref Cask) "_law_asked" = true)
    (kask : PySem.W.keepIn K (.ref fask) = true)
    (asiz : PySem.W.nsIn K mainGlobals "_law_sizes" = some (some (.ref fsiz)))
    (lsiz : K.lookup fsiz = some ⟨ocsiz, odsiz, .func (PySem.W.fnOf "_law_sizes" "_law_sizes" (defArgs s_siz) (defBody s_siz) (defScope s_siz) .none kVsiz dcsiz pmsiz ansiz (.ref Csiz) ctsiz), slsiz⟩)
    (csiz : PySem.W.codeIn K (.ref Csiz) "_law_sizes" = true)
    (ksiz : PySem.W.keepIn K (.ref fsiz) = true)
    (aref : PySem.W.nsIn K mainGlobals "_law_refusals" = some (some (.ref fref)))
    (lref : K.lookup fref = some ⟨ocref, odref, .func (PySem.W.fnOf "_law_refusals" "_law_refusals" (defArgs s_ref) (defBody s_ref) (defScope s_ref) .none kVref dcref pmref anref (.ref Cref) ctref), slref⟩)
    (cref : PySem.W.codeIn K (.ref Cref) "_law_refusals" = true)
    (kref : PySem.W.keepIn K (.ref fref) = true)
    (awa : PySem.W.nsIn K mainGlobals "_law_words_asked" = some (some (.ref fwa)))
    (lwa : K.lookup fwa = some ⟨ocwa, odwa, .func (PySem.W.fnOf "_law_words_asked" "_law_words_asked" (defArgs s_wa) (defBody s_wa) (defScope s_wa) .none kVwa dcwa pmwa anwa (.ref Cwa) ctwa), slwa⟩)
    (cwa : PySem.W.codeIn K (.ref Cwa) "_law_words_asked" = true)
    (kwa : PySem.W.keepIn K (.ref fwa) = true)
    (achl : PySem.W.nsIn K mainGlobals "check_lot" = some (some (.ref fchl)))
    (lchl : K.lookup fchl = some ⟨occhl, odchl, .func (PySem.W.fnOf "check_lot" "check_lot" (defArgs p_chl) (defBody p_chl) (defScope p_chl) (.ref Dchl) kVchl dcchl pmchl anchl cdchl ctchl), slchl⟩)
    (cchl : PySem.W.codeIn K cdchl "check_lot" = true)
    (kchl : PySem.W.keepIn K (.ref fchl) = true)
    (dchl : K.lookup Dchl = some ochl)
    (echl : ochl.data = .seq #[.int 6 tkchl] nchl)
    (amkl : PySem.W.nsIn K mainGlobals "make_lot" = some (some (.ref fmkl)))
    (lmkl : K.lookup fmkl = some ⟨ocmkl, odmkl, .func (PySem.W.fnOf "make_lot" "make_lot" (defArgs p_mkl) (defBody p_mkl) (defScope p_mkl) (.ref Dmkl) kVmkl dcmkl pmmkl anmkl cdmkl ctmkl), slmkl⟩)
    (cmkl : PySem.W.codeIn K cdmkl "make_lot" = true)
    (kmkl : PySem.W.keepIn K (.ref fmkl) = true)
    (dmkl : K.lookup Dmkl = some omkl)
    (emkl : omkl.data = .seq #[.int 6 tkmkl] nmkl)
    (gRefused : PySem.W.nsIn K mainGlobals "Refused" = some (some (.ref yARefused)))
    (gBadWord : PySem.W.nsIn K mainGlobals "BadWord" = some (some (.ref yABadWord)))
    (gBadLot : PySem.W.nsIn K mainGlobals "BadLot" = some (some (.ref yABadLot)))
    (gBadTerm : PySem.W.nsIn K mainGlobals "BadTerm" = some (some (.ref yABadTerm)))
    (gBadStep : PySem.W.nsIn K mainGlobals "BadStep" = some (some (.ref yABadStep)))
    (gBadShape : PySem.W.nsIn K mainGlobals "BadShape" = some (some (.ref yABadShape)))
    (gBadPlace : PySem.W.nsIn K mainGlobals "BadPlace" = some (some (.ref yABadPlace)))
    (gBadNumber : PySem.W.nsIn K mainGlobals "BadNumber" = some (some (.ref yABadNumber)))
    (gBadFilling : PySem.W.nsIn K mainGlobals "BadFilling" = some (some (.ref yABadFilling)))
    (gBadPlan : PySem.W.nsIn K mainGlobals "BadPlan" = some (some (.ref yABadPlan)))
    (gBadTarget : PySem.W.nsIn K mainGlobals "BadTarget" = some (some (.ref yABadTarget)))
    (gBadPaper : PySem.W.nsIn K mainGlobals "BadPaper" = some (some (.ref yABadPaper)))
    (gBadCall : PySem.W.nsIn K mainGlobals "BadCall" = some (some (.ref yABadCall)))
    (gNotAllowed : PySem.W.nsIn K mainGlobals "NotAllowed" = some (some (.ref yANotAllowed)))
    (gBadText : PySem.W.nsIn K mainGlobals "BadText" = some (some (.ref yABadText)))
    (gBadStack : PySem.W.nsIn K mainGlobals "BadStack" = some (some (.ref yABadStack)))
    (gTooMany : PySem.W.nsIn K mainGlobals "TooMany" = some (some (.ref yATooMany)))
    (qLETTERS : PySem.W.nsIn K mainGlobals "LETTERS" = some (some (.str alpha tLETTERS)))
    (qLETTERS_AND_DIGITS : PySem.W.nsIn K mainGlobals "LETTERS_AND_DIGITS" = some (some (.str alnum tLETTERS_AND_DIGITS)))
    (qALL_SLOTS : PySem.W.nsIn K mainGlobals "ALL_SLOTS" = some (some (.str abc tALL_SLOTS)))
    (qLONGEST_WORD : PySem.W.nsIn K mainGlobals "LONGEST_WORD" = some (some (.int 8 tLONGEST_WORD)))
    (zint : PySem.W.nsIn K mainGlobals "int" = some none)
    (zmax : PySem.W.nsIn K mainGlobals "max" = some none)
    (zlen : PySem.W.nsIn K mainGlobals "len" = some none)
    (zrange : PySem.W.nsIn K mainGlobals "range" = some none)
    (zisinstance : PySem.W.nsIn K mainGlobals "isinstance" = some none)
    (zstr : PySem.W.nsIn K mainGlobals "str" = some none)
    (zbool : PySem.W.nsIn K mainGlobals "bool" = some none)
    (zall : PySem.W.nsIn K mainGlobals "all" = some none)
    (zlist : PySem.W.nsIn K mainGlobals "list" = some none)
    (zrepr : PySem.W.nsIn K mainGlobals "repr" = some none)
    (zzip : PySem.W.nsIn K mainGlobals "zip" = some none)
    (ztuple : PySem.W.nsIn K mainGlobals "tuple" = some none)
    (zdict : PySem.W.nsIn K mainGlobals "dict" = some none)
    (zValueError : PySem.W.nsIn K mainGlobals "ValueError" = some none)
    (EBadWord : ErrK K (ErrA.mk yARefused yABadWord yABadLot yABadTerm yABadStep yABadShape yABadPlace yABadNumber yABadFilling yABadPlan yABadTarget yABadPaper yABadCall yANotAllowed yABadText yABadStack yATooMany) yABadWord "BadWord")
    (kBadWord : PySem.W.keepIn K (.ref yABadWord) = true)
    (xBadWord : PySem.W.excIn K yABadWord [.type "ValueError", .type "Exception", .type "BaseException", .type "object"] "ValueError.__new__" = true)
    (tBadWord : PySem.W.typeIn K (.ref yABadWord) = some (.type "type"))
    (EBadLot : ErrK K (ErrA.mk yARefused yABadWord yABadLot yABadTerm yABadStep yABadShape yABadPlace yABadNumber yABadFilling yABadPlan yABadTarget yABadPaper yABadCall yANotAllowed yABadText yABadStack yATooMany) yABadLot "BadLot")
    (kBadLot : PySem.W.keepIn K (.ref yABadLot) = true)
    (xBadLot : PySem.W.excIn K yABadLot [.type "ValueError", .type "Exception", .type "BaseException", .type "object"] "ValueError.__new__" = true)
    (tBadLot : PySem.W.typeIn K (.ref yABadLot) = some (.type "type")) :
    ∀ (fa : Addr), mg "law" = some (.ref fa) → ∀ (base : Heap) (s₁ : Shared) (H : Hp) (a : Addr) (ns : List Int), (∀ p ∈ [(Cask, Pask), (Csiz, Psiz), (Cref, Pref), (Cwa, Pwa)], TabB base mg p.1 p.2) → ([Pask, Psiz, Pref, Pwa] : List Addr).Nodup → Env0 P w K mg base callerA [] s₁ H →
      (∀ p ∈ [(Cask, Pask), (Csiz, Psiz), (Cref, Pref), (Cwa, Pwa)], H p.2 = some (.tbl #[])) → SqL K H a (ns.map V.int) → ns.length ≤ 63 → codeAny (model P w) callerA (.call (.ref fa) ⟨[.ref a], []⟩) (CR CX0 [] P w H s₁ (fun v _ => v = .bl true) E0) s₁ := all_mk (ea := (ErrA.mk yARefused yABadWord yABadLot yABadTerm yABadStep yABadShape yABadPlace yABadNumber yABadFilling yABadPlan yABadTarget yABadPaper yABadCall yANotAllowed yABadText yABadStack yATooMany)) X G amix lmix cmix kmix astore lstore cstore kstore aopen lopen copen kopen atake ltake ctake ktake apick lpick cpick kpick acount lcount ccount kcount aword lword cword kword abadw lbadw cbadw kbadw alot llot clot klot abadl lbadl cbadl kbadl abadz lbadz cbadz kbadz aletters lletters cletters kletters asame lsame csame ksame aisw lisw cisw kisw atold ltold ctold ktold asign lsign csign ksign ais lis cis kis ano lno cno kno adrawn ldrawn cdrawn kdrawn abadv lbadv cbadv kbadv adue ldue cdue kdue alaw llaw claw klaw apisw lpisw cpisw kpisw apchw lpchw cpchw kpchw apslo lpslo cpslo kpslo aask lask cask kask asiz lsiz csiz ksiz aref lref cref kref awa lwa cwa kwa achl lchl cchl kchl dchl echl amkl lmkl cmkl kmkl dmkl emkl gRefused gBadWord gBadLot gBadTerm gBadStep gBadShape gBadPlace gBadNumber gBadFilling gBadPlan gBadTarget gBadPaper gBadCall gNotAllowed gBadText gBadStack gTooMany qLETTERS qLETTERS_AND_DIGITS qALL_SLOTS qLONGEST_WORD zint zmax zlen zrange zisinstance zstr zbool zall zlist zrepr zzip ztuple zdict zValueError EBadWord kBadWord xBadWord tBadWord EBadLot kBadLot xBadLot tBadLot
end K0
namespace K0
open PySem PySem.Spec PyProof.Rows L2 Bs LamX
theorem walk {l : PySem.W.OpenLaw} {q : Program} {loose : List Str} {XP : (Str → Option Value) → Heap → Prop} {YP : World → Heap → Prop} {d : DefRec} {K : Params → PySem.W.Frag} (hn : l.most = some 63) (hdf : d.params.defaults = []) (hnm : d.name = "law") (hY : ∀ (w : World) (h : Heap), YP w h → (K w.params).In h)
    (F : ∀ (w : World) (mg : Str → Option Value) (h : Heap), YP w h → h.Ns mainGlobals mg → ∃ cs : List (Addr × Addr), (K w.params).In h ∧ (∀ p ∈ cs, h.get? p.2 = some { cls := .none, data := .fields #[] }) ∧ (∀ p ∈ cs, (K w.params).lookup p.2 = none) ∧ (∀ p ∈ cs, PySem.W.CodeHd h p.1 p.2) ∧
      ∀ (fa : Addr), mg "law" = some (.ref fa) → ∀ (base : Heap) (s₁ : Shared) (H : Hp) (a : Addr) (ns : List Int), (∀ p ∈ cs, TabB base mg p.1 p.2) → Env0 l.prog w (K w.params) mg base callerA [] s₁ H → (∀ p ∈ cs, H p.2 = some (.tbl #[])) → SqL (K w.params) H a (ns.map V.int) → ns.length ≤ 63 →
        codeAny (model l.prog w) callerA (.call (.ref fa) ⟨[.ref a], []⟩) (CR CX0 [] l.prog w H s₁ (fun v _ => v = .bl true) E0) s₁) : PySem.W.WalkO q loose XP YP l.row.toRowW d [] (fun f vs => PySem.call f vs) := by
  refine Att.attach_callB hn hdf fun w s₀ s₁ mg mb fa o pm cd doc a vs ns G Y ho hd hcd hmg hobj hints hlen hbits hg => ?_
  obtain ⟨cs, KX, hT, nT, C, run⟩ := F w mg _ Y G.T.g
  rw [hnm] at hmg
  exact law_end KX G.T.g G.T.b G.T.builtins G.T.nolimit hg hT nT C G.T.bmain hobj hints (Nat.le_trans hlen (by decide)) fun base H _ _ tb e0 ht hs => run fa hmg base s₁ H a ns tb e0 ht hs hlen
theorem fin {P : Program} {w : World} {K : PySem.W.Frag} {mg : Str → Option Value} {h : Heap} {cs : List (Addr × Addr)} (KX : K.In h)
    (main : ∀ (fa : Addr), mg "law" = some (.ref fa) → ∀ (base : Heap) (s₁ : Shared) (H : Hp) (a : Addr) (ns : List Int), (∀ p ∈ cs, TabB base mg p.1 p.2) → (cs.map (·.2)).Nodup → Env0 P w K mg base callerA [] s₁ H →
      (∀ p ∈ cs, H p.2 = some (.tbl #[])) → SqL K H a (ns.map V.int) → ns.length ≤ 63 → codeAny (model P w) callerA (.call (.ref fa) ⟨[.ref a], []⟩) (CR CX0 [] P w H s₁ (fun v _ => v = .bl true) E0) s₁)
    (hT : ∀ p ∈ cs, h.get? p.2 = some { cls := .none, data := .fields #[] }) (nT : ∀ p ∈ cs, K.lookup p.2 = none) (C : ∀ p ∈ cs, PySem.W.CodeHd h p.1 p.2) (nd : (cs.map (·.2)).Nodup) :
    ∃ cs : List (Addr × Addr), K.In h ∧ (∀ p ∈ cs, h.get? p.2 = some { cls := .none, data := .fields #[] }) ∧ (∀ p ∈ cs, K.lookup p.2 = none) ∧ (∀ p ∈ cs, PySem.W.CodeHd h p.1 p.2) ∧
      ∀ (fa : Addr), mg "law" = some (.ref fa) → ∀ (base : Heap) (s₁ : Shared) (H : Hp) (a : Addr) (ns : List Int), (∀ p ∈ cs, TabB base mg p.1 p.2) → Env0 P w K mg base callerA [] s₁ H → (∀ p ∈ cs, H p.2 = some (.tbl #[])) → SqL K H a (ns.map V.int) → ns.length ≤ 63 →
        codeAny (model P w) callerA (.call (.ref fa) ⟨[.ref a], []⟩) (CR CX0 [] P w H s₁ (fun v _ => v = .bl true) E0) s₁ :=
  ⟨cs, KX, hT, nT, C, fun fa hfa base s₁ H a ns tb e0 ht hs hl => main fa hfa base s₁ H a ns tb nd e0 ht hs hl⟩
end K0

open PySem PySem.W PyProof.Rows
set_option maxHeartbeats 0 in
theorem PySem.Challenge.cw_boundslots_k00_lots_of_letters_holds : PySem.Challenge.rw_boundslots_k00_lots_of_letters.Holds := by
  w_on; o_law; k_head; (case hw => w_witness2)
  k_fill
  refine K0.walk (l := PySem.Challenge.rw_boundslots_k00_lots_of_letters) rfl rfl rfl (fun w h Y => km_in_of Y) ?F
  case F =>
    intro w mg h Y G
    have KX := km_in_of Y
    have hT8 := km_tabs_of Y
    refine' K0.fin KX (K0.all_mk2 (P := PySem.Challenge.rw_boundslots_k00_lots_of_letters.prog) (w := w) (Pask := 420) (Psiz := 427) (Pref := 434) (Pwa := 441) KX G ?amix ?lmix ?cmix ?kmix ?astore ?lstore ?cstore ?kstore ?aopen ?lopen ?copen ?kopen ?atake ?ltake ?ctake ?ktake ?apick ?lpick ?cpick ?kpick ?acount ?lcount ?ccount ?kcount ?aword ?lword ?cword ?kword ?abadw ?lbadw ?cbadw ?kbadw ?alot ?llot ?clot ?klot ?abadl ?lbadl ?cbadl ?kbadl ?abadz ?lbadz ?cbadz ?kbadz ?aletters ?lletters ?cletters ?kletters ?asame ?lsame ?csame ?ksame ?aisw ?lisw ?cisw ?kisw ?atold ?ltold ?ctold ?ktold ?asign ?lsign ?csign ?ksign ?ais ?lis ?cis ?kis ?ano ?lno ?cno ?kno ?adrawn ?ldrawn ?cdrawn ?kdrawn ?abadv ?lbadv ?cbadv ?kbadv ?adue ?ldue ?cdue ?kdue ?alaw ?llaw ?claw ?klaw ?apisw ?lpisw ?cpisw ?kpisw ?apchw ?lpchw ?cpchw ?kpchw ?apslo ?lpslo ?cpslo ?kpslo ?aask ?lask ?cask ?kask ?asiz ?lsiz ?csiz ?ksiz ?aref ?lref ?cref ?kref ?awa ?lwa ?cwa ?kwa ?achl ?lchl ?cchl ?kchl ?dchl ?echl ?amkl ?lmkl ?cmkl ?kmkl ?dmkl ?emkl ?gRefused ?gBadWord ?gBadLot ?gBadTerm ?gBadStep ?gBadShape ?gBadPlace ?gBadNumber ?gBadFilling ?gBadPlan ?gBadTarget ?gBadPaper ?gBadCall ?gNotAllowed ?gBadText ?gBadStack ?gTooMany ?qLETTERS ?qLETTERS_AND_DIGITS ?qALL_SLOTS ?qLONGEST_WORD ?zint ?zmax ?zlen ?zrange ?zisinstance ?zstr ?zbool ?zall ?zlist ?zrepr ?zzip ?ztuple ?zdict ?zValueError ?EBadWord ?kBadWord ?xBadWord ?tBadWord ?EBadLot ?kBadLot ?xBadLot ?tBadLot) ?hT ?nT ?C ?nd
    case amix => k_is
    case lmix => k_is
    case cmix => k_is
    case kmix => k_is
    case astore => k_is
    case lstore => k_is
    case cstore => k_is
    case kstore => k_is
    case aopen => k_is
    case lopen => k_is
    case copen => k_is
    case kopen => k_is
    case atake => k_is
    case ltake => k_is
    case ctake => k_is
    case ktake => k_is
    case apick => k_is
    case lpick => k_is
    case cpick => k_is
    case kpick => k_is
    case acount => k_is
    case lcount => k_is
    case ccount => k_is
    case kcount => k_is
    case aword => k_is
    case lword => k_is
    case cword => k_is
    case kword => k_is
    case abadw => k_is
    case lbadw => k_is
    case cbadw => k_is
    case kbadw => k_is
    case alot => k_is
    case llot => k_is
    case clot => k_is
    case klot => k_is
    case abadl => k_is
    case lbadl => k_is
    case cbadl => k_is
    case kbadl => k_is
    case abadz => k_is
    case lbadz => k_is
    case cbadz => k_is
    case kbadz => k_is
    case aletters => k_is
    case lletters => k_is
    case cletters => k_is
    case kletters => k_is
    case asame => k_is
    case lsame => k_is
    case csame => k_is
    case ksame => k_is
    case aisw => k_is
    case lisw => k_is
    case cisw => k_is
    case kisw => k_is
    case atold => k_is
    case ltold => k_is
    case ctold => k_is
    case ktold => k_is
    case asign => k_is
    case lsign => k_is
    case csign => k_is
    case ksign => k_is
    case ais => k_is
    case lis => k_is
    case cis => k_is
    case kis => k_is
    case ano => k_is
    case lno => k_is
    case cno => k_is
    case kno => k_is
    case adrawn => k_is
    case ldrawn => k_is
    case cdrawn => k_is
    case kdrawn => k_is
    case abadv => k_is
    case lbadv => k_is
    case cbadv => k_is
    case kbadv => k_is
    case adue => k_is
    case ldue => k_is
    case cdue => k_is
    case kdue => k_is
    case alaw => k_is
    case llaw => k_is
    case claw => k_is
    case klaw => k_is
    case apisw => k_is
    case lpisw => k_is
    case cpisw => k_is
    case kpisw => k_is
    case apchw => k_is
    case lpchw => k_is
    case cpchw => k_is
    case kpchw => k_is
    case apslo => k_is
    case lpslo => k_is
    case cpslo => k_is
    case kpslo => k_is
    case aask => k_is
    case lask => k_is
    case cask => k_is
    case kask => k_is
    case asiz => k_is
    case lsiz => k_is
    case csiz => k_is
    case ksiz => k_is
    case aref => k_is
    case lref => k_is
    case cref => k_is
    case kref => k_is
    case awa => k_is
    case lwa => k_is
    case cwa => k_is
    case kwa => k_is
    case achl => k_is
    case lchl => k_is
    case cchl => k_is
    case kchl => k_is
    case dchl => k_is
    case echl => exact rfl
    case amkl => k_is
    case lmkl => k_is
    case cmkl => k_is
    case kmkl => k_is
    case dmkl => k_is
    case emkl => exact rfl
    case gRefused => k_is
    case gBadWord => k_is
    case gBadLot => k_is
    case gBadTerm => k_is
    case gBadStep => k_is
    case gBadShape => k_is
    case gBadPlace => k_is
    case gBadNumber => k_is
    case gBadFilling => k_is
    case gBadPlan => k_is
    case gBadTarget => k_is
    case gBadPaper => k_is
    case gBadCall => k_is
    case gNotAllowed => k_is
    case gBadText => k_is
    case gBadStack => k_is
    case gTooMany => k_is
    case qLETTERS => k_is
    case qLETTERS_AND_DIGITS => k_is
    case qALL_SLOTS => k_is
    case qLONGEST_WORD => k_is
    case zint => k_is
    case zmax => k_is
    case zlen => k_is
    case zrange => k_is
    case zisinstance => k_is
    case zstr => k_is
    case zbool => k_is
    case zall => k_is
    case zlist => k_is
    case zrepr => k_is
    case zzip => k_is
    case ztuple => k_is
    case zdict => k_is
    case zValueError => k_is
    case EBadWord => exact ⟨⟨by k_is, by k_is, by k_is, by k_is, by k_is, by k_is, by k_is, by k_is⟩, by first | kernel_rfl | rfl | k_is, by first | kernel_rfl | rfl | k_is, by first | kernel_rfl | rfl | k_is, by first | kernel_rfl | rfl | k_is, by first | kernel_rfl | rfl | k_is, by first | kernel_rfl | rfl | k_is, by first | kernel_rfl | rfl | k_is, by first | kernel_rfl | rfl | k_is, by first | kernel_rfl | rfl | k_is, by first | kernel_rfl | rfl | k_is, by first | kernel_rfl | rfl | k_is, by first | kernel_rfl | rfl | k_is, by first | kernel_rfl | rfl | k_is, by first | kernel_rfl | rfl | k_is, by first | kernel_rfl | rfl | k_is, by first | kernel_rfl | rfl | k_is, by first | kernel_rfl | rfl | k_is, by first | kernel_rfl | rfl | k_is, by decide⟩
    case kBadWord => k_is
    case xBadWord => first | kernel_rfl | rfl
    case tBadWord => k_is
    case EBadLot => exact ⟨⟨by k_is, by k_is, by k_is, by k_is, by k_is, by k_is, by k_is, by k_is⟩, by first | kernel_rfl | rfl | k_is, by first | kernel_rfl | rfl | k_is, by first | kernel_rfl | rfl | k_is, by first | kernel_rfl | rfl | k_is, by first | kernel_rfl | rfl | k_is, by first | kernel_rfl | rfl | k_is, by first | kernel_rfl | rfl | k_is, by first | kernel_rfl | rfl | k_is, by first | kernel_rfl | rfl | k_is, by first | kernel_rfl | rfl | k_is, by first | kernel_rfl | rfl | k_is, by first | kernel_rfl | rfl | k_is, by first | kernel_rfl | rfl | k_is, by first | kernel_rfl | rfl | k_is, by first | kernel_rfl | rfl | k_is, by first | kernel_rfl | rfl | k_is, by first | kernel_rfl | rfl | k_is, by first | kernel_rfl | rfl | k_is, by decide⟩
    case kBadLot => k_is
    case xBadLot => first | kernel_rfl | rfl
    case tBadLot => k_is
    case hT =>
      intro p hp
      simp only [List.mem_cons, List.not_mem_nil, or_false] at hp
      rcases hp with rfl | rfl | rfl | rfl <;> exact hT8 _ (by simp)
    case nT =>
      intro p hp
      simp only [List.mem_cons, List.not_mem_nil, or_false] at hp
      rcases hp with rfl | rfl | rfl | rfl <;> kernel_rfl
    case C =>
      intro p hp
      simp only [List.mem_cons, List.not_mem_nil, or_false] at hp
      rcases hp with rfl | rfl | rfl | rfl <;> exact codeHd_of_K KX (by kernel_rfl)
    case nd => decide
#print axioms PySem.Challenge.cw_boundslots_k00_lots_of_letters_holds


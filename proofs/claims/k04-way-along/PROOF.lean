import PyProof.Rows.All
import Wide.All
import OpenK.AllK
import Wide.FinOn
import HandS.ForMost
import HandS.IsInst
import HandS.SetKeys
import HandS.Deep
import HandS.More
import HandS.Wide
import HandS.Style
import HandS.Defaults
import HandS.Evl
import HandS.Rev
import KE.KItemsList
import PySem.Challenge.RW_pegrise_k04_way_along
set_option Elab.async false
set_option linter.all false
set_option maxRecDepth 100000
set_option maxHeartbeats 4000000
/-! PegU: readings that compute. -/
namespace U
open PySem PySem.Spec PyProof.Rows L2

/-! ### weaker readings -/
theorem pe_imp {X : Cx} {e : Expr} {t t' : TE} (h : PE X e t) (w : ∀ σ H Q, t' σ H Q → t σ H Q) : PE X e t' := ⟨fun pins s σ H Q I q => h.run pins s σ H Q I (w σ H Q q)⟩
theorem pt_imp {X : Cx} {e : Expr} {t t' : TT} (h : PT X e t) (w : ∀ σ H Q, t' σ H Q → t σ H Q) : PT X e t' := ⟨fun pins s σ H Q I q => h.run pins s σ H Q I (w σ H Q q)⟩
theorem op_imp {X : Cx} {f : Value → Value → Sem Value} {r r' : R2} (h : OpR X f r) (w : ∀ x y H Q, r' x y H Q → r x y H Q) : OpR X f r' := fun pins s σ H x y v u Q I rx ry q => h pins s σ H x y v u Q I rx ry (w x y H Q q)
theorem un_imp {X : Cx} {f : Value → Sem Value} {r r' : V → Hp → VK → Prop} (h : UnR X f r) (w : ∀ x H Q, r' x H Q → r x H Q) : UnR X f r' := fun pins s σ H x v Q I rx q => h pins s σ H x v Q I rx (w x H Q q)
theorem ix_imp {X : Cx} {r r' : R2} (h : IxR X r) (w : ∀ x y H Q, r' x y H Q → r x y H Q) : IxR X r' := fun value slice pins s σ H x y v u Q I rx ry q hs => h value slice pins s σ H x y v u Q I rx ry (w x y H Q q) hs
theorem call_imp {X : Cx} {f : Value} {r r' : List V → Hp → VK → Prop} (h : CallR X f r) (w : ∀ xs H Q, r' xs H Q → r xs H Q) : CallR X f r' := fun pins s σ H xs us Q I rx q => h pins s σ H xs us Q I rx (w xs H Q q)
theorem mt_imp {X : Cx} {id : String} {r r' : V → List V → Hp → VK → Prop} (h : MtR X id r) (w : ∀ x xs H Q, r' x xs H Q → r x xs H Q) : MtR X id r' := fun pins s σ H x xs v us Q I rx rxs q => h pins s σ H x xs v us Q I rx rxs (w x xs H Q q)
theorem sl_imp {X : Cx} {r r' : V → Option Int → Option Int → Hp → VK → Prop} (h : SlR X r) (w : ∀ x l u H Q, r' x l u H Q → r x l u H Q) : SlR X r' := fun pins s σ H x v vl vu lo hi sl Q I rx a b c q => h pins s σ H x v vl vu lo hi sl Q I rx a b c (w x lo hi H Q q)

/-! ### what is new, what is changed: the heap behind is a letter -/
def Chd (p : Addr) (H H' : Hp) : Prop := ∀ b o, b ≠ p → H b = some o → H' b = some o
abbrev New (H : Hp) (o : HO) (k : Addr → Hp → Prop) : Prop := ∀ (p : Addr) (H2 : Hp), H p = none → Same H H2 → H2 p = some o → k p H2
abbrev Chg (p : Addr) (H : Hp) (o : HO) (k : Hp → Prop) : Prop := ∀ (H2 : Hp), Chd p H H2 → H2 p = some o → k H2
theorem same_upd {H : Hp} {p : Addr} {o : HO} (h : H p = none) : Same H (upd H p o) := fun a u e => by
  rw [upd_ne (ne_of_none e h)]
  exact e
theorem chd_upd {H : Hp} {p : Addr} {o : HO} : Chd p H (upd H p o) := fun a u ne e => by
  rw [upd_ne ne]
  exact e
theorem New.at {H : Hp} {o : HO} {k : Addr → Hp → Prop} (h : New H o k) : ∀ p, H p = none → k p (upd H p o) := fun p hp => h p _ hp (same_upd hp) upd_same
theorem Chg.at {H : Hp} {p : Addr} {o : HO} {k : Hp → Prop} (h : Chg p H o k) : k (upd H p o) := h _ chd_upd upd_same

/-! ### slots -/
def uVar (i : Nat) : TE := fun σ H Q => match σ[i]? with
  | some (some v) => Q v H
  | _ => False
theorem var_imp {i : Nat} {σ : L2.St} {H : Hp} {Q : VK} (h : uVar i σ H Q) : tVar i σ H Q := by
  unfold uVar at h
  split at h
  · exact ⟨_, by assumption, h⟩
  · exact h.elim
theorem uv {X : Cx} (i : Nat) {x : Str} {pos : Pos} (hN : X.N[i]? = some x := by rfl) (hv : Vis X.env.scope x := by first | exact Or.inl rfl | exact Or.inr (Or.inl rfl) | exact Or.inr (Or.inr rfl)) (hd : (x == ("__debug__" : Str)) = false := by decide)
    (hcd : (x == ("__classdict__" : Str)) = false := by decide) : PE X (.Name x pos) (uVar i) := pe_imp (pe_var hN hv hd hcd) fun _ _ _ => var_imp

/-! ### two ints, two texts, two truths -/
def cII (g : Int → Int → V) : R2 := fun x y H Q => match x, y with
  | .int i, .int j => Q (g i j) H
  | _, _ => False
def cIIc (C : Int → Int → Prop) (g : Int → Int → V) : R2 := fun x y H Q => match x, y with
  | .int i, .int j => C i j ∧ Q (g i j) H
  | _, _ => False
/-- a bound on the second one alone -/
def cIJ (C : Int → Prop) (g : Int → Int → V) : R2 := fun x y H Q => match x, y with
  | .int i, .int j => C j ∧ Q (g i j) H
  | _, _ => False
def cSS (g : Str → Str → V) : R2 := fun x y H Q => match x, y with
  | .str i, .str j => Q (g i j) H
  | _, _ => False
def cBB (g : Bool → Bool → V) : R2 := fun x y H Q => match x, y with
  | .bl i, .bl j => Q (g i j) H
  | _, _ => False
theorem cII_ok {X : Cx} {f : Value → Value → Sem Value} {g : Int → Int → V} (h : OpR X f (rI0 g)) : OpR X f (cII g) := op_imp h fun x y H Q q => by
  cases x <;> cases y <;> first | exact ⟨_, _, rfl, rfl, q⟩ | exact False.elim q
theorem cIIc_ok {X : Cx} {f : Value → Value → Sem Value} {C : Int → Int → Prop} {g : Int → Int → V} (h : OpR X f (rI C g)) : OpR X f (cIIc C g) := op_imp h fun x y H Q q => by
  cases x <;> cases y <;> first | exact ⟨_, _, rfl, rfl, q⟩ | exact False.elim q
def kAdd : R2 := fun x y H Q => match x, y with
  | .int i, .int j => Q (.int (i + j)) H
  | _, _ => False
def kSub : R2 := fun x y H Q => match x, y with
  | .int i, .int j => Q (.int (i - j)) H
  | _, _ => False
def kMul : R2 := fun x y H Q => match x, y with
  | .int i, .int j => CMul i j ∧ Q (.int (i * j)) H
  | _, _ => False
def kMulW : R2 := fun x y H Q => match x, y with
  | .int i, .int j => CMulW i j ∧ Q (.int (i * j)) H
  | _, _ => False
def kMod : R2 := fun x y H Q => match x, y with
  | .int i, .int j => (0 < j) ∧ Q (.int (i % j)) H
  | _, _ => False
def kDiv : R2 := fun x y H Q => match x, y with
  | .int i, .int j => (0 < j ∧ j < 1073741824) ∧ Q (.int (i / j)) H
  | _, _ => False
def kPow : R2 := fun x y H Q => match x, y with
  | .int i, .int j => CPow i j ∧ Q (.int (i ^ j.toNat)) H
  | _, _ => False
def kLt : R2 := fun x y H Q => match x, y with
  | .int i, .int j => Q (.bl (decide (i < j))) H
  | _, _ => False
def kLe : R2 := fun x y H Q => match x, y with
  | .int i, .int j => Q (.bl (decide (i ≤ j))) H
  | _, _ => False
def kGt : R2 := fun x y H Q => match x, y with
  | .int i, .int j => Q (.bl (decide (j < i))) H
  | _, _ => False
def kGe : R2 := fun x y H Q => match x, y with
  | .int i, .int j => Q (.bl (decide (j ≤ i))) H
  | _, _ => False
def kEqI : R2 := fun x y H Q => match x, y with
  | .int i, .int j => Q (.bl (decide (i = j))) H
  | _, _ => False
def kNeI : R2 := fun x y H Q => match x, y with
  | .int i, .int j => Q (.bl (!decide (i = j))) H
  | _, _ => False
def kEqS : R2 := fun x y H Q => match x, y with
  | .str i, .str j => Q (.bl (decide (i = j))) H
  | _, _ => False
def kNeS : R2 := fun x y H Q => match x, y with
  | .str i, .str j => Q (.bl (!decide (i = j))) H
  | _, _ => False
def kEqB : R2 := fun x y H Q => match x, y with
  | .bl i, .bl j => Q (.bl (decide (i = j))) H
  | _, _ => False
def kNeB : R2 := fun x y H Q => match x, y with
  | .bl i, .bl j => Q (.bl (!decide (i = j))) H
  | _, _ => False
def kLtS : R2 := fun x y H Q => match x, y with
  | .str i, .str j => Q (.bl (decide (i.cps.toList < j.cps.toList))) H
  | _, _ => False
theorem cIJ_ok {X : Cx} {f : Value → Value → Sem Value} {C : Int → Int → Prop} {C' : Int → Prop} {g : Int → Int → V} (h : OpR X f (rI C g)) (w : ∀ i j, C' j → C i j) : OpR X f (cIJ C' g) := op_imp h fun x y H Q q => by
  cases x <;> cases y <;> first | exact ⟨_, _, rfl, rfl, w _ _ q.1, q.2⟩ | exact False.elim q
section
variable {X : Cx}
theorem o_add : OpR X (binaryOp .Add) kAdd := op_imp op_add fun x y H Q q => by
  cases x <;> cases y <;> first | exact ⟨_, _, rfl, rfl, q⟩ | exact False.elim q
theorem o_sub : OpR X (binaryOp .Sub) kSub := op_imp op_sub fun x y H Q q => by
  cases x <;> cases y <;> first | exact ⟨_, _, rfl, rfl, q⟩ | exact False.elim q
theorem o_mul : OpR X (binaryOp .Mult) kMul := op_imp op_mul fun x y H Q q => by
  cases x <;> cases y <;> first | exact ⟨_, _, rfl, rfl, q⟩ | exact False.elim q
theorem o_mulW : OpR X (binaryOp .Mult) kMulW := op_imp op_mulW fun x y H Q q => by
  cases x <;> cases y <;> first | exact ⟨_, _, rfl, rfl, q⟩ | exact False.elim q
theorem o_mod : OpR X (binaryOp .Mod) kMod := op_imp op_mod fun x y H Q q => by
  cases x <;> cases y <;> first | exact ⟨_, _, rfl, rfl, q⟩ | exact False.elim q
theorem o_div : OpR X (binaryOp .FloorDiv) kDiv := op_imp op_fdiv fun x y H Q q => by
  cases x <;> cases y <;> first | exact ⟨_, _, rfl, rfl, q⟩ | exact False.elim q
def kDivW : R2 := fun x y H Q => match x, y with
  | .int i, .int j => CDivW i j ∧ Q (.int (i / j)) H
  | _, _ => False
theorem o_divW : OpR X (binaryOp .FloorDiv) kDivW := op_imp op_fdivW fun x y H Q q => by
  cases x <;> cases y <;> first | exact ⟨_, _, rfl, rfl, q⟩ | exact False.elim q
theorem o_pow : OpR X (binaryOp .Pow) kPow := op_imp op_pow fun x y H Q q => by
  cases x <;> cases y <;> first | exact ⟨_, _, rfl, rfl, q⟩ | exact False.elim q
theorem o_lt : OpR X (compareOp .Lt) kLt := op_imp op_lt fun x y H Q q => by
  cases x <;> cases y <;> first | exact ⟨_, _, rfl, rfl, q⟩ | exact False.elim q
theorem o_le : OpR X (compareOp .LtE) kLe := op_imp op_le fun x y H Q q => by
  cases x <;> cases y <;> first | exact ⟨_, _, rfl, rfl, q⟩ | exact False.elim q
theorem o_gt : OpR X (compareOp .Gt) kGt := op_imp op_gt fun x y H Q q => by
  cases x <;> cases y <;> first | exact ⟨_, _, rfl, rfl, q⟩ | exact False.elim q
theorem o_ge : OpR X (compareOp .GtE) kGe := op_imp op_ge fun x y H Q q => by
  cases x <;> cases y <;> first | exact ⟨_, _, rfl, rfl, q⟩ | exact False.elim q
theorem o_eqI : OpR X (compareOp .Eq) kEqI := op_imp op_eq fun x y H Q q => by
  cases x <;> cases y <;> first
    | (refine ⟨rfl, ?_⟩; rw [dec_int, Bool.beq_eq_decide_eq]; exact q)
    | exact False.elim q
theorem o_neI : OpR X (compareOp .NotEq) kNeI := op_imp op_ne fun x y H Q q => by
  cases x <;> cases y <;> first
    | (refine ⟨rfl, ?_⟩; rw [dec_int, Bool.beq_eq_decide_eq]; exact q)
    | exact False.elim q
theorem o_eqS : OpR X (compareOp .Eq) kEqS := op_imp op_eq fun x y H Q q => by
  cases x <;> cases y <;> first
    | (refine ⟨rfl, ?_⟩; rw [dec_str, Bool.beq_eq_decide_eq]; exact q)
    | exact False.elim q
theorem o_neS : OpR X (compareOp .NotEq) kNeS := op_imp op_ne fun x y H Q q => by
  cases x <;> cases y <;> first
    | (refine ⟨rfl, ?_⟩; rw [dec_str, Bool.beq_eq_decide_eq]; exact q)
    | exact False.elim q
theorem o_eqB : OpR X (compareOp .Eq) kEqB := op_imp op_eq fun x y H Q q => by
  cases x <;> cases y <;> first
    | (refine ⟨rfl, ?_⟩; rw [dec_bl, Bool.beq_eq_decide_eq]; exact q)
    | exact False.elim q
theorem o_neB : OpR X (compareOp .NotEq) kNeB := op_imp op_ne fun x y H Q q => by
  cases x <;> cases y <;> first
    | (refine ⟨rfl, ?_⟩; rw [dec_bl, Bool.beq_eq_decide_eq]; exact q)
    | exact False.elim q
theorem o_ltS : OpR X (compareOp .Lt) kLtS := op_imp op_lt_str fun x y H Q q => by
  cases x <;> cases y <;> first | exact ⟨_, _, rfl, rfl, q⟩ | exact False.elim q
def cAddS : R2 := fun x y H Q => match x, y with
  | .str i, .str j => i.length + j.length ≤ sizeLine ∧ Q (.str (i ++ j)) H
  | _, _ => False
theorem o_addS : OpR X (binaryOp .Add) cAddS := op_imp op_add_str fun x y H Q q => by
  cases x <;> cases y <;> first | exact ⟨_, _, rfl, rfl, q⟩ | exact False.elim q
def cNon (b : Bool) : R2 := fun x y H Q => match y with
  | .non => Q (.bl (match x with | .non => b | _ => !b)) H
  | _ => False
theorem o_isN : OpR X (compareOp .Is) (cNon true) := op_imp op_isN fun x y H Q q => by
  cases y <;> first
    | (refine ⟨rfl, ?_⟩; cases x <;> exact q)
    | exact False.elim q
theorem o_notN : OpR X (compareOp .IsNot) (cNon false) := op_imp op_notN fun x y H Q q => by
  cases y <;> first
    | (refine ⟨rfl, ?_⟩; cases x <;> exact q)
    | exact False.elim q
/-- one sign in a text -/
def cSign (b : Bool) : R2 := fun x y H Q => match x, y with
  | .str i, .str z => ∃ c, i = ⟨#[c]⟩ ∧ Q (.bl (if b then decide (c ∈ z.cps.toList) else !decide (c ∈ z.cps.toList))) H
  | _, _ => False
theorem o_inSign : OpR X (compareOp .In) (cSign true) := op_imp op_in_sign fun x y H Q q => by
  cases x <;> cases y <;> first
    | (obtain ⟨c, e, q⟩ := q; subst e; exact ⟨_, _, rfl, rfl, q⟩)
    | exact False.elim q
theorem o_notInSign : OpR X (compareOp .NotIn) (cSign false) := op_imp op_notIn_sign fun x y H Q q => by
  cases x <;> cases y <;> first
    | (obtain ⟨c, e, q⟩ := q; subst e; exact ⟨_, _, rfl, rfl, q⟩)
    | exact False.elim q
def cI (g : Int → V) : V → Hp → VK → Prop := fun x H Q => match x with
  | .int i => Q (g i) H
  | _ => False
def kNeg : V → Hp → VK → Prop := fun x H Q => match x with
  | .int i => Q (.int (-i)) H
  | _ => False
theorem n_neg : UnR X (unaryOp .USub) kNeg := un_imp un_neg fun x H Q q => by
  cases x <;> first | exact ⟨_, rfl, q⟩ | exact False.elim q

/-! ### subscripts -/
def cIxL (K : PySem.W.Frag) : R2 := fun x y H Q => match x, y with
  | .ref p, .int i => ∃ xs v, SqL K H p xs ∧ atI xs i = some v ∧ Q v H
  | _, _ => False
def cIxT (K : PySem.W.Frag) : R2 := fun x y H Q => match x, y with
  | .ref p, .int i => ∃ xs v, SqT K H p xs ∧ atI xs i = some v ∧ Q v H
  | _, _ => False
def cIxS : R2 := fun x y H Q => match x, y with
  | .str z, .int i => ∃ c, z.length ≤ sizeLine ∧ atI z.cps.toList i = some c ∧ Q (.str ⟨#[c]⟩) H
  | _, _ => False
theorem x_list : IxR X (cIxL X.K) := ix_imp ix_list fun x y H Q q => by
  cases x <;> cases y <;> first
    | (obtain ⟨xs, v, a, b, q⟩ := q; exact ⟨_, _, _, _, rfl, rfl, a, b, q⟩)
    | exact False.elim q
theorem x_tup : IxR X (cIxT X.K) := ix_imp ix_tup fun x y H Q q => by
  cases x <;> cases y <;> first
    | (obtain ⟨xs, v, a, b, q⟩ := q; exact ⟨_, _, _, _, rfl, rfl, a, b, q⟩)
    | exact False.elim q
theorem x_str : IxR X cIxS := ix_imp ix_str fun x y H Q q => by
  cases x <;> cases y <;> first
    | (obtain ⟨c, a, b, q⟩ := q; exact ⟨_, _, _, rfl, rfl, a, b, q⟩)
    | exact False.elim q
theorem plainIx {b : Expr} (h : ∀ o i, subscripted b false o i = operate [o, i] (getItem o i) := by intro _ _; rfl) : PlainIx b := h
/-- a dict's item -/
def uDGet (td ty : TE) : TE := fun σ H Q => td σ H fun x H1 => ty σ H1 fun y H2 => match x with
  | .ref a => ∃ v, DGet H2 a y (some v) ∧ Q v H2
  | _ => False
theorem u_dget {o i : Expr} {td ty : TE} {pos : Pos} (hu : X.A.units + 1 < cLine) (ho : PE X o td) (hi : PE X i ty) (hs : NoSl i := by intro _ _; rfl) : PE X (.Subscript o i pos) (uDGet td ty) := by
  refine ⟨fun pins s σ H Q I h => ?_⟩
  refine subD_of PySem.F.slot_dict_getitem.lookup hs (thn (ho.run pins s σ H _ I h) fun u s1 ⟨x, H1, I1, rx, q1⟩ => thn (hi.run pins s1 σ H1 _ I1 q1) fun iv s2 ⟨y, H2, I2, ry, q2⟩ => ?_)
  cases x with
  | ref a =>
    obtain ⟨v, g, q2⟩ := q2
    obtain rfl : u = Value.ref a := rx
    exact ⟨dict_typeIs I2 g, d_getItem hu I2 g ry fun w' s3 I3 rw' => ⟨v, H2, I3, rw', q2⟩⟩
  | _ => exact False.elim q2
/-! ### comparisons -/
theorem c_op {a b : Expr} {op : CmpOp} {r : R2} {ta tb : TE} (ho : OpR X (compareOp op) r) (ha : PE X a ta) (hb : PE X b tb) : PC X op a b (tOp r ta tb) :=
  ⟨fun pins s σ H Q I h => binT ha hb I h fun v u s2 x y H2 I2 rx ry q => ho pins s2 σ H2 x y v u Q I2 rx ry q⟩
/-- a key in a dict -/
def uDIn (b : Bool) (ty td : TE) : TE := fun σ H Q => ty σ H fun y H1 => td σ H1 fun x H2 => match x with
  | .ref a => ∃ o, DGet H2 a y o ∧ Q (.bl (if b then o.isSome else !o.isSome)) H2
  | _ => False
theorem c_din {o i : Expr} {td ty : TE} (hu : X.A.units + 1 < cLine) (hi : PE X i ty) (ho : PE X o td) : PC X .In i o (uDIn true ty td) := by
  refine ⟨fun pins s σ H Q I h => ?_⟩
  refine thn (hi.run pins s σ H _ I h) fun iv s1 ⟨y, H1, I1, ry, q1⟩ => thn (ho.run pins s1 σ H1 _ I1 q1) fun u s2 ⟨x, H2, I2, rx, q2⟩ => ?_
  cases x with
  | ref a =>
    obtain ⟨o, g, q2⟩ := q2
    obtain rfl : u = Value.ref a := rx
    exact d_in hu I2 g ry fun s3 I3 => ⟨.bl o.isSome, H2, I3, rfl, q2⟩
  | _ => exact False.elim q2
theorem c_dnotin {o i : Expr} {td ty : TE} (hu : X.A.units + 1 < cLine) (hi : PE X i ty) (ho : PE X o td) : PC X .NotIn i o (uDIn false ty td) := by
  refine ⟨fun pins s σ H Q I h => ?_⟩
  refine thn (hi.run pins s σ H _ I h) fun iv s1 ⟨y, H1, I1, ry, q1⟩ => thn (ho.run pins s1 σ H1 _ I1 q1) fun u s2 ⟨x, H2, I2, rx, q2⟩ => ?_
  cases x with
  | ref a =>
    obtain ⟨o, g, q2⟩ := q2
    obtain rfl : u = Value.ref a := rx
    exact d_notIn hu I2 g ry fun s3 I3 => ⟨.bl (!o.isSome), H2, I3, rfl, q2⟩
  | _ => exact False.elim q2
/-- as a value -/
theorem e_cmp {a b : Expr} {op : CmpOp} {t : TE} {pos : Pos} (h : PC X op a b t) (hm : behindInMarks op b = false := by first | exact nobehind _ (by decide) (by decide) | rfl) : PE X (.Compare a [op] [b] pos) t := pe_cmp h hm

/-! ### tests -/
structure Br (b : Bool) (A B : Prop) : Prop where
  tt : b = true → A
  ff : b = false → B
theorem br_t {A B : Prop} (h : A) : Br true A B := ⟨fun _ => h, fun z => nomatch z⟩
theorem br_f {A B : Prop} (h : B) : Br false A B := ⟨(fun z => nomatch z), fun _ => h⟩
/-- the answer is known -/
theorem br_tt {b : Bool} {A B : Prop} (e : b = true) (h : A) : Br b A B := by subst e; exact br_t h
theorem br_ff {b : Bool} {A B : Prop} (e : b = false) (h : B) : Br b A B := by subst e; exact br_f h
def uT (t : TE) : TT := fun σ H Q => t σ H fun x H1 => match x with
  | .bl k => Q k H1
  | _ => False
/-- an expression with a truth for a value, as a test: any one but a comparison, and, or, not -/
theorem t_val {e : Expr} {t : TE} (h : PE X e t) (he : ∀ whole, isTrue e X.env whole = (do let v ← whole; standAt e.pos; holding [v] (truthy v)) := by intro _; rfl) : PT X e (uT t) := by
  refine ⟨fun pins s σ H Q I hw => ?_⟩
  refine isTrue_plain (thn (h.run pins s σ H _ I hw) fun v s1 ⟨x, H1, I1, r1, q1⟩ => ?_) (he _)
  cases x with
  | bl k =>
    cases r1
    exact wpAny_truthy_bool ⟨H1, I1, q1⟩
  | _ => exact False.elim q1
/-- a comparison as a test -/
theorem t_cmp {a b : Expr} {op : CmpOp} {t : TE} {pos : Pos} (h : PC X op a b t) (h1 : behindInMarks op b = false := by first | exact nobehind _ (by decide) (by decide) | rfl) : PT X (.Compare a [op] [b] pos) (uT t) := by
  refine ⟨fun pins s σ H Q I hw => ?_⟩
  refine wpAny_isTrue_Compare1 (thn (h.run pins s σ H _ I hw) fun v s1 h1 => thn h1 fun u s2 h2 => thn h2 fun c s3 ⟨x, H1, I1, r1, q1⟩ => ?_) h1
  cases x with
  | bl k =>
    cases r1
    exact wpAny_truthy_bool ⟨H1, I1, q1⟩
  | _ => exact False.elim q1
def uAnd (t u : TT) : TT := fun σ H Q => t σ H fun c H1 => Br c (u σ H1 Q) (Q false H1)
def uOr (t u : TT) : TT := fun σ H Q => t σ H fun c H1 => Br c (Q true H1) (u σ H1 Q)
def uNot (t : TT) : TT := fun σ H Q => t σ H fun c H1 => Q (!c) H1
section
variable {a b : Expr} {rest : List Expr} {tA tB' : TT} {ta tb : TE} {pos : Pos}
theorem w_and (ha : PT X a tA) (hb : PW X (.BoolOp .And (b :: rest) pos) tB') : PW X (.BoolOp .And (a :: b :: rest) pos) (uAnd tA tB') := by
  refine ⟨fun wh pins s σ H Q I h => ?_⟩
  refine isTrue_and (thn (ha.run pins s σ H _ I h) fun c s1 ⟨H1, I1, q1⟩ => ?_)
  cases c with
  | true => exact hb.run wh pins s1 σ H1 Q I1 (q1.tt rfl)
  | false => exact ⟨H1, I1, q1.ff rfl⟩
theorem w_or (ha : PT X a tA) (hb : PW X (.BoolOp .Or (b :: rest) pos) tB') : PW X (.BoolOp .Or (a :: b :: rest) pos) (uOr tA tB') := by
  refine ⟨fun wh pins s σ H Q I h => ?_⟩
  refine isTrue_or (thn (ha.run pins s σ H _ I h) fun c s1 ⟨H1, I1, q1⟩ => ?_)
  cases c with
  | true => exact ⟨H1, I1, q1.tt rfl⟩
  | false => exact hb.run wh pins s1 σ H1 Q I1 (q1.ff rfl)
theorem t_not (ha : PT X a tA) : PT X (.UnaryOp .Not a pos) (uNot tA) := pt_not ha
def uAndV (ta tb : TE) : TE := fun σ H Q => ta σ H fun x H1 => match x with
  | .bl c => Br c (tb σ H1 Q) (Q (.bl false) H1)
  | _ => False
def uOrV (ta tb : TE) : TE := fun σ H Q => ta σ H fun x H1 => match x with
  | .bl c => Br c (Q (.bl true) H1) (tb σ H1 Q)
  | _ => False
def uNotV (ta : TE) : TE := fun σ H Q => ta σ H fun x H1 => match x with
  | .bl c => Q (.bl (!c)) H1
  | _ => False
theorem v_and (ha : PE X a ta) (hb : PE X (.BoolOp .And (b :: rest) pos) tb) : PE X (.BoolOp .And (a :: b :: rest) pos) (uAndV ta tb) := by
  refine ⟨fun pins s σ H Q I h => ?_⟩
  refine BoolOp_and (thn (ha.run pins s σ H _ I h) fun v s1 ⟨x, H1, I1, r1, q1⟩ => ?_)
  cases x with
  | bl c =>
    cases r1
    refine wpAny_truthy_bool ?_
    cases c with
    | true => exact hb.run pins s1 σ H1 Q I1 (q1.tt rfl)
    | false => exact ⟨.bl false, H1, I1, rfl, q1.ff rfl⟩
  | _ => exact False.elim q1
theorem v_or (ha : PE X a ta) (hb : PE X (.BoolOp .Or (b :: rest) pos) tb) : PE X (.BoolOp .Or (a :: b :: rest) pos) (uOrV ta tb) := by
  refine ⟨fun pins s σ H Q I h => ?_⟩
  refine BoolOp_or (thn (ha.run pins s σ H _ I h) fun v s1 ⟨x, H1, I1, r1, q1⟩ => ?_)
  cases x with
  | bl c =>
    cases r1
    refine wpAny_truthy_bool ?_
    cases c with
    | false => exact hb.run pins s1 σ H1 Q I1 (q1.ff rfl)
    | true => exact ⟨.bl true, H1, I1, rfl, q1.tt rfl⟩
  | _ => exact False.elim q1
theorem v_not (ha : PE X a ta) : PE X (.UnaryOp .Not a pos) (uNotV ta) := by
  refine ⟨fun pins s σ H Q I h => ?_⟩
  refine UnaryOp_ (thn (ha.run pins s σ H _ I h) fun v s1 ⟨x, H1, I1, r1, q1⟩ => ?_)
  cases x with
  | bl c =>
    cases r1
    exact not_of (wpAny_truthy_bool ⟨.bl (!c), H1, I1, rfl, q1⟩)
  | _ => exact False.elim q1
def uIf (t : TT) (ta tb : TE) : TE := fun σ H Q => t σ H fun c H1 => Br c (ta σ H1 Q) (tb σ H1 Q)
theorem v_if {c : Expr} (hc : PT X c tA) (ha : PE X a ta) (hb : PE X b tb) : PE X (.IfExp c a b pos) (uIf tA ta tb) := by
  refine ⟨fun pins s σ H Q I h => ?_⟩
  refine wpAny_IfExp (thn (hc.run pins s σ H _ I h) fun d s1 ⟨H1, I1, q1⟩ => ?_)
  cases d with
  | true => exact ha.run pins s1 σ H1 Q I1 (q1.tt rfl)
  | false => exact hb.run pins s1 σ H1 Q I1 (q1.ff rfl)
def uIfS (c : TT) (t u : TS) : TS := fun D σ H => c σ H fun b H1 => Br b (t D σ H1) (u D σ H1)
theorem s_if {c : Expr} {sa sb : List Stmt} {tc : TT} {t u : TS} (hc : PT X c tc) (ha : PSs X sa t) (hb : PSs X sb u) : PS X (.If c sa sb pos) (uIfS tc t u) := by
  refine ⟨fun pins s σ H D I h => ?_⟩
  refine wpAny_If (thn (hc.run pins s σ H _ I h) fun d s1 ⟨H1, I1, q1⟩ => ?_)
  cases d with
  | true => exact ha.run pins s1 σ H1 D I1 (q1.tt rfl)
  | false => exact hb.run pins s1 σ H1 D I1 (q1.ff rfl)
end

/-! ### readings closed upward -/
def upE (t : TE) : TE := fun σ H R => ∃ S : VK, t σ H S ∧ ∀ v H1, S v H1 → R v H1
def upA (t : TA) : TA := fun σ H R => ∃ S : List V → Hp → Prop, t σ H S ∧ ∀ v H1, S v H1 → R v H1
theorem pe_up {e : Expr} {t : TE} (h : PE X e t) : PE X e (upE t) := ⟨fun pins s σ H Q I ⟨S, q, w⟩ => thn (h.run pins s σ H S I q) fun u s1 ⟨v, H1, I1, r1, q1⟩ => ⟨v, H1, I1, r1, w v H1 q1⟩⟩
theorem pa_up {es : List Expr} {t : TA} (h : PA X es t) : PA X es (upA t) := ⟨fun pos pins s σ H Q I ⟨S, q, w⟩ => thn (h.run pos pins s σ H S I q) fun u s1 ⟨v, H1, I1, r1, q1⟩ => ⟨v, H1, I1, r1, w v H1 q1⟩⟩
theorem ps_imp {st : Stmt} {t t' : TS} (h : PS X st t) (w : ∀ D σ H, t' D σ H → t D σ H) : PS X st t' := ⟨fun pins s σ H D I q => h.run pins s σ H D I (w D σ H q)⟩
theorem upE.of {t : TE} {σ : L2.St} {H : Hp} {S R : VK} (q : t σ H S) (w : ∀ v H1, S v H1 → R v H1) : upE t σ H R := ⟨S, q, w⟩

/-! ### displays -/
def uTup (t : TA) : TE := fun σ H Q => t σ H fun xs H1 => xs.length ≤ sizeLine ∧ New H1 (.tup xs) fun p H2 => Q (.ref p) H2
def uLst (t : TA) : TE := fun σ H Q => t σ H fun xs H1 => xs.length ≤ sizeLine ∧ New H1 (.lst xs) fun p H2 => Q (.ref p) H2
theorem e_tup {es : List Expr} {t : TA} {x1} {pos : Pos} (h : PA X es t) : PE X (.Tuple es x1 pos) (uTup t) := pe_imp (pe_tup (pa_up h)) fun σ H Q q => ⟨_, q, fun xs H1 k => ⟨k.1, New.at k.2⟩⟩
theorem e_lst {es : List Expr} {t : TA} {pos : Pos} (h : PA X es t) : PE X (.List es pos) (uLst t) := pe_imp (pe_lst (pa_up h)) fun σ H Q q => ⟨_, q, fun xs H1 k => ⟨k.1, New.at k.2⟩⟩
def uDNew : TE := fun _ H Q => New H (.dK []) fun p H2 => Q (.ref p) H2
theorem e_dnew {pos : Pos} : PE X (.Dict [] [] pos) uDNew := pe_imp pe_dnewK fun σ H Q q => New.at q
/-- a dict of one pair, its key a text or a number -/
def uDisp1 (tk tv : TE) : TE := fun σ H Q => New H (.dK []) fun p H1 => tk σ H1 fun k H2 => tv σ H2 fun v H3 => ∃ key : Key, k = kV key ∧ H3 p = some (.dK []) ∧ Chg p H3 (.dK [(key, v)]) fun H4 => Q (.ref p) H4
theorem e_disp1 {k v : Expr} {tk tv : TE} {pos : Pos} (hk : PE X k tk) (hv : PE X v tv) : PE X (.Dict [some k] [v] pos) (uDisp1 tk tv) :=
  pe_imp (pe_disp (pps_cons (pe_up hk) (pe_up hv) pps_nil) (by rfl) (by rfl) (fun z => by cases z) (show 1 ≤ 15 by decide)) fun σ H Q q p hp =>
    ⟨_, q p _ hp (same_upd hp) upd_same, fun kv H2 q2 => ⟨_, q2, fun vv H3 q3 => by
      obtain ⟨key, e1, e2, q4⟩ := q3
      exact ⟨e2, [(key, vv)], by rw [e1]; rfl, show 1 ≤ 15 by decide, q4.at⟩⟩⟩

/-! ### dicts changed -/
def uDPut (td ty tv : TE) : TS := fun D σ H => tv σ H fun v H1 => td σ H1 fun x H2 => ty σ H2 fun y H3 => match x with
  | .ref a => ∃ kvs k, H3 a = some (.dK kvs) ∧ y = kV k ∧ kvs.length < sizeLine ∧ Chg a H3 (.dK (putK kvs k v)) fun H4 => D.nx σ H4
  | _ => False
theorem s_dput {o i value : Expr} {td ty tv : TE} {pos pos' : Pos} (hu : X.A.units + 1 < cLine) (ho : PE X o td) (hi : PE X i ty) (hv : PE X value tv) (hs : swapsWith value (some (.Subscript o i pos')) pos.line X.env = pure false) : PS X (.Assign [.Subscript o i pos'] value pos) (uDPut td ty tv) :=
  ps_imp (ps_dput hu (pe_up ho) (pe_up hi) (pe_up hv) hs) fun D σ H q => ⟨_, q, fun v H1 q1 => ⟨_, q1, fun x H2 q2 => ⟨_, q2, fun y H3 q3 => by
    cases x with
    | ref a =>
      obtain ⟨kvs, k, h1, h2, h3, q4⟩ := q3
      subst h2
      exact ⟨a, _, rfl, DPut.k h1 h3, q4.at⟩
    | _ => exact False.elim q3⟩⟩⟩
def uDSetd (td ty tx : TE) : TE := fun σ H Q => td σ H fun x H1 => match x with
  | .ref a => (∃ kvs, H1 a = some (.dK kvs)) ∧ ty σ H1 fun y H2 => tx σ H2 fun z H3 => ∃ (kvs : List (Key × V)) (k : Key), H3 a = some (.dK kvs) ∧ y = kV k ∧ kvs.length < sizeLine ∧
      (∀ v, valV kvs k = some v → Q v H3) ∧ (valV kvs k = none → Chg a H3 (.dK (putK kvs k z)) fun H4 => Q z H4)
  | _ => False
theorem e_dsetd {o e f : Expr} {td ty tx : TE} {apos cpos : Pos} (ho : PE X o td) (he : PE X e ty) (hf : PE X f tx) (m : M2 X o "setdefault" apos e f cpos) : PE X (.Call (.Attribute o "setdefault" apos) [e, f] [] cpos) (uDSetd td ty tx) :=
  pe_imp (pe_dsetd (pe_up ho) (pe_up he) (pe_up hf) m) fun σ H Q q => ⟨_, q, fun x H1 q1 => by
    cases x with
    | ref a =>
      obtain ⟨⟨kv0, h0⟩, q1⟩ := q1
      exact ⟨a, rfl, .inl ⟨kv0, .inl h0⟩, _, q1, fun y H2 q2 => ⟨_, q2, fun z H3 ⟨kvs, k, h1, h2, h3, q3, q4⟩ => ⟨kvs, k, h1, h2, h3, q3, fun n => (q4 n).at⟩⟩⟩
    | _ => exact False.elim q1⟩
def uDGet2 (td ty tx : TE) : TE := fun σ H Q => td σ H fun x H1 => match x with
  | .ref a => (∃ kvs, H1 a = some (.dK kvs)) ∧ ty σ H1 fun y H2 => tx σ H2 fun z H3 => ∃ (kvs : List (Key × V)) (k : Key), H3 a = some (.dK kvs) ∧ y = kV k ∧ Q ((valV kvs k).getD z) H3
  | _ => False
theorem e_dget2 {o e f : Expr} {td ty tx : TE} {apos cpos : Pos} (hu : X.A.units + 1 < cLine) (ho : PE X o td) (he : PE X e ty) (hf : PE X f tx) (m : M2 X o "get" apos e f cpos) : PE X (.Call (.Attribute o "get" apos) [e, f] [] cpos) (uDGet2 td ty tx) :=
  pe_imp (pe_dget2 hu (pe_up ho) (pe_up he) (pe_up hf) m) fun σ H Q q => ⟨_, q, fun x H1 q1 => by
    cases x with
    | ref a =>
      obtain ⟨⟨kv0, h0⟩, q1⟩ := q1
      exact ⟨a, rfl, .inl ⟨kv0, .inl h0⟩, _, q1, fun y H2 q2 => ⟨_, q2, fun z H3 ⟨kvs, k, h1, h2, q3⟩ => ⟨_, by rw [h2]; exact DGet.k h1, q3⟩⟩⟩
    | _ => exact False.elim q1⟩
def uDPop1 (td ty : TE) : TE := fun σ H Q => td σ H fun x H1 => match x with
  | .ref a => (∃ kvs, H1 a = some (.dK kvs)) ∧ ty σ H1 fun y H2 => ∃ (kvs : List (Key × V)) (k : Key) (v : V), H2 a = some (.dK kvs) ∧ y = kV k ∧ valV kvs k = some v ∧ Chg a H2 (.dK (dropK kvs k)) fun H3 => Q v H3
  | _ => False
theorem e_dpop1 {o e : Expr} {td ty : TE} {apos cpos : Pos} (ho : PE X o td) (he : PE X e ty) (m : M1 X o "pop" apos e cpos) : PE X (.Call (.Attribute o "pop" apos) [e] [] cpos) (uDPop1 td ty) :=
  pe_imp (pe_dpop1 (pe_up ho) (pe_up he) m) fun σ H Q q => ⟨_, q, fun x H1 q1 => by
    cases x with
    | ref a =>
      obtain ⟨⟨kv0, h0⟩, q1⟩ := q1
      exact ⟨a, rfl, .inl ⟨kv0, .inl h0⟩, _, q1, fun y H2 ⟨kvs, k, v, h1, h2, h3, q3⟩ => ⟨kvs, k, v, h1, h2, h3, q3.at⟩⟩
    | _ => exact False.elim q1⟩

/-! ### lists changed, fields -/
def cApp : V → List V → Hp → VK → Prop := fun x xs H Q => match x, xs with
  | .ref l, [y] => ∃ zs, H l = some (.lst zs) ∧ zs.length < sizeLine ∧ Chg l H (.lst (zs ++ [y])) fun H2 => Q .non H2
  | _, _ => False
theorem m_append : MtR X "list.append" cApp := mt_imp mt_append fun x xs H Q q => by
  match x, xs, q with
  | .ref l, [y], q =>
    obtain ⟨zs, h1, h2, q⟩ := q
    exact ⟨l, zs, y, rfl, rfl, h1, h2, q.at⟩
def cClear : V → List V → Hp → VK → Prop := fun x xs H Q => match x, xs with
  | .ref l, [] => ∃ zs, H l = some (.lst zs) ∧ Chg l H (.lst []) fun H2 => Q .non H2
  | _, _ => False
theorem m_clear : MtR X "list.clear" cClear := mt_imp mt_clear fun x xs H Q q => by
  match x, xs, q with
  | .ref l, [], q =>
    obtain ⟨zs, h1, q⟩ := q
    exact ⟨l, zs, rfl, rfl, h1, q.at⟩
def cSetL : TSet := fun o i v H Q => match o, i with
  | .ref p, .int k => ∃ xs j, H p = some (.lst xs) ∧ ixN xs.length k = some j ∧ Chg p H (.lst (xs.set j v)) fun H2 => Q H2
  | _, _ => False
theorem p_setL : PSet X cSetL := fun pins s σ H o i v ov iv u Q I ro ri rv h => set_list pins s σ H o i v ov iv u Q I ro ri rv (by
  cases o <;> cases i <;> first
    | (obtain ⟨xs, j, h1, h2, q⟩ := h; exact ⟨_, xs, _, j, rfl, rfl, h1, h2, q.at⟩)
    | exact False.elim h)
def uFldS (K : PySem.W.Frag) (ta tv : TE) (f : Str) : TS := fun D σ H => tv σ H fun y H1 => ta σ H1 fun x H2 => match x with
  | .ref a => ∃ C dx fs, H2 a = some (.ins C dx fs) ∧ Cls K C ∧ NoAttr K C f ∧ fs.length < 1000 ∧ Chg a H2 (.ins C dx (putF f y fs)) fun H3 => D.nx σ H3
  | _ => False
theorem s_fld {o value : Expr} {ta tv : TE} {f : Str} {pos pos' : Pos} (ha : PE X o ta) (hv : PE X value tv) (hs : swapsWith value (some (.Attribute o f pos')) pos.line X.env = pure false) : PS X (.Assign [.Attribute o f pos'] value pos) (uFldS X.K ta tv f) :=
  ps_imp (ps_fld (pe_up ha) (pe_up hv) hs) fun D σ H q => ⟨_, q, fun y H1 q1 => ⟨_, q1, fun x H2 q2 => by
    cases x with
    | ref a =>
      obtain ⟨C, dx, fs, h1, h2, h3, h4, q⟩ := q2
      exact ⟨a, C, dx, fs, rfl, h1, h2, h3, h4, q.at⟩
    | _ => exact False.elim q2⟩⟩
def uFld (K : PySem.W.Frag) (ta : TE) (f : Str) : TE := fun σ H Q => ta σ H fun x H1 => match x with
  | .ref a => ∃ C dx fs v, H1 a = some (.ins C dx fs) ∧ Cls K C ∧ NoAttr K C f ∧ fs.lookup f = some v ∧ Q v H1
  | _ => False
theorem e_fld {e : Expr} {ta : TE} {f : Str} {pos : Pos} (he : PE X e ta) (hb : attributeBase e f X.env (eval e X.env) = eval e X.env) : PE X (.Attribute e f pos) (uFld X.K ta f) :=
  pe_imp (pe_fld (pe_up he) hb) fun σ H Q q => ⟨_, q, fun x H1 q1 => by
    cases x with
    | ref a =>
      obtain ⟨C, dx, fs, v, h1, h2, h3, h4, q⟩ := q1
      exact ⟨a, C, dx, fs, v, rfl, h1, h2, h3, h4, q⟩
    | _ => exact False.elim q1⟩
/-! ### calls of built-ins -/
def cLenS : List V → Hp → VK → Prop := fun xs H Q => match xs with
  | [.str z] => z.length ≤ sizeLine ∧ Q (.int z.length) H
  | _ => False
theorem l_str : CallR X (.builtin "len") cLenS := call_imp call_len_str fun xs H Q q => by
  match xs, q with
  | [.str z], q => exact ⟨z, rfl, q⟩
def cLenQ (K : PySem.W.Frag) : List V → Hp → VK → Prop := fun xs H Q => match xs with
  | [.ref p] => ∃ ys, (SqL K H p ys ∨ SqT K H p ys) ∧ Q (.int ys.length) H
  | _ => False
theorem l_seq : CallR X (.builtin "len") (cLenQ X.K) := call_imp call_len_seq fun xs H Q q => by
  match xs, q with
  | [.ref p], q =>
    obtain ⟨ys, h, q⟩ := q
    exact ⟨p, ys, rfl, h, q⟩
def cLenD : List V → Hp → VK → Prop := fun xs H Q => match xs with
  | [.ref p] => ∃ kvs, H p = some (.dK kvs) ∧ Q (.int kvs.length) H
  | _ => False
theorem l_dict : CallR X (.builtin "len") cLenD := call_imp call_lenD fun xs H Q q => by
  match xs, q with
  | [.ref p], q =>
    obtain ⟨ys, h, q⟩ := q
    exact ⟨p, ys, rfl, h, q⟩
def cAbs : List V → Hp → VK → Prop := fun xs H Q => match xs with
  | [.int i] => Q (.int (if i < 0 then -i else i)) H
  | _ => False
theorem b_abs : CallR X (.builtin "abs") cAbs := call_imp call_abs fun xs H Q q => by
  match xs, q with
  | [.int i], q => exact ⟨i, rfl, q⟩
def cMin : List V → Hp → VK → Prop := fun xs H Q => match xs with
  | [.int i, .int j] => Q (.int (if j < i then j else i)) H
  | _ => False
theorem b_min (hc : X.calm = true) : CallR X (.builtin "min") cMin := call_imp (call_min2 hc) fun xs H Q q => by
  match xs, q with
  | [.int i, .int j], q => exact ⟨i, j, rfl, q⟩
def cStrI : List V → Hp → VK → Prop := fun xs H Q => match xs with
  | [.int i] => i.natAbs.log2 < 1920 ∧ Q (.str (toString i)) H
  | _ => False
theorem b_str : CallR X (.type "str") cStrI := call_imp call_str_int fun xs H Q q => by
  match xs, q with
  | [.int i], q => exact ⟨i, rfl, q⟩
def cIntB : List V → Hp → VK → Prop := fun xs H Q => match xs with
  | [.bl k] => Q (.int (if k then 1 else 0)) H
  | _ => False
theorem b_intB : CallR X (.type "int") cIntB := call_imp call_int1 fun xs H Q q => by
  match xs, q with
  | [.bl k], q => exact .inr ⟨k, rfl, q⟩
def cIntS : List V → Hp → VK → Prop := fun xs H Q => match xs with
  | [.str a] => ∃ n, PySem.intText? a = some n ∧ a.length ≤ 640 ∧ Q (.int n) H
  | _ => False
theorem b_intS : CallR X (.type "int") cIntS := call_imp call_int_str fun xs H Q q => by
  match xs, q with
  | [.str a], q =>
    obtain ⟨n, h1, h2, q⟩ := q
    exact ⟨a, n, rfl, h1, h2, q⟩
/-- isinstance of a built-in class -/
def cIsi (K : PySem.W.Frag) : List V → Hp → VK → Prop := fun xs H Q => match xs with
  | [x, .ty n] => ∃ t b, TyX K H x (.type t) ∧ kitB t n = some b ∧ Q (.bl b) H
  | _ => False
theorem b_isi : CallR X (.builtin "isinstance") (cIsi X.K) := call_imp call_isi fun xs H Q q => by
  match xs, q with
  | [x, .ty n], q =>
    obtain ⟨t, b, h1, h2, q⟩ := q
    exact ⟨x, .ty n, .type t, .type n, b, rfl, .ty n, h1, kit_ty h2, q⟩

/-! ### more built-ins -/
def cList (K : PySem.W.Frag) : List V → Hp → VK → Prop := fun xs H Q => match xs with
  | [.ref p] => ∃ ys, (SqL K H p ys ∨ SqT K H p ys) ∧ New H (.lst ys) fun l H2 => Q (.ref l) H2
  | _ => False
theorem b_list : CallR X (.type "list") (cList X.K) := call_imp call_list_of fun xs H Q q => by
  match xs, q with
  | [.ref p], q =>
    obtain ⟨ys, h, q⟩ := q
    exact ⟨p, ys, rfl, h, New.at q⟩
def cListD : List V → Hp → VK → Prop := fun xs H Q => match xs with
  | [.ref p] => ∃ kvs, Rd H p (.dK kvs) ∧ New H (.lst (kvs.map fun kv => kV kv.1)) fun l H2 => Q (.ref l) H2
  | _ => False
theorem b_listD (hc : X.calm = true) : CallR X (.type "list") cListD := call_imp (call_listD hc) fun xs H Q q => by
  match xs, q with
  | [.ref p], q =>
    obtain ⟨ys, h, q⟩ := q
    exact ⟨p, ys, rfl, h, New.at q⟩
def cSum (K : PySem.W.Frag) : List V → Hp → VK → Prop := fun xs H Q => match xs with
  | [.ref p] => ∃ ns : List Int, SqL K H p (ns.map V.int) ∧ Q (.int ns.sum) H
  | _ => False
theorem b_sum (hc : X.calm = true) : CallR X (.builtin "sum") (cSum X.K) := call_imp (cr_sum hc) fun xs H Q q => by
  match xs, q with
  | [.ref p], q =>
    obtain ⟨ys, h, q⟩ := q
    exact ⟨p, ys, rfl, h, q⟩
def cSortedS (K : PySem.W.Frag) : List V → Hp → VK → Prop := fun xs H Q => match xs with
  | [.ref p] => ∃ ss : List Str, SqL K H p (ss.map V.str) ∧ ss.length < 64 ∧ ∀ (ys : List Str), ys.Perm ss → sortedS ys = true → New H (.lst (ys.map V.str)) fun p H2 => Q (.ref p) H2
  | _ => False
theorem b_sortedS : CallR X (.builtin "sorted") (cSortedS X.K) := call_imp cr_sortedS fun xs H Q q => by
  match xs, q with
  | [.ref p], q =>
    obtain ⟨ss, h, h2, q⟩ := q
    exact ⟨p, ss, rfl, h, h2, fun ys p h3 h4 => New.at (q ys h3 h4) p⟩
def cSortedD : List V → Hp → VK → Prop := fun xs H Q => match xs with
  | [.ref p] => ∃ (kvs : List (Key × V)) (ks : List Str), Rd H p (.dK kvs) ∧ kvs.map (·.1) = ks.map Sum.inr ∧ ks.length < 64 ∧ ∀ (ys : List Str), ys.Perm ks → sortedS ys = true → New H (.lst (ys.map V.str)) fun p H2 => Q (.ref p) H2
  | _ => False
theorem b_sortedD (hc : X.calm = true) : CallR X (.builtin "sorted") cSortedD := call_imp (call_sortedD hc) fun xs H Q q => by
  match xs, q with
  | [.ref p], q =>
    obtain ⟨kvs, ks, h, h1, h2, q⟩ := q
    exact ⟨p, kvs, ks, rfl, h, h1, h2, fun ys p h3 h4 => New.at (q ys h3 h4) p⟩
def uRev (K : PySem.W.Frag) (te : TE) : TE := fun σ H Q => te σ H fun x H1 => match x with
  | .ref a => ∃ xs, SqL K H1 a xs ∧ New H1 (.lst xs.reverse) fun p H2 => Q (.ref p) H2
  | _ => False
theorem e_rev {e : Expr} {te : TE} {k : Nat} {p1 p2 p3 pos : Pos} (he : PE X e te) : PE X (.Subscript e (.Slice none none (some (.UnaryOp .USub (.Constant (.int 1) k p1) p2)) p3) pos) (uRev X.K te) :=
  pe_imp (pe_revL (pe_up he)) fun σ H Q q => ⟨_, q, fun x H1 q1 => by
    cases x with
    | ref a =>
      obtain ⟨xs, h1, q⟩ := q1
      exact ⟨a, xs, rfl, h1, New.at q⟩
    | _ => exact False.elim q1⟩
def cCat : R2 := fun x y H Q => match x, y with
  | .ref a, .ref b => ∃ xs zs, H a = some (.lst xs) ∧ H b = some (.lst zs) ∧ xs.length + zs.length ≤ sizeLine ∧ New H (.lst (xs ++ zs)) fun p H2 => Q (.ref p) H2
  | _, _ => False
theorem o_cat : OpR X (binaryOp .Add) cCat := op_imp op_cat fun x y H Q q => by
  cases x <;> cases y <;> first
    | (obtain ⟨xs, zs, a, b, c, q⟩ := q; exact ⟨_, _, _, _, rfl, rfl, a, b, c, New.at q⟩)
    | exact False.elim q

/-! ### slices -/
def uPart (t : TE) : TO := fun σ H Q => t σ H fun x H1 => match x with
  | .int i => Q (some i) H1
  | _ => False
theorem p_some {e : Expr} {te : TE} (h : PE X e te) : PO X (some e) (uPart te) := by
  refine ⟨fun pins s σ H Q I hw => ?_⟩
  rw [evalPart_some]
  refine thn (h.run pins s σ H _ I hw) fun u s1 ⟨x, H1, I1, r1, q1⟩ => ?_
  cases x with
  | int i =>
    obtain ⟨t, rfl⟩ := r1
    exact ⟨some i, H1, I1, .int i t, q1⟩
  | _ => exact False.elim q1
def cSlS : V → Option Int → Option Int → Hp → VK → Prop := fun x lo hi H Q => match x with
  | .str z => z.length ≤ sizeLine ∧ Q (.str (cutS z lo hi)) H
  | _ => False
theorem s_str : SlR X cSlS := sl_imp sl_str fun x l u H Q q => by
  cases x <;> first
    | exact ⟨_, rfl, q⟩
    | exact False.elim q
def cSlL (K : PySem.W.Frag) : V → Option Int → Option Int → Hp → VK → Prop := fun x lo hi H Q => match x with
  | .ref a => ∃ xs, SqL K H a xs ∧ New H (.lst (cutV xs lo hi)) fun p H2 => Q (.ref p) H2
  | _ => False
theorem s_list : SlR X (cSlL X.K) := sl_imp sl_list fun x l u H Q q => by
  cases x <;> first
    | (obtain ⟨xs, h, q⟩ := q; exact ⟨_, _, rfl, h, New.at q⟩)
    | exact False.elim q

/-! ### comprehensions -/
@[irreducible] def uLc (wi : TI) (g : TG) (tt : TT) (te : TE) (vs : List Nat) : TE := tLc wi g tt te vs
theorem uLc_of {wi : TI} {g : TG} {tt : TT} {te : TE} {vs : List Nat} {σ : L2.St} {H : Hp} {Q : VK} (h : tLc wi g tt te vs σ H Q) : uLc wi g tt te vs σ H Q := by
  unfold uLc
  exact h
theorem u_lc {elt tg iter : Expr} {ifs : List Expr} {scope : Scope} {own : List (Str × Nat)} {pos : Pos} {wi : TI} {g : TG} {tt : TT} {te : TE} (hc : X.calm = true) (hN : X.N.Nodup) (hi : PI X tg iter wi) (ok : BlkOk X.N X.env.scope scope own)
    (hg : ∀ (s : Shared) (H : Hp) (C : Addr) (cl : List (Str × Addr)) (fp : List Addr), PG (X.blk s H scope (compEnvC scope cl C X.env) fp) tg g) (ht : ∀ (s : Shared) (H : Hp) (C : Addr) (cl : List (Str × Addr)) (fp : List Addr), PTs (X.blk s H scope (compEnvC scope cl C X.env) fp) ifs tt)
    (he : ∀ (s : Shared) (H : Hp) (C : Addr) (cl : List (Str × Addr)) (fp : List Addr), PE (X.blk s H scope (compEnvC scope cl C X.env) fp) elt te) (hs : ∀ x, foldedSetIterable iter X.env x = pure x := by intro _; rfl) :
    PE X (.ListComp elt [⟨tg, iter, ifs, 0⟩] scope pos) (uLc wi g tt te (own.map (·.2))) := by
  unfold uLc
  exact pe_lc hc hN hi ok hg ht he hs
theorem u_setLc {i : Nat} {y : Str} {py : Pos} {elt tg iter : Expr} {ifs : List Expr} {scope : Scope} {own : List (Str × Nat)} {pos spos : Pos} {wi : TI} {g : TG} {tt : TT} {te : TE} (hc : X.calm = true) (hN : X.N.Nodup) (hy : X.N[i]? = some y) (hyl : X.env.scope.names.lookup y = some .local)
    (hsw : swapsWith (.ListComp elt [⟨tg, iter, ifs, 0⟩] scope pos) (some (.Name y py)) spos.line X.env = pure true) (hi : PI X tg iter wi) (ok : BlkOk X.N X.env.scope scope own)
    (hg : ∀ (s : Shared) (H : Hp) (C : Addr) (cl : List (Str × Addr)) (fp : List Addr), PG (X.blk s H scope (compEnvC scope cl C X.env) fp) tg g) (ht : ∀ (s : Shared) (H : Hp) (C : Addr) (cl : List (Str × Addr)) (fp : List Addr), PTs (X.blk s H scope (compEnvC scope cl C X.env) fp) ifs tt)
    (he : ∀ (s : Shared) (H : Hp) (C : Addr) (cl : List (Str × Addr)) (fp : List Addr), PE (X.blk s H scope (compEnvC scope cl C X.env) fp) elt te) (hs : ∀ x, foldedSetIterable iter X.env x = pure x := by intro _; rfl) :
    PS X (.Assign [.Name y py] (.ListComp elt [⟨tg, iter, ifs, 0⟩] scope pos) spos) (tAsg (uLc wi g tt te (own.map (·.2))) (gName i)) := by
  unfold uLc
  exact ps_setLc hc hN hy hyl hsw hi ok hg ht he hs

/-! ### while -/
def uWhile (c : TT) (tb : TS) : TS := fun D σ H => ∃ W : Nat → L2.St → Hp → Prop, (∃ m, W m σ H) ∧ ∀ m σ H, W m σ H →
  c σ H fun b H1 => Br b (∃ N : L2.St → Hp → Prop, (∀ σ' H', N σ' H' → ∃ m', m' < m ∧ W m' σ' H') ∧ tb { D with nx := N, ct := N, bk := D.nx } σ H1) (D.nx σ H1)
theorem s_while {c : Expr} {body : List Stmt} {tc : TT} {tb : TS} {pos : Pos} (hp : PassesOwn (model X.prog X.w) X.A X.env X.xe) (hc : PT X c tc) (hb : PSs X body tb) : PS X (.While c body [] pos) (uWhile tc tb) := by
  refine ⟨fun pins s σ H D I h => ?_⟩
  obtain ⟨W, ⟨m0, w0⟩, turn⟩ := h
  refine wpAny_While (codeAny_whileLoop (fun n s' => ∃ σ' H', Inv X pins σ' H' s' ∧ W n σ' H') ?_ m0 ⟨σ, H, I, w0⟩)
  rintro n s1 ⟨σ1, H1, I1, w1⟩
  refine wpAny_passesOwn hp (thn (hc.run pins s1 σ1 H1 _ I1 (turn n σ1 H1 w1)) fun b s2 ⟨H2, I2, q2⟩ => ?_)
  cases b with
  | true =>
    obtain ⟨N, hN, q2⟩ := q2.tt rfl
    rw [if_pos rfl]
    refine wpAny_passesOwn hp (thn (hb.run pins s2 σ1 H2 _ I2 q2) fun f s3 q3 => ?_)
    cases f with
    | next =>
      obtain ⟨σ3, H3, I3, n3⟩ := q3
      obtain ⟨m', hm, w3⟩ := hN σ3 H3 n3
      exact ⟨m', hm, σ3, H3, I3, w3⟩
    | cont =>
      obtain ⟨σ3, H3, I3, n3⟩ := q3
      obtain ⟨m', hm, w3⟩ := hN σ3 H3 n3
      exact ⟨m', hm, σ3, H3, I3, w3⟩
    | brk => exact q3
    | ret v => exact q3
  | false =>
    have q2 := q2.ff rfl
    rw [if_neg Bool.false_ne_true]
    exact wpAny_execs_nil ⟨σ1, H2, I2, q2⟩
/-- while, by a word and a measure of the state -/
theorem wh_by {c : TT} {tb : TS} {D : Ends} {σ : L2.St} {H : Hp} (Pv : Nat → L2.St → Hp → Prop) (m : Nat) (h0 : Pv m σ H)
    (hs : ∀ m σ H, Pv m σ H → c σ H fun b H1 => Br b (tb { D with nx := fun σ' H' => ∃ m', m' < m ∧ Pv m' σ' H', ct := fun σ' H' => ∃ m', m' < m ∧ Pv m' σ' H', bk := D.nx } σ H1) (D.nx σ H1))
    (mono : ∀ σ H Q Q', (∀ b H1, Q b H1 → Q' b H1) → c σ H Q → c σ H Q') : uWhile c tb D σ H := by
  refine ⟨Pv, ⟨m, h0⟩, fun m σ H p => mono σ H _ _ (fun b H1 q => ⟨fun e => ⟨_, fun σ' H' h => h, q.tt e⟩, q.ff⟩) (hs m σ H p)⟩
theorem pnever {M : Model} {A : Around} {env : Env} : PassesOwn M A env (fun _ _ => False) := PassesOwn.never
end

theorem _root_.L2.Room.u65 {k : Nat} {A : Around} (r : Room k A) : A.units + 65 < cLine := by have := r.un; omega
/-! ### a def that may be called -/
structure Cal (P : Program) (w : World) (K : PySem.W.Frag) (mg : Str → Option Value) (base : Heap) (CX : CXT) (k : Nat) (x : Str) (ps : List Str) (sp : Sp) : Prop where
  ex : ∃ (f : Addr) (fd : FuncData), FnOk P w K mg base CX k f fd ps sp ∧ mg x = some (.ref f) ∧ PySem.W.keepIn K (.ref f) = true ∧ Binds K fd ps []
theorem Cal.pe {X : Cx} {CX : CXT} {k : Nat} {x : Str} {ps : List Str} {sp : Sp} {E : XK} {e : Expr} {es : List Expr} {t : TA} {p pos : Pos} (c : Cal X.prog X.w X.K X.mg X.base CX k x ps sp) (hr : Room k X.A) (hx : Passes CX X E)
    (ha : PA X (e :: es) t) (hg : Gl X x := by rfl) (hdb : (x == ("__debug__" : Str)) = false := by decide) (he : starEach (e :: es) X.env = (false, eval e X.env) :: starEach es X.env := by rfl) (hpl : (backTo pos (starEach es X.env)).any (·.1) = false := by rfl) :
    PE X (.Call (.Name x p) (e :: es) [] pos) (tCall sp [] E t) := by
  obtain ⟨f, fd, F, m, kp, b⟩ := c.ex
  exact pe_call F hr hg m kp b .nil hx ha hdb he hpl
theorem Cal.pe0 {X : Cx} {CX : CXT} {k : Nat} {x : Str} {ps : List Str} {sp : Sp} {E : XK} {p pos : Pos} (c : Cal X.prog X.w X.K X.mg X.base CX k x ps sp) (hr : Room k X.A) (hx : Passes CX X E)
    (hg : Gl X x := by rfl) (hdb : (x == ("__debug__" : Str)) = false := by decide) : PE X (.Call (.Name x p) [] [] pos) (tCall sp [] E tNil) := by
  obtain ⟨f, fd, F, m, kp, b⟩ := c.ex
  exact pe_call0 F hr hg m kp b .nil hx hdb
/-! ### a text in a list of texts -/
theorem inV_str (a : Str) (C : List Str) : inV (.str a) (C.map V.str) = decide (a ∈ C) := by
  unfold inV
  induction C with
  | nil => rfl
  | cons c C ih =>
    rw [List.map_cons, List.any_cons, ih]
    show ((c == a) || decide (a ∈ C)) = _
    by_cases h : c = a
    · subst h; simp
    · have h2 : ¬ a = c := fun e => h e.symm
      simp [h, h2]
theorem flatS (C : List Str) : (C.map V.str).all flatV = true := by
  rw [List.all_map, List.all_eq_true]
  intro c _
  rfl
def cInS (K : PySem.W.Frag) (b : Bool) : R2 := fun x y H Q => match x, y with
  | .str a, .ref p => ∃ C : List Str, SqL K H p (C.map V.str) ∧ Q (.bl (if b then decide (a ∈ C) else !decide (a ∈ C))) H
  | _, _ => False
theorem o_inS {X : Cx} : OpR X (compareOp .In) (cInS X.K true) := op_imp op_in_seq fun x y H Q q => by
  cases x <;> cases y <;> first
    | (obtain ⟨C, h, q⟩ := q; refine ⟨_, _, rfl, .inl h, rfl, flatS C, ?_⟩; rw [inV_str]; exact q)
    | exact False.elim q
theorem o_notInS {X : Cx} : OpR X (compareOp .NotIn) (cInS X.K false) := op_imp op_notIn_seq fun x y H Q q => by
  cases x <;> cases y <;> first
    | (obtain ⟨C, h, q⟩ := q; refine ⟨_, _, rfl, .inl h, rfl, flatS C, ?_⟩; rw [inV_str]; exact q)
    | exact False.elim q
end U

/-! PegD: data of any depth, rows. -/
namespace Peg
open PySem PySem.Spec PyProof.Rows L2 U
section
variable {K : PySem.W.Frag} {H H' : Hp}
theorem same_rd {a : Addr} {u : HO} (e : Same H H') (h : Rd H a u) : Rd H' a u := by
  rcases h with h | ⟨o, h⟩
  · exact .inl (e _ _ h)
  · exact .inr ⟨o, e _ _ h⟩
theorem same_l {a : Addr} {xs : List V} (e : Same H H') (h : SqL K H a xs) : SqL K H' a xs := e.seq h
theorem same_t {a : Addr} {xs : List V} (e : Same H H') (h : SqT K H a xs) : SqT K H' a xs := by
  rcases h with h | h
  · exact .inl (same_rd e h)
  · exact .inr h
theorem same_new {p : Addr} {o : HO} (h : H p = none) : Same H (upd H p o) := fun a u e => by
  rw [upd_ne (ne_of_none e h)]
  exact e
theorem same_chd {H1 : Hp} {p : Addr} (e : Same H H1) (c : Chd p H1 H') (h : H p = none) : Same H H' := fun a u ha => c a u (ne_of_none ha h) (e a u ha)
theorem chd_trans {H1 : Hp} {p : Addr} (a : Chd p H H1) (b : Chd p H1 H') : Chd p H H' := fun c o n h => b c o n (a c o n h)
theorem chd_same {H1 : Hp} {p : Addr} (a : Chd p H H1) (b : Same H1 H') : Chd p H H' := fun c o n h => b c o (a c o n h)
theorem same_chd2 {H1 : Hp} {p : Addr} (a : Same H H1) (b : Chd p H1 H') : Chd p H H' := fun c o n h => b c o n (a c o h)
/-- an object that H does not know may change -/
theorem same_mut {p : Addr} {o : HO} (e : Same H H') (h : H p = none) : Same H (upd H' p o) := fun a u ha => by
  rw [upd_ne (ne_of_none ha h)]
  exact e a u ha
mutual
theorem dp_mono (e : Same H H') : ∀ {d : PyData} {v : V}, Dp K H v d → Dp K H' v d
  | _, _, .non => .non
  | _, _, .bl b => .bl b
  | _, _, .int i => .int i
  | _, _, .str x => .str x
  | _, _, .lst h a => .lst (same_l e h) (dpAll_mono e a)
  | _, _, .tup h a => .tup (same_t e h) (dpAll_mono e a)
theorem dpAll_mono (e : Same H H') : ∀ {ds : List PyData} {vs : List V}, DpAll K H vs ds → DpAll K H' vs ds
  | _, _, .nil => .nil
  | _, _, .cons a b => .cons (dp_mono e a) (dpAll_mono e b)
end
theorem dp_lst {v : V} {ds : List PyData} (h : Dp K H v (.list ds)) : ∃ a xs, v = .ref a ∧ SqL K H a xs ∧ DpAll K H xs ds := by
  cases h with
  | lst h a => exact ⟨_, _, rfl, h, a⟩
theorem dp_tup {v : V} {ds : List PyData} (h : Dp K H v (.tuple ds)) : ∃ a xs, v = .ref a ∧ SqT K H a xs ∧ DpAll K H xs ds := by
  cases h with
  | tup h a => exact ⟨_, _, rfl, h, a⟩
theorem dp_int {v : V} {i : Int} (h : Dp K H v (.int i)) : v = .int i := by cases h; rfl
theorem dp_str {v : V} {z : Str} (h : Dp K H v (.str z)) : v = .str z := by cases h; rfl
theorem dp_bl {v : V} {b : Bool} (h : Dp K H v (.bool b)) : v = .bl b := by cases h; rfl
theorem dpAll_nil {vs : List V} (h : DpAll K H vs []) : vs = [] := by cases h; rfl
theorem dpAll_cons {vs : List V} {d : PyData} {ds : List PyData} (h : DpAll K H vs (d :: ds)) : ∃ v r, vs = v :: r ∧ Dp K H v d ∧ DpAll K H r ds := by
  cases h with
  | cons a b => exact ⟨_, _, rfl, a, b⟩
theorem dpAll_length : ∀ {ds : List PyData} {vs : List V}, DpAll K H vs ds → vs.length = ds.length
  | _, _, .nil => rfl
  | _, _, .cons a b => by rw [List.length_cons, List.length_cons, dpAll_length b]
theorem dpAll_get : ∀ {ds : List PyData} {vs : List V} {i : Nat} {v : V}, DpAll K H vs ds → vs[i]? = some v → ∃ d, ds[i]? = some d ∧ Dp K H v d
  | _, _, _, _, .nil, e => by simp at e
  | _, _, 0, _, .cons a _, e => by
    have e := Option.some.inj e
    subst e
    exact ⟨_, rfl, a⟩
  | _, _, i + 1, v, .cons _ b, e => by
    obtain ⟨d, h1, h2⟩ := dpAll_get (i := i) (v := v) b (by simpa using e)
    exact ⟨d, by simpa using h1, h2⟩
theorem dpAll_get2 : ∀ {ds : List PyData} {vs : List V} {i : Nat} {d : PyData}, DpAll K H vs ds → ds[i]? = some d → ∃ v, vs[i]? = some v ∧ Dp K H v d
  | _, _, _, _, .nil, e => by simp at e
  | _, _, 0, _, .cons a _, e => by
    have e := Option.some.inj e
    subst e
    exact ⟨_, rfl, a⟩
  | _, _, i + 1, v, .cons _ b, e => by
    obtain ⟨d, h1, h2⟩ := dpAll_get2 (i := i) (d := v) b (by simpa using e)
    exact ⟨d, by simpa using h1, h2⟩
theorem dpAll_snoc : ∀ {ds : List PyData} {vs : List V} {v : V} {d : PyData}, DpAll K H vs ds → Dp K H v d → DpAll K H (vs ++ [v]) (ds ++ [d])
  | _, _, _, _, .nil, e => .cons e .nil
  | _, _, _, _, .cons a b, e => .cons a (dpAll_snoc b e)
theorem dpAll_append : ∀ {ds es : List PyData} {vs ws : List V}, DpAll K H vs ds → DpAll K H ws es → DpAll K H (vs ++ ws) (ds ++ es)
  | _, _, _, _, .nil, e => e
  | _, _, _, _, .cons a b, e => .cons a (dpAll_append b e)
theorem dpAll_take : ∀ {ds : List PyData} {vs : List V} (n : Nat), DpAll K H vs ds → DpAll K H (vs.take n) (ds.take n)
  | _, _, 0, _ => .nil
  | _, _, _ + 1, .nil => .nil
  | _, _, n + 1, .cons a b => .cons a (dpAll_take n b)
theorem dpAll_drop : ∀ {ds : List PyData} {vs : List V} (n : Nat), DpAll K H vs ds → DpAll K H (vs.drop n) (ds.drop n)
  | _, _, 0, h => h
  | _, _, _ + 1, .nil => .nil
  | _, _, n + 1, .cons a b => dpAll_drop n b
theorem dpAll_reverse : ∀ {ds : List PyData} {vs : List V}, DpAll K H vs ds → DpAll K H vs.reverse ds.reverse
  | _, _, .nil => .nil
  | _, _, .cons a b => by
    rw [List.reverse_cons, List.reverse_cons]
    exact dpAll_snoc (dpAll_reverse b) a
theorem dpAll_set : ∀ {ds : List PyData} {vs : List V} (n : Nat) {v : V} {d : PyData}, DpAll K H vs ds → Dp K H v d → DpAll K H (vs.set n v) (ds.set n d)
  | _, _, _, _, _, .nil, _ => .nil
  | _, _, 0, _, _, .cons a b, e => .cons e b
  | _, _, n + 1, _, _, .cons a b, e => .cons a (dpAll_set n b e)
end
/-- an item of a list, of a tuple, by a place that is not negative -/
theorem at_nat {α : Type} {xs : List α} {j : Nat} {v : α} {z : Int} (e : z = (j : Int)) (h : xs[j]? = some v) : atI xs z = some v := by
  rw [e]
  exact atI_nat h

theorem at_ex {α : Type} {xs : List α} {i : Int} (h0 : 0 ≤ i) (h : i < xs.length) : ∃ c, atI xs i = some c := by
  have e : xs[i.toNat]? = some (xs[i.toNat]'(by omega)) := List.getElem?_eq_getElem (by omega)
  exact ⟨_, at_nat (by omega) e⟩
theorem sz {n : Nat} (h : n ≤ 100000) : n ≤ sizeLine := Nat.le_trans h (by decide)
theorem szl {n : Nat} (h : n < 100000) : n < sizeLine := Nat.lt_of_lt_of_le h (by decide)

theorem szr {n : Nat} (h : Nat.ble n 100000 = true) : n ≤ sizeLine := sz (Nat.le_of_ble_eq_true h)

/-! ### tuples stay, whatever else is changed -/
def Tups (H H' : Hp) : Prop := ∀ b xs, Rd H b (.tup xs) → Rd H' b (.tup xs)
theorem Tups.refl (H : Hp) : Tups H H := fun _ _ h => h
theorem Tups.trans {H H1 H2 : Hp} (a : Tups H H1) (b : Tups H1 H2) : Tups H H2 := fun c xs h => b c xs (a c xs h)
theorem tups_of {H H' : Hp} (e : Same H H') : Tups H H' := fun b xs h => same_rd e h
def Plain (u : HO) : Prop := match u with
  | .tup _ => False
  | .frz _ _ => False
  | _ => True
theorem Tups.mut {H H' : Hp} {p : Addr} {u o : HO} (a : Tups H H') (h : H' p = some u) (k : Plain u) : Tups H (upd H' p o) := fun b xs q => by
  have q := a b xs q
  have e : b ≠ p := fun e => by
    subst e
    rcases q with q | ⟨o, q⟩
    · rw [h] at q; cases q; exact k
    · rw [h] at q; cases q; exact k
  rcases q with q | ⟨o, q⟩
  · exact .inl (by rw [upd_ne e]; exact q)
  · exact .inr ⟨o, by rw [upd_ne e]; exact q⟩
theorem tups_chd {H H' : Hp} {p : Addr} {u : HO} (c : Chd p H H') (h : H p = some u) (k : Plain u) : Tups H H' := fun b xs q => by
  have e : b ≠ p := fun e => by
    subst e
    rcases q with q | ⟨o, q⟩
    · rw [h] at q; cases q; exact k
    · rw [h] at q; cases q; exact k
  rcases q with q | ⟨o, q⟩
  · exact .inl (c _ _ e q)
  · exact .inr ⟨o, c _ _ e q⟩
theorem tups_t {K : PySem.W.Frag} {H H' : Hp} {a : Addr} {xs : List V} (e : Tups H H') (h : SqT K H a xs) : SqT K H' a xs := by
  rcases h with h | h
  · exact .inl (e _ _ h)
  · exact .inr h

/-! ### what kind a thing is -/
inductive Knd (K : PySem.W.Frag) (H : Hp) : V → String → Prop where
  | non : Knd K H .non "NoneType"
  | bl (b : Bool) : Knd K H (.bl b) "bool"
  | int (i : Int) : Knd K H (.int i) "int"
  | str (z : Str) (h : z.length ≤ 100000) : Knd K H (.str z) "str"
  | lst {a : Addr} {xs : List V} (h : SqL K H a xs) : Knd K H (.ref a) "list"
  | tup {a : Addr} {xs : List V} (h : SqT K H a xs) : Knd K H (.ref a) "tuple"
  | dict {a : Addr} {kvs : List (Key × V)} (h : H a = some (.dK kvs)) : Knd K H (.ref a) "dict"
theorem ty_lst {K : PySem.W.Frag} {H : Hp} {a : Addr} {xs : List V} (h : SqL K H a xs) : TyX K H (.ref a) (.type "list") := by
  rcases h with (h | ⟨o, h⟩) | ⟨o, its, n, hk, hc, _⟩
  · exact .base (.lst h)
  · exact .base (.frz h)
  · exact .kList hk hc
theorem ty_tup {K : PySem.W.Frag} {H : Hp} {a : Addr} {xs : List V} (h : SqT K H a xs) : TyX K H (.ref a) (.type "tuple") := by
  rcases h with (h | ⟨o, h⟩) | ⟨o, its, n, hk, hc, _⟩
  · exact .base (.tup h)
  · exact .fTuple h
  · exact .kTuple hk hc
theorem Knd.ty {K : PySem.W.Frag} {H : Hp} {v : V} {n : String} (k : Knd K H v n) : TyX K H v (.type n) := by
  cases k with
  | non => exact .base .non
  | bl b => exact .base (.bl b)
  | int i => exact .base (.int i)
  | str z _ => exact .base (.str z)
  | lst h => exact ty_lst h
  | tup h => exact ty_tup h
  | dict h => exact .base (.dK h)
theorem Knd.mono {K : PySem.W.Frag} {H H' : Hp} {v : V} {n : String} (e : Same H H') (k : Knd K H v n) : Knd K H' v n := by
  cases k with
  | non => exact .non
  | bl b => exact .bl b
  | int i => exact .int i
  | str z h => exact .str z h
  | lst h => exact .lst (same_l e h)
  | tup h => exact .tup (same_t e h)
  | dict h => exact .dict (e _ _ h)
theorem Knd.str_inv {K : PySem.W.Frag} {H : Hp} {v : V} {n : String} (k : Knd K H v n) (e : n = "str") : ∃ z, v = .str z ∧ z.length ≤ 100000 := by
  cases k <;> first | exact ⟨_, rfl, by assumption⟩ | exact absurd e (by decide)
theorem Knd.isStr {K : PySem.W.Frag} {H : Hp} {v : V} {n : String} (k : Knd K H v n) : kitB n "str" = some (n == "str") := by
  cases k <;> decide +kernel
theorem Knd.isTup {K : PySem.W.Frag} {H : Hp} {v : V} {n : String} (k : Knd K H v n) : kitB n "tuple" = some (n == "tuple") := by
  cases k <;> decide +kernel
theorem Knd.isList {K : PySem.W.Frag} {H : Hp} {v : V} {n : String} (k : Knd K H v n) : kitB n "list" = some (n == "list") := by
  cases k <;> decide +kernel
theorem Knd.isBool {K : PySem.W.Frag} {H : Hp} {v : V} {n : String} (k : Knd K H v n) : kitB n "bool" = some (n == "bool") := by
  cases k <;> decide +kernel
theorem Knd.isInt {K : PySem.W.Frag} {H : Hp} {v : V} {n : String} (k : Knd K H v n) : kitB n "int" = some (n == "int" || n == "bool") := by
  cases k <;> decide +kernel

/-! ### a walk over a text -/
theorem for_str {x : Str} {g : TG} {tb : TS} {D : Ends} {σ : L2.St} {H : Hp} (Pv : Nat → L2.St → Hp → Prop) (h0 : Pv 0 σ H)
    (hs : ∀ (i c : Nat) (σ : L2.St) (H : Hp), x.cps.toList[i]? = some c → Pv i σ H → g (.str ⟨#[c]⟩) σ H fun σ2 H2 => tb { D with nx := Pv (i + 1), ct := Pv (i + 1), bk := D.nx } σ2 H2) (hd : ∀ σ H, Pv x.cps.toList.length σ H → D.nx σ H) :
    ∃ W : Nat → Nat → L2.St → Hp → Prop, (∃ m, W 0 m σ H) ∧ ∀ i m σ H, W i m σ H →
      ((Its x).stop i H ∧ D.nx σ H) ∨ ((Its x).go i H ∧ ∃ N : L2.St → Hp → Prop, (∀ σ' H', N σ' H' → ∃ m', m' < m ∧ W (i + 1) m' σ' H') ∧ ∀ y H', (Its x).yld i H y H' → g y σ H' fun σ2 H2 => tb { D with nx := N, ct := N, bk := D.nx } σ2 H2) := by
  have hsz : x.cps.toList.length = x.cps.size := by simp
  refine ⟨fun i m σ H => m = x.cps.size - i ∧ i ≤ x.cps.size ∧ Pv i σ H, ⟨x.cps.size, by simp, Nat.zero_le _, h0⟩, ?_⟩
  rintro i m σ H ⟨rfl, hi, p⟩
  by_cases hlt : i < x.cps.size
  · refine .inr ⟨hlt, Pv (i + 1), fun σ' H' p' => ⟨x.cps.size - (i + 1), by omega, rfl, hlt, p'⟩, fun y H' q => ?_⟩
    obtain ⟨e, c, hc, ey⟩ := q
    subst e ey
    exact hs i c σ _ (by rw [Array.getElem?_toList]; exact hc) p
  · have e : i = x.cps.size := by omega
    subst e
    exact .inl ⟨Nat.le_refl _, hd σ H (by rw [hsz]; exact p)⟩

/-! ### small letters -/
abbrev az : Str := "abcdefghijklmnopqrstuvwxyz"
theorem az_codes : az.cps.toList = (List.range 26).map (· + 97) := by decide +kernel
theorem az_len : az.cps.toList.length = 26 := by rw [az_codes]; rfl
theorem az_sz : az.length ≤ sizeLine := by
  have e : az.length = 26 := by rw [← az_len]; simp [Str.length]
  rw [e]; decide
theorem az_at {i : Int} (h0 : 0 ≤ i) (h : i < 26) : atI az.cps.toList i = some (i.toNat + 97) := by
  refine at_nat (j := i.toNat) (by omega) ?_
  rw [az_codes, List.getElem?_map, List.getElem?_range (by omega)]
  rfl
theorem az_mem {c : Nat} : c ∈ az.cps.toList ↔ 97 ≤ c ∧ c ≤ 122 := by
  rw [az_codes, List.mem_map]
  constructor
  · rintro ⟨a, h, rfl⟩
    have := List.mem_range.mp h
    omega
  · rintro ⟨h1, h2⟩
    exact ⟨c - 97, List.mem_range.mpr (by omega), by omega⟩
/-- a text of n small letters -/
structure Az (z : Str) (n : Nat) : Prop where
  all : ∀ c ∈ z.cps.toList, 97 ≤ c ∧ c ≤ 122
  len : z.length = n
theorem str_len (z : Str) : z.length = z.cps.toList.length := by simp [Str.length]
theorem str_app_len (a b : Str) : (a ++ b).length = a.length + b.length := Str.length_append a b
theorem str_app_codes (a b : Str) : (a ++ b).cps.toList = a.cps.toList ++ b.cps.toList := by
  show (a.cps ++ b.cps).toList = _
  simp
theorem Az.one {c : Nat} (h : 97 ≤ c ∧ c ≤ 122) : Az ⟨#[c]⟩ 1 where
  all := fun d hd => by
    have e : d = c := by simpa using hd
    rw [e]
    exact h
  len := rfl
theorem Az.app {a b : Str} {n m : Nat} (h : Az a n) (k : Az b m) : Az (a ++ b) (n + m) where
  all := fun c hc => by
    rw [str_app_codes] at hc
    rcases List.mem_append.mp hc with q | q
    · exact h.all c q
    · exact k.all c q
  len := by rw [str_app_len, h.len, k.len]
theorem Az.nil : Az "" 0 where
  all := fun c hc => by
    have e : ("" : Str).cps.toList = [] := by decide +kernel
    rw [e] at hc
    cases hc
  len := by decide +kernel
theorem Az.ok {z : Str} {n : Nat} (h : Az z n) : PyData.strOk z = true := by
  unfold PyData.strOk
  rw [Array.all_eq_true']
  intro c hc
  have := h.all c (Array.mem_toList_iff.mpr hc)
  exact decide_eq_true (by omega)

theorem cutV_map {α : Type} (f : α → V) (ns : List α) (lo hi : Option Int) : ∃ ms : List α, cutV (ns.map f) lo hi = ms.map f ∧ ms.length ≤ ns.length := by
  refine ⟨(ns.drop (HT.sIx (ns.map f).length 0 lo)).take (HT.sIx (ns.map f).length (ns.map f).length hi - HT.sIx (ns.map f).length 0 lo), ?_, ?_⟩
  · unfold cutV
    rw [List.map_take, List.map_drop]
  · rw [List.length_take, List.length_drop]
    omega
theorem cut_dp {α : Type} {K : PySem.W.Frag} {H : Hp} (f : α → PyData) {ns : List α} {xs : List V} (h : DpAll K H xs (ns.map f)) (lo hi : Option Int) : ∃ ms : List α, DpAll K H (cutV xs lo hi) (ms.map f) ∧ ∀ m ∈ ms, m ∈ ns := by
  unfold cutV
  generalize HT.sIx xs.length 0 lo = d
  generalize HT.sIx xs.length xs.length hi - d = e
  refine ⟨(ns.drop d).take e, ?_, fun m hm => List.mem_of_mem_drop (List.mem_of_mem_take hm)⟩
  rw [List.map_take, List.map_drop]
  exact dpAll_take _ (dpAll_drop _ h)
/-! ### comprehensions over a list -/
section
variable {K : PySem.W.Frag} {H : Hp}
/-- [e for x in xs], each e a value that leaves what stood -/
theorem lc_map {a : Addr} {xs : List V} {tl te : TE} {j : Nat} {σ : L2.St} {Q : VK} (f : Nat → V) (hl : SqL K H a xs) (htl : ∀ R, R (.ref a) H → tl σ H R) (hz : xs.length < 100000) (hw : ∀ x, wipe ((wipe σ [j]).set j (some x)) [j] = wipe σ [j])
    (he : ∀ (i : Nat) (x : V) (H1 : Hp) (R : VK), xs[i]? = some x → Same H H1 → (∀ H2, Same H1 H2 → R (f i) H2) → te ((wipe σ [j]).set j (some x)) H1 R)
    (q : ∀ (p : Addr) (H2 : Hp), H p = none → Same H H2 → H2 p = some (.lst ((List.range xs.length).map f)) → Q (.ref p) H2) : uLc (iList K tl) (gName j) tYes te [j] σ H Q := by
  refine uLc_of (htl _ ⟨a, rfl, ⟨xs, hl⟩, fun D hD => lc_list (K := K) (a := a) (xs := xs) (fun i H' => Same H H' ∧ H' D = some (.lst ((List.range i).map f))) ⟨same_new hD, upd_same⟩ (fun i H' _ h => same_l h.1 hl) ?_ ?_⟩)
  · rintro i x H' e ⟨s, hd⟩
    have hi : i < xs.length := (List.getElem?_eq_some_iff.mp e).1
    refine ⟨hw x, ?_⟩
    unfold tYes
    dsimp only
    rw [if_pos rfl]
    refine he i x H' _ e s fun H2 s2 => ⟨_, s2 _ _ hd, szl (by simp; omega), same_mut (s.trans s2) hD, ?_⟩
    rw [upd_same, List.range_succ, List.map_append]
    rfl
  · rintro H' ⟨s, hd⟩
    exact q D H' hD s hd
end

/-! ### rows -/
structure Row where
  n : Int
  one : Str
  other : Str
  rise : Int
deriving DecidableEq
def rowV (r : Row) : List V := [.int r.n, .str r.one, .str r.other, .int r.rise]
def rowD (r : Row) : PyData := .tuple [.int r.n, .str r.one, .str r.other, .int r.rise]
def rowsD (rows : List Row) : PyData := .list (rows.map rowD)
section
variable {K : PySem.W.Frag} {H H' : Hp}
theorem row_at {v : V} {r : Row} (h : Dp K H v (rowD r)) : ∃ a, v = .ref a ∧ SqT K H a (rowV r) := by
  obtain ⟨a, xs, rfl, h, al⟩ := dp_tup h
  obtain ⟨_, _, rfl, h1, al⟩ := dpAll_cons al
  obtain ⟨_, _, rfl, h2, al⟩ := dpAll_cons al
  obtain ⟨_, _, rfl, h3, al⟩ := dpAll_cons al
  obtain ⟨_, _, rfl, h4, al⟩ := dpAll_cons al
  obtain rfl := dpAll_nil al
  obtain rfl := dp_int h1
  obtain rfl := dp_str h2
  obtain rfl := dp_str h3
  obtain rfl := dp_int h4
  exact ⟨a, rfl, h⟩
theorem row_mk {a : Addr} {r : Row} (h : SqT K H a (rowV r)) : Dp K H (.ref a) (rowD r) := .tup h (.cons (.int _) (.cons (.str _) (.cons (.str _) (.cons (.int _) .nil))))
theorem rows_at {v : V} {rows : List Row} (h : Dp K H v (rowsD rows)) : ∃ a xs, v = .ref a ∧ SqL K H a xs ∧ xs.length = rows.length ∧ (∀ (i : Nat) x, xs[i]? = some x → ∃ r t, rows[i]? = some r ∧ x = .ref t ∧ SqT K H t (rowV r)) := by
  obtain ⟨a, xs, rfl, h, al⟩ := dp_lst h
  refine ⟨a, xs, rfl, h, by rw [dpAll_length al, List.length_map], fun i x e => ?_⟩
  obtain ⟨d, hd, h1⟩ := dpAll_get al e
  rw [List.getElem?_map] at hd
  cases er : rows[i]? with
  | none => rw [er] at hd; cases hd
  | some r =>
    rw [er] at hd
    have e : rowD r = d := Option.some.inj hd
    subst e
    obtain ⟨t, rfl, h2⟩ := row_at h1
    exact ⟨r, t, rfl, rfl, h2⟩
theorem row_tups {v : V} {r : Row} (e : Tups H H') (h : Dp K H v (rowD r)) : Dp K H' v (rowD r) := by
  obtain ⟨a, rfl, h2⟩ := row_at h
  exact row_mk (tups_t e h2)
theorem prows_tups (e : Tups H H') : ∀ {rows : List Row} {xs : List V}, DpAll K H xs (rows.map rowD) → DpAll K H' xs (rows.map rowD)
  | [], _, .nil => .nil
  | r :: rows, _, .cons a b => .cons (row_tups e a) (prows_tups e b)
theorem rowD_eqv (r s : Row) : PyData.eqv (rowD r) (rowD s) = decide (r = s) := by
  obtain ⟨a, b, c, d⟩ := r
  obtain ⟨a', b', c', d'⟩ := s
  have e : PyData.eqv (rowD ⟨a, b, c, d⟩) (rowD ⟨a', b', c', d'⟩) = ((a == a') && ((b == b') && ((c == c') && ((d == d') && true)))) := by simp only [rowD, PyData.eqv, PyData.eqvAll]
  rw [e]
  by_cases h : (⟨a, b, c, d⟩ : Row) = ⟨a', b', c', d'⟩
  · cases h; simp
  · rw [decide_eq_false h]
    by_cases h1 : a = a'
    · by_cases h2 : b = b'
      · by_cases h3 : c = c'
        · by_cases h4 : d = d'
          · exact absurd (by rw [h1, h2, h3, h4]) h
          · simp [h4]
        · simp [h3]
      · simp [h2]
    · simp [h1]
theorem rowsD_eqv : ∀ (a b : List Row), PyData.eqvAll (a.map rowD) (b.map rowD) = decide (a = b)
  | [], [] => by simp [PyData.eqvAll]
  | [], _ :: _ => by simp [PyData.eqvAll]
  | _ :: _, [] => by simp [PyData.eqvAll]
  | r :: a, s :: b => by
    rw [List.map_cons, List.map_cons, PyData.eqvAll, rowD_eqv, rowsD_eqv a b]
    by_cases h1 : r = s
    · by_cases h2 : a = b
      · simp [h1, h2]
      · simp [h1, h2]
    · simp [h1]
/-- a row's texts are texts -/
def Row.Ok (r : Row) : Prop := PyData.strOk r.one = true ∧ PyData.strOk r.other = true
theorem rowD_lay {r : Row} (h : r.Ok) : (rowD r).canLay0 = true := by simp [rowD, PyData.canLay0, PyData.canLayAll0, h.1, h.2]
theorem rowD_depth (r : Row) : (rowD r).depth = 1 := by simp [rowD, PyData.depth, PyData.depthAll]
theorem rowD_shaped {r : Row} (h : r.Ok) : SeqAt.shaped (rowD r) = true := by
  show ((rowD r).canLay0 && decide ((rowD r).depth ≤ 64)) = true
  rw [Bool.and_eq_true, rowD_depth]
  exact ⟨rowD_lay h, by decide⟩
theorem rowsD_lay : ∀ {rows : List Row}, (∀ r ∈ rows, r.Ok) → PyData.canLayAll0 (rows.map rowD) = true
  | [], _ => by simp [PyData.canLayAll0]
  | r :: rows, h => by simp [PyData.canLayAll0, rowD_lay (h r (List.mem_cons_self ..)), rowsD_lay fun s hs => h s (List.mem_cons_of_mem _ hs)]
theorem rowsD_depth : ∀ rows : List Row, PyData.depthAll (rows.map rowD) ≤ 1
  | [] => by simp [PyData.depthAll]
  | r :: rows => by
    have h1 := rowsD_depth rows
    have h2 := rowD_depth r
    simp only [List.map_cons, PyData.depthAll]
    omega
theorem rowsD_shaped {rows : List Row} (h : ∀ r ∈ rows, r.Ok) : SeqAt.shaped (rowsD rows) = true := by
  have h1 := rowsD_depth rows
  have h2 : PyData.depth (rowsD rows) ≤ 64 := by
    simp only [rowsD, PyData.depth]
    omega
  show (PyData.canLay0 (rowsD rows) && decide (PyData.depth (rowsD rows) ≤ 64)) = true
  rw [Bool.and_eq_true]
  exact ⟨by simp only [rowsD, PyData.canLay0]; exact rowsD_lay h, decide_eq_true h2⟩
end
end Peg

/-! PegM: pegs, rows, ways: the mathematics, no program in sight. -/
namespace Peg
open PySem

def Row.turn (r : Row) : Row := ⟨r.n, r.other, r.one, 0 - r.rise⟩
theorem Row.turn_turn (r : Row) : r.turn.turn = r := by
  obtain ⟨a, b, c, d⟩ := r
  show (⟨a, b, c, 0 - (0 - d)⟩ : Row) = ⟨a, b, c, d⟩
  have e : 0 - (0 - d) = d := by omega
  rw [e]
def IsStep (rows : List Row) (s : Row) : Prop := s ∈ rows ∨ s.turn ∈ rows
theorem IsStep.turn {rows : List Row} {s : Row} (h : IsStep rows s) : IsStep rows s.turn := by
  rcases h with h | h
  · exact .inr (by rw [Row.turn_turn]; exact h)
  · exact .inl h
/-- what is laid under the pegs, in its order -/
def adds (rows : List Row) : List Row := rows.flatMap fun r => [r, r.turn]
theorem mem_adds {rows : List Row} {s : Row} : s ∈ adds rows ↔ IsStep rows s := by
  unfold adds
  rw [List.mem_flatMap]
  constructor
  · rintro ⟨r, hr, h⟩
    rcases List.mem_cons.mp h with rfl | h
    · exact .inl hr
    · have h : s = r.turn := by simpa using h
      subst h
      exact .inr (by rw [Row.turn_turn]; exact hr)
  · rintro (h | h)
    · exact ⟨s, h, by simp⟩
    · exact ⟨s.turn, h, by rw [Row.turn_turn]; simp⟩
theorem adds_snoc (rows : List Row) (r : Row) : adds (rows ++ [r]) = adds rows ++ [r] ++ [r.turn] := by
  unfold adds
  rw [List.flatMap_append, List.append_assoc]
  rfl
theorem adds_len (rows : List Row) : (adds rows).length = 2 * rows.length := by
  unfold adds
  induction rows with
  | nil => rfl
  | cons r rows ih =>
    rw [List.flatMap_cons, List.length_append, ih, List.length_cons]
    simp only [List.length_cons, List.length_nil]
    omega
/-- the steps that go from p -/
def from_ (S : List Row) (p : Str) : List Row := S.filter fun s => decide (s.one = p)
theorem mem_from {S : List Row} {p : Str} {s : Row} : s ∈ from_ S p ↔ s ∈ S ∧ s.one = p := by
  unfold from_
  rw [List.mem_filter]
  simp
theorem from_snoc_same (S : List Row) (s : Row) : from_ (S ++ [s]) s.one = from_ S s.one ++ [s] := by
  unfold from_
  rw [List.filter_append]
  simp
theorem from_snoc_ne (S : List Row) (s : Row) {p : Str} (h : p ≠ s.one) : from_ (S ++ [s]) p = from_ S p := by
  unfold from_
  rw [List.filter_append]
  have e : decide (s.one = p) = false := decide_eq_false (fun q => h q.symm)
  simp [e]
theorem from_len (S : List Row) (p : Str) : (from_ S p).length ≤ S.length := List.length_filter_le ..

/-! ### ways -/
inductive Way (rows : List Row) : Str → List Row → Str → Prop where
  | nil (a : Str) : Way rows a [] a
  | cons {s : Row} {ss : List Row} {b : Str} (h : IsStep rows s) (t : Way rows s.other ss b) : Way rows s.one (s :: ss) b
theorem Way.append {rows : List Row} {a b c : Str} {ss ts : List Row} (h : Way rows a ss b) (k : Way rows b ts c) : Way rows a (ss ++ ts) c := by
  induction h with
  | nil a => exact k
  | cons h t ih => exact .cons h (ih k)
theorem Way.one {rows : List Row} {s : Row} (h : IsStep rows s) : Way rows s.one [s] s.other := .cons h (.nil _)
theorem Way.mono {rows rows' : List Row} {a b : Str} {ss : List Row} (w : ∀ s, IsStep rows s → IsStep rows' s) (h : Way rows a ss b) : Way rows' a ss b := by
  induction h with
  | nil a => exact .nil a
  | cons h t ih => exact .cons (w _ h) ih
def Reach (rows : List Row) (a b : Str) : Prop := ∃ ss, Way rows a ss b
theorem Reach.refl (rows : List Row) (a : Str) : Reach rows a a := ⟨[], .nil a⟩
theorem Reach.trans {rows : List Row} {a b c : Str} (h : Reach rows a b) (k : Reach rows b c) : Reach rows a c := by
  obtain ⟨ss, h⟩ := h
  obtain ⟨ts, k⟩ := k
  exact ⟨_, h.append k⟩
theorem Reach.step {rows : List Row} {s : Row} (h : IsStep rows s) : Reach rows s.one s.other := ⟨_, .one h⟩
theorem Reach.snoc {rows : List Row} {a : Str} {s : Row} (h : Reach rows a s.one) (k : IsStep rows s) : Reach rows a s.other := h.trans (.step k)
theorem Way.symm {rows : List Row} {a b : Str} {ss : List Row} (h : Way rows a ss b) : Reach rows b a := by
  induction h with
  | nil a => exact .refl _ _
  | cons h t ih =>
    have k : Reach rows _ _ := .step h.turn
    exact ih.trans k
theorem Reach.symm {rows : List Row} {a b : Str} (h : Reach rows a b) : Reach rows b a := let ⟨_, w⟩ := h; w.symm
theorem Reach.mono {rows rows' : List Row} {a b : Str} (w : ∀ s, IsStep rows s → IsStep rows' s) (h : Reach rows a b) : Reach rows' a b := let ⟨ss, k⟩ := h; ⟨ss, k.mono w⟩
/-- what is closed under the steps has all that is come to -/
theorem Reach.closed {rows : List Row} {a b : Str} {S : Str → Prop} (h : ∀ s, IsStep rows s → S s.one → S s.other) (ha : S a) (r : Reach rows a b) : S b := by
  obtain ⟨ss, w⟩ := r
  induction w with
  | nil a => exact ha
  | cons k t ih => exact ih (h _ k ha)
/-- closed under the rows, either way -/
theorem Reach.closedR {rows : List Row} {a b : Str} {S : Str → Prop} (h : ∀ r ∈ rows, S r.one ↔ S r.other) (ha : S a) (r : Reach rows a b) : S b := r.closed (fun s k hs => by
  rcases k with k | k
  · exact (h s k).mp hs
  · exact (h s.turn k).mpr hs) ha

/-! ### lists without the same twice -/
theorem nodup_len {α : Type} [DecidableEq α] : ∀ {l m : List α}, l.Nodup → (∀ x ∈ l, x ∈ m) → l.length ≤ m.length
  | [], m, _, _ => Nat.zero_le _
  | x :: l, m, h, k => by
    obtain ⟨h1, h2⟩ := List.nodup_cons.mp h
    have hx : x ∈ m := k x (List.mem_cons_self ..)
    have e : ∀ y ∈ l, y ∈ m.erase x := fun y hy => by
      have ne : y ≠ x := fun e => h1 (e ▸ hy)
      exact (List.mem_erase_of_ne ne).mpr (k y (List.mem_cons_of_mem _ hy))
    have ih := nodup_len h2 e
    rw [List.length_erase_of_mem hx] at ih
    have : 0 < m.length := List.length_pos_of_mem hx
    rw [List.length_cons]
    omega
theorem nodup_snoc {α : Type} {l : List α} {x : α} (h : l.Nodup) (hx : ¬ x ∈ l) : (l ++ [x]).Nodup := by
  rw [List.nodup_append]
  exact ⟨h, by simp, fun a ha b hb e => by
    have hb : b = x := by simpa using hb
    rw [e, hb] at ha
    exact hx ha⟩

/-! ### what the search leaves -/
abbrev Last := List (Str × Option Row)
def Last.keys (B : Last) : List Str := B.map (·.1)
/-- each peg's last step, the pegs in the order of finding -/
structure Tree (rows : List Row) (one : Str) (B : Last) : Prop where
  nd : B.keys.Nodup
  hd : B[0]? = some (one, none)
  par : ∀ (i : Nat) (p : Str) (o : Option Row), B[i]? = some (p, o) → 0 < i → ∃ (s : Row) (j : Nat) (q : Option Row), o = some s ∧ IsStep rows s ∧ s.other = p ∧ j < i ∧ B[j]? = some (s.one, q)
structure Bfs (rows : List Row) (one : Str) (B : Last) : Prop extends Tree rows one B where
  clo : ∀ s, IsStep rows s → s.one ∈ B.keys → s.other ∈ B.keys
theorem Last.get_key {B : Last} {p : Str} (h : p ∈ B.keys) : ∃ (i : Nat) (o : Option Row), B[i]? = some (p, o) := by
  obtain ⟨⟨q, o⟩, hb, e⟩ := List.mem_map.mp h
  obtain ⟨i, hi, e2⟩ := List.mem_iff_getElem.mp hb
  have e : q = p := e
  subst e
  exact ⟨i, o, by rw [List.getElem?_eq_getElem hi, e2]⟩
theorem Last.mem_key {B : Last} {i : Nat} {p : Str} {o : Option Row} (h : B[i]? = some (p, o)) : p ∈ B.keys := List.mem_map.mpr ⟨(p, o), List.mem_of_getElem? h, rfl⟩
theorem Last.uniq {B : Last} (nd : B.keys.Nodup) {i j : Nat} {p : Str} {o o' : Option Row} (h : B[i]? = some (p, o)) (k : B[j]? = some (p, o')) : i = j ∧ o = o' := by
  have e1 : B.keys[i]? = some p := by unfold Last.keys; rw [List.getElem?_map, h]; rfl
  have e2 : B.keys[j]? = some p := by unfold Last.keys; rw [List.getElem?_map, k]; rfl
  obtain ⟨hi, ei⟩ := List.getElem?_eq_some_iff.mp e1
  obtain ⟨hj, ej⟩ := List.getElem?_eq_some_iff.mp e2
  have e : i = j := (List.getElem_inj nd).mp (ei.trans ej.symm)
  subst e
  rw [h] at k
  exact ⟨rfl, (Prod.mk.inj (Option.some.inj k)).2⟩
section
variable {rows : List Row} {one : Str} {B : Last}
theorem Tree.reach (T : Tree rows one B) : ∀ (i : Nat) (p : Str) (o : Option Row), B[i]? = some (p, o) → Reach rows one p := by
  intro i
  induction i using Nat.strongRecOn with
  | ind i ih =>
    intro p o h
    by_cases h0 : 0 < i
    · obtain ⟨s, j, q, rfl, hs, rfl, hj, hq⟩ := T.par i p o h h0
      exact (ih j hj _ _ hq).snoc hs
    · have e : i = 0 := by omega
      subst e
      rw [T.hd] at h
      cases h
      exact .refl _ _
theorem Tree.mem (T : Tree rows one B) {p : Str} (h : p ∈ B.keys) : Reach rows one p := by
  obtain ⟨i, o, e⟩ := Last.get_key h
  exact T.reach i p o e
theorem Tree.one_mem (T : Tree rows one B) : one ∈ B.keys := Last.mem_key T.hd
theorem Bfs.iff (T : Bfs rows one B) {p : Str} : p ∈ B.keys ↔ Reach rows one p :=
  ⟨T.toTree.mem, fun r => r.closed (S := fun p => p ∈ B.keys) T.clo T.one_mem⟩
/-- the first peg alone -/
theorem Tree.start (rows : List Row) (one : Str) : Tree rows one [(one, none)] where
  nd := by simp [Last.keys]
  hd := rfl
  par := fun i p o h h0 => by
    have : i < 1 := (List.getElem?_eq_some_iff.mp h).1
    omega
/-- one more peg -/
theorem Tree.snoc (T : Tree rows one B) {s : Row} {j : Nat} {q : Option Row} (hs : IsStep rows s) (hj : B[j]? = some (s.one, q)) (n : ¬ s.other ∈ B.keys) : Tree rows one (B ++ [(s.other, some s)]) where
  nd := by
    unfold Last.keys
    rw [List.map_append]
    exact nodup_snoc T.nd n
  hd := by
    have h0 : 0 < B.length := (List.getElem?_eq_some_iff.mp T.hd).1
    rw [List.getElem?_append_left h0]
    exact T.hd
  par := fun i p o h h0 => by
    have hjl : j < B.length := (List.getElem?_eq_some_iff.mp hj).1
    by_cases hi : i < B.length
    · rw [List.getElem?_append_left hi] at h
      obtain ⟨s', j', q', e1, e2, e3, e4, e5⟩ := T.par i p o h h0
      exact ⟨s', j', q', e1, e2, e3, e4, by rw [List.getElem?_append_left (by omega)]; exact e5⟩
    · have hl : i < (B ++ [(s.other, some s)]).length := (List.getElem?_eq_some_iff.mp h).1
      rw [List.length_append] at hl
      have e : i = B.length := by simp at hl; omega
      subst e
      rw [List.getElem?_append_right (Nat.le_refl _), Nat.sub_self] at h
      cases h
      exact ⟨s, j, q, rfl, hs, rfl, hjl, by rw [List.getElem?_append_left hjl]; exact hj⟩

/-! ### the way back: the places of the pegs rise along it -/
inductive Up (rows : List Row) (B : Last) : Nat → List Row → Nat → Prop where
  | nil {j : Nat} (h : j < B.length) : Up rows B j [] j
  | cons {s : Row} {ss : List Row} {i j k : Nat} {q : Option Row} (h : IsStep rows s) (hi : B[i]? = some (s.one, q)) (hj : B[j]? = some (s.other, some s)) (hl : i < j) (t : Up rows B j ss k) : Up rows B i (s :: ss) k
theorem Up.lt {i k : Nat} {ss : List Row} (u : Up rows B i ss k) : i < B.length := by
  cases u with
  | nil h => exact h
  | cons h hi hj hl t => exact (List.getElem?_eq_some_iff.mp hi).1
theorem Up.way {i k : Nat} {ss : List Row} (u : Up rows B i ss k) : ∀ {a b : Str} {o o' : Option Row}, B[i]? = some (a, o) → B[k]? = some (b, o') → Way rows a ss b := by
  induction u with
  | nil h =>
    intro a b o o' h1 h2
    rw [h1] at h2
    cases h2
    exact .nil _
  | @cons s ss i j k q h hi hj hl t ih =>
    intro a b o o' h1 h2
    rw [hi] at h1
    cases h1
    exact .cons h (ih hj h2)
theorem Up.above {i k : Nat} {ss : List Row} (u : Up rows B i ss k) : ∀ {b : Str} {o' : Option Row}, B[k]? = some (b, o') → ∀ p ∈ ss.map Row.one ++ [b], ∃ (m : Nat) (o : Option Row), i ≤ m ∧ B[m]? = some (p, o) := by
  induction u with
  | @nil j h =>
    intro b o' h2 p hp
    have e : p = b := by simpa using hp
    subst e
    exact ⟨_, _, Nat.le_refl _, h2⟩
  | @cons s ss i j k q h hi hj hl t ih =>
    intro b o' h2 p hp
    rw [List.map_cons, List.cons_append] at hp
    rcases List.mem_cons.mp hp with rfl | hp
    · exact ⟨i, q, Nat.le_refl _, hi⟩
    · obtain ⟨m, o, hm, e⟩ := ih h2 p hp
      exact ⟨m, o, by omega, e⟩
/-- no peg comes twice -/
def Simple (ss : List Row) (b : Str) : Prop := (ss.map Row.one ++ [b]).Nodup
theorem Up.simple (nd : B.keys.Nodup) {i k : Nat} {ss : List Row} (u : Up rows B i ss k) : ∀ {b : Str} {o' : Option Row}, B[k]? = some (b, o') → Simple ss b := by
  induction u with
  | nil h =>
    intro b o' h2
    simp [Simple]
  | @cons s ss i j k q h hi hj hl t ih =>
    intro b o' h2
    unfold Simple
    rw [List.map_cons, List.cons_append, List.nodup_cons]
    refine ⟨fun hm => ?_, ih h2⟩
    obtain ⟨m, o, hle, e⟩ := t.above h2 _ hm
    have := (Last.uniq nd e hi).1
    omega
end
end Peg

/-! PegH: how links and last steps lie in the heap. -/
namespace Peg
open PySem PySem.Spec PyProof.Rows L2 U

/-! ### dicts by their pairs -/
theorem nd_inj {α β : Type} {f : α → β} : ∀ {l : List α} {a b : α}, (l.map f).Nodup → a ∈ l → b ∈ l → f a = f b → a = b
  | [], _, _, _, ha, _, _ => by cases ha
  | x :: l, a, b, h, ha, hb, e => by
    rw [List.map_cons] at h
    obtain ⟨h1, h2⟩ := List.nodup_cons.mp h
    rcases List.mem_cons.mp ha with ea | ha2
    · rcases List.mem_cons.mp hb with eb | hb2
      · exact ea.trans eb.symm
      · exact absurd (List.mem_map.mpr ⟨b, hb2, by rw [← e, ea]⟩) h1
    · rcases List.mem_cons.mp hb with eb | hb2
      · exact absurd (List.mem_map.mpr ⟨a, ha2, by rw [e, eb]⟩) h1
      · exact nd_inj h2 ha2 hb2 e
section
variable {κ : Type} [DecidableEq κ]
theorem valV_mem : ∀ {kvs : List (κ × V)} {k : κ} {v : V}, (kvs.map (·.1)).Nodup → (k, v) ∈ kvs → valV kvs k = some v
  | [], _, _, _, h => by cases h
  | p :: r, k, v, nd, h => by
    rw [List.map_cons] at nd
    obtain ⟨h1, h2⟩ := List.nodup_cons.mp nd
    rcases List.mem_cons.mp h with e | h
    · subst e
      exact valV_pos rfl
    · rw [valV_neg (fun e => h1 (List.mem_map.mpr ⟨(k, v), h, e.symm⟩))]
      exact valV_mem h2 h
theorem valV_no : ∀ {kvs : List (κ × V)} {k : κ}, ¬ k ∈ kvs.map (·.1) → valV kvs k = none
  | [], _, _ => valV_nil
  | p :: r, k, h => by
    rw [List.map_cons, List.mem_cons, not_or] at h
    rw [valV_neg (fun e => h.1 e.symm)]
    exact valV_no h.2
end

/-! ### the links -/
structure Links (K : PySem.W.Frag) (H : Hp) (d : Addr) (S : List Row) (L : List (Str × Addr × List V)) : Prop where
  dict : H d = some (.dK (L.map fun e => ((Sum.inr e.1 : Key), V.ref e.2.1)))
  nd : (L.map (·.1)).Nodup
  na : (L.map (·.2.1)).Nodup
  it : ∀ e ∈ L, H e.2.1 = some (.lst e.2.2) ∧ DpAll K H e.2.2 ((from_ S e.1).map rowD)
  sub : ∀ s ∈ S, s.one ∈ L.map (·.1)
section
variable {K : PySem.W.Frag} {H H' : Hp} {d : Addr} {S : List Row} {L : List (Str × Addr × List V)}
theorem Links.mono (e : Same H H') (h : Links K H d S L) : Links K H' d S L :=
  ⟨e _ _ h.dict, h.nd, h.na, fun x hx => ⟨e _ _ (h.it x hx).1, dpAll_mono e (h.it x hx).2⟩, h.sub⟩
theorem Links.keys (h : Links K H d S L) : ((L.map fun e => ((Sum.inr e.1 : Key), V.ref e.2.1)).map (·.1)) = (L.map (·.1)).map Sum.inr := by
  rw [List.map_map, List.map_map]
  rfl
theorem nodup_inr {l : List Str} (h : l.Nodup) : (l.map (Sum.inr : Str → Key)).Nodup := by
  rw [List.nodup_iff_pairwise_ne, List.pairwise_map]
  exact (List.nodup_iff_pairwise_ne.mp h).imp fun {a b} n e => n (Sum.inr.inj e)
theorem Links.get (h : Links K H d S L) {e : Str × Addr × List V} (he : e ∈ L) : valV (L.map fun e => ((Sum.inr e.1 : Key), V.ref e.2.1)) (Sum.inr e.1) = some (.ref e.2.1) :=
  valV_mem (by rw [h.keys]; exact nodup_inr h.nd) (List.mem_map.mpr ⟨e, he, rfl⟩)
theorem Links.none (h : Links K H d S L) {p : Str} (hp : ¬ p ∈ L.map (·.1)) : valV (L.map fun e => ((Sum.inr e.1 : Key), V.ref e.2.1)) (Sum.inr p) = none :=
  valV_no (by
    rw [h.keys]
    intro m
    obtain ⟨q, hq, e⟩ := List.mem_map.mp m
    exact hp (Sum.inr.inj e ▸ hq))
theorem Links.empty (h : Links K H d S L) {p : Str} (hp : ¬ p ∈ L.map (·.1)) : from_ S p = [] := by
  unfold from_
  rw [List.filter_eq_nil_iff]
  intro s hs e
  exact hp (of_decide_eq_true e ▸ h.sub s hs)
/-- the list of a peg is another thing than the dict -/
theorem Links.ne (h : Links K H d S L) {e : Str × Addr × List V} (he : e ∈ L) : e.2.1 ≠ d := ne_of (h.it e he).1 h.dict (by intro z; cases z)

/-- a peg that has no list as yet -/
theorem Links.new (h : Links K H d S L) {k : Str} (hk : ¬ k ∈ L.map (·.1)) {z : Addr} {H1 H2 : Hp} (n : H z = Option.none) (s : Same H H1) (t : H1 z = some (.lst []))
    (c : Chd d H1 H2) (e : H2 d = some (.dK (putK (L.map fun e => ((Sum.inr e.1 : Key), V.ref e.2.1)) (Sum.inr k) (.ref z)))) : Links K H2 d S (L ++ [(k, z, [])]) := by
  have tp : Tups H H2 := (tups_of s).trans (tups_chd c (s _ _ h.dict) True.intro)
  have zd : z ≠ d := ne_of t (s _ _ h.dict) (by intro q; cases q)
  refine ⟨?_, ?_, ?_, fun x hx => ?_, fun s' hs => ?_⟩
  · rw [e, putK_new _ (h.none hk), List.map_append]
    rfl
  · rw [List.map_append]
    exact nodup_snoc h.nd hk
  · rw [List.map_append]
    refine nodup_snoc h.na fun m => ?_
    obtain ⟨x, hx, ex⟩ := List.mem_map.mp m
    have q := (h.it x hx).1
    rw [ex, n] at q
    cases q
  · rcases List.mem_append.mp hx with hx | hx
    · obtain ⟨a, b⟩ := h.it x hx
      exact ⟨c _ _ (h.ne hx) (s _ _ a), prows_tups tp b⟩
    · have ex : x = (k, z, []) := by simpa using hx
      subst ex
      refine ⟨c _ _ zd t, ?_⟩
      rw [h.empty hk]
      exact .nil
  · rw [List.map_append]
    exact List.mem_append_left _ (h.sub s' hs)
/-- one step more, at the end of its peg's list -/
theorem Links.add (h : Links K H d S L) {e : Str × Addr × List V} (he : e ∈ L) {s : Row} (hs : s.one = e.1) {v : V} (dv : Dp K H v (rowD s)) {H2 : Hp} (c : Chd e.2.1 H H2) (t : H2 e.2.1 = some (.lst (e.2.2 ++ [v]))) :
    Links K H2 d (S ++ [s]) (L.map fun x => if x.1 = e.1 then (x.1, x.2.1, x.2.2 ++ [v]) else x) := by
  have tp : Tups H H2 := tups_chd c (h.it e he).1 True.intro
  have m1 : (L.map fun x => if x.1 = e.1 then (x.1, x.2.1, x.2.2 ++ [v]) else x).map (·.1) = L.map (·.1) := by
    rw [List.map_map]
    refine List.map_congr_left fun x _ => ?_
    show (if x.1 = e.1 then (x.1, x.2.1, x.2.2 ++ [v]) else x).1 = x.1
    split <;> rfl
  have m2 : (L.map fun x => if x.1 = e.1 then (x.1, x.2.1, x.2.2 ++ [v]) else x).map (·.2.1) = L.map (·.2.1) := by
    rw [List.map_map]
    refine List.map_congr_left fun x _ => ?_
    show (if x.1 = e.1 then (x.1, x.2.1, x.2.2 ++ [v]) else x).2.1 = x.2.1
    split <;> rfl
  refine ⟨?_, by rw [m1]; exact h.nd, by rw [m2]; exact h.na, fun x hx => ?_, fun s' hs' => ?_⟩
  · rw [c _ _ (h.ne he).symm h.dict, List.map_map]
    refine congrArg (fun l => some (HO.dK l)) (List.map_congr_left fun x _ => ?_)
    show _ = ((Sum.inr (if x.1 = e.1 then (x.1, x.2.1, x.2.2 ++ [v]) else x).1 : Key), V.ref (if x.1 = e.1 then (x.1, x.2.1, x.2.2 ++ [v]) else x).2.1)
    split <;> rfl
  · obtain ⟨y, hy, ey⟩ := List.mem_map.mp hx
    by_cases q : y.1 = e.1
    · have ye : y = e := nd_inj h.nd hy he q
      subst ye
      rw [if_pos rfl] at ey
      subst ey
      refine ⟨t, ?_⟩
      show DpAll K H2 (y.2.2 ++ [v]) ((from_ (S ++ [s]) y.1).map rowD)
      rw [← hs, from_snoc_same, hs, List.map_append]
      exact dpAll_snoc (prows_tups tp (h.it y hy).2) (row_tups tp dv)
    · rw [if_neg q] at ey
      subst ey
      have ne : y.2.1 ≠ e.2.1 := fun z => q (by rw [nd_inj h.na hy he z])
      refine ⟨c _ _ ne (h.it y hy).1, ?_⟩
      rw [from_snoc_ne _ _ (by rw [hs]; exact q)]
      exact prows_tups tp (h.it y hy).2
  · rw [m1]
    rcases List.mem_append.mp hs' with q | q
    · exact h.sub s' q
    · have q : s' = s := by simpa using q
      subst q
      rw [hs]
      exact List.mem_map.mpr ⟨e, he, rfl⟩
end
/-- the links of the rows -/
def LinksOf (K : PySem.W.Frag) (H : Hp) (d : Addr) (rows : List Row) : Prop := ∃ L, Links K H d (adds rows) L ∧ ∀ p ∈ L.map (·.1), ∃ s, IsStep rows s ∧ s.one = p
theorem LinksOf.mono {K : PySem.W.Frag} {H H' : Hp} {d : Addr} {rows : List Row} (e : Same H H') (h : LinksOf K H d rows) : LinksOf K H' d rows := by
  obtain ⟨L, h, k⟩ := h
  exact ⟨L, h.mono e, k⟩

/-! ### the last steps -/
def OptRow (K : PySem.W.Frag) (H : Hp) (v : V) : Option Row → Prop
  | none => v = .non
  | some r => Dp K H v (rowD r)
theorem OptRow.tups {K : PySem.W.Frag} {H H' : Hp} (e : Tups H H') {v : V} : ∀ {o : Option Row}, OptRow K H v o → OptRow K H' v o
  | none, h => h
  | some _, h => row_tups e h
def LastKV (K : PySem.W.Frag) (H : Hp) : List (Key × V) → Last → Prop := Paired fun kv b => kv.1 = Sum.inr b.1 ∧ OptRow K H kv.2 b.2
def LastAt (K : PySem.W.Frag) (H : Hp) (p : Addr) (B : Last) : Prop := ∃ kvs, H p = some (.dK kvs) ∧ LastKV K H kvs B
section
variable {K : PySem.W.Frag} {H H' : Hp}
theorem LastKV.tups (e : Tups H H') {kvs : List (Key × V)} {B : Last} (h : LastKV K H kvs B) : LastKV K H' kvs B := Paired.mapP h fun a b q => ⟨q.1, q.2.tups e⟩
theorem LastAt.mono {p : Addr} {B : Last} (e : Same H H') (h : LastAt K H p B) : LastAt K H' p B := by
  obtain ⟨kvs, h1, h2⟩ := h
  exact ⟨kvs, e _ _ h1, h2.tups (tups_of e)⟩
theorem LastKV.keys : ∀ {kvs : List (Key × V)} {B : Last}, LastKV K H kvs B → kvs.map (·.1) = B.keys.map Sum.inr
  | _, _, .nil => rfl
  | _, _, .cons h t => by
    have ih := LastKV.keys t
    exact congr (congrArg List.cons h.1) ih
theorem LastKV.length {kvs : List (Key × V)} {B : Last} (h : LastKV K H kvs B) : kvs.length = B.length := Paired.length h
theorem LastKV.snoc : ∀ {kvs : List (Key × V)} {B : Last} {kv : Key × V} {b : Str × Option Row}, LastKV K H kvs B → (kv.1 = Sum.inr b.1 ∧ OptRow K H kv.2 b.2) → LastKV K H (kvs ++ [kv]) (B ++ [b])
  | _, _, _, _, .nil, e => .cons e .nil
  | _, _, _, _, .cons a t, e => .cons a (LastKV.snoc t e)
theorem LastKV.has {kvs : List (Key × V)} {B : Last} (h : LastKV K H kvs B) (p : Str) : (valV kvs (Sum.inr p)).isSome = decide (p ∈ B.keys) := by
  by_cases m : p ∈ B.keys
  · rw [decide_eq_true m]
    have q : (Sum.inr p : Key) ∈ kvs.map (·.1) := by rw [h.keys]; exact List.mem_map.mpr ⟨p, m, rfl⟩
    cases e : valV kvs (Sum.inr p) with
    | some v => rfl
    | none => exact absurd q (valV_not e)
  · rw [decide_eq_false m]
    have q : ¬ (Sum.inr p : Key) ∈ kvs.map (·.1) := by
      rw [h.keys]
      intro z
      obtain ⟨y, hy, e⟩ := List.mem_map.mp z
      exact m (Sum.inr.inj e ▸ hy)
    rw [valV_no q]
    rfl
theorem LastKV.get : ∀ {kvs : List (Key × V)} {B : Last} {i : Nat} {p : Str} {o : Option Row}, LastKV K H kvs B → B.keys.Nodup → B[i]? = some (p, o) → ∃ v, valV kvs (Sum.inr p) = some v ∧ OptRow K H v o
  | _, _, i, p, o, .nil, _, e => by simp at e
  | kv :: kvs, b :: B, 0, p, o, .cons h t, nd, e => by
    have e : b = (p, o) := Option.some.inj e
    subst e
    exact ⟨kv.2, valV_pos h.1, h.2⟩
  | kv :: kvs, b :: B, i + 1, p, o, .cons h t, nd, e => by
    have nd : (b.1 :: Last.keys B).Nodup := nd
    obtain ⟨n1, n2⟩ := List.nodup_cons.mp nd
    have e : B[i]? = some (p, o) := by simpa using e
    obtain ⟨v, h1, h2⟩ := LastKV.get t n2 e
    refine ⟨v, ?_, h2⟩
    rw [valV_neg]
    · exact h1
    · rw [h.1]
      intro q
      exact n1 (Sum.inr.inj q ▸ Last.mem_key e)
end
theorem any_row (rows : List Row) (s : Row) : (rows.map rowD).any (fun z => PyData.eqv z (rowD s)) = decide (s ∈ rows) := by
  induction rows with
  | nil => rfl
  | cons r rows ih =>
    rw [List.map_cons, List.any_cons, ih, rowD_eqv]
    by_cases h : r = s
    · subst h; simp
    · have h2 : ¬ s = r := fun e => h e.symm
      simp [h, h2]
end Peg

/-! PegX: list(reversed(list)). -/
namespace RTL
open PySem PySem.Spec PyProof.Rows RT
section
variable {prog : Program} {w : World} {A : Around} {E : Value → Shared → Prop} {s : Shared}
theorem extend_rev {it l S : Addr} {items : Array Value} {c0 : Nat} {res : Value} {R : Result → Shared → Prop} (hh : A.handled = none) (hit : s.heap.IsRevIter it l ((items.size : Int) - 1)) (hl : s.heap.IsList l items) (hne : l ≠ it) (hn : items.size ≤ sizeLine)
    (hSi : S ≠ it) (hSl : S ≠ l) (hS : s.heap.get? S = some { cls := .type "list", data := .seq #[] c0 })
    (hR : ∀ (h' : Heap) (tk : Nat) (acc : Array Value) (c : Nat), (∀ b o, b ≠ it → b ≠ S → s.heap.get? b = some o → h'.get? b = some o) → h'.get? S = some { cls := .type "list", dict := none, data := .seq acc c, slots := #[] } → ItemsOf (fun i v => items[items.size - 1 - i]? = some v) acc items.size → R (.ok (.ret res)) { s with heap := h', toks := tk }) :
    wpAny (model prog w) A.in1 (Builtin.List.listExtendWith (.ref S) (.ref it) res)
      (fun fin s' => match fin with | .done f => R (.ok f) s' | .again c' => c'.quiet = true ∧ codeAny (model prog w) A c' R s') (fun e s' => R (.error e) s') s := by
  have W := (Walks.listRev (prog := prog) (w := w) (A := A.in1) hh it l hne items).toS
  have hSf : S ∉ [it, l] := by simp only [List.mem_cons, List.not_mem_nil, or_false, not_or]; exact ⟨hSi, hSl⟩
  have hT : s.TypeIs (.ref it) "list_reverseiterator" := Heap.IsRevIter.typeIs hit
  have h1 : Builtin.List.listSameRef (.ref S) (.ref it) = false := by simp [Builtin.List.listSameRef, hSi]
  unfold Builtin.List.listExtendWith
  refine wpAny_bind (wpAny_typeOf hT ?_)
  rw [if_neg (by rw [h1]; decide)]
  refine wpAny_bind (wpAny_pyIter_revIter hit ?_)
  refine wpAny_bind (wpAny_holding ?_)
  unfold Builtin.List.listLengthHint
  refine wpAny_bind (wpAny_specialOf hT nolen_lri ?_)
  show wpAny _ A.in1 (specialOf (Value.ref it) (Str.ofString "__length_hint__") >>= _) _ _ _
  refine wpAny_bind (wpAny_specialOf hT hint_lri ?_)
  generalize hid : ("list_reverseiterator.__length_hint__" : String) = id0
  wp_delta
  rw [show splitId id0 = some ("list_reverseiterator", "__length_hint__") from by subst hid; decide +kernel]
  subst hid
  refine wpAny_bind (wpAny_isInstance (b := true) hT (by rw [isSubtype_type]; kernel_rfl) ?_)
  refine wpAny_pure ?_
  rw [if_neg (by decide)]
  have e0 : ((items.size : Nat) : Int) - 1 - ((0 : Nat) : Int) = (items.size : Int) - 1 := by omega
  refine wpAny_pure ⟨plainId_quiet F.plain_extend_loop _, codeAny_extend_loopS W hn _ hSf _ items.size 0 _ _ _ rfl (Nat.zero_le _) ⟨Nat.zero_le _, by rw [e0]; exact hit, hl⟩ hS (ItemsOf.nil _) fun s' acc' c' hm hS' hacc => ?_⟩
  rw [Moved.eq_with hm]
  refine hR s'.heap s'.toks acc' c' (fun b o hb hb2 e => hm.heap b o (fun hmem => ?_) e) hS' hacc
  rcases List.mem_cons.mp hmem with e' | hmem
  · exact hb2 e'
  · exact hb (List.mem_singleton.mp hmem)
theorem init_rev {it l S : Addr} {items : Array Value} {R : Result → Shared → Prop} (hh : A.handled = none) (hit : s.heap.IsRevIter it l ((items.size : Int) - 1)) (hl : s.heap.IsList l items) (hne : l ≠ it) (hn : items.size ≤ sizeLine)
    (hSi : S ≠ it) (hSl : S ≠ l) (hS : s.heap.get? S = some { cls := .type "list", data := .seq #[] })
    (hR : ∀ (h' : Heap) (tk : Nat) (acc : Array Value) (c : Nat), (∀ b o, b ≠ it → b ≠ S → s.heap.get? b = some o → h'.get? b = some o) → h'.get? S = some { cls := .type "list", dict := none, data := .seq acc c, slots := #[] } → ItemsOf (fun i v => items[items.size - 1 - i]? = some v) acc items.size → R (.ok (.ret .none)) { s with heap := h', toks := tk }) :
    wpAny (model prog w) A.in1 (Builtin.«list.__init__» ⟨[.ref S, .ref it], []⟩)
      (fun fin s' => match fin with | .done f => R (.ok f) s' | .again c' => c'.quiet = true ∧ codeAny (model prog w) A c' R s') (fun e s' => R (.error e) s') s := by
  show wpAny _ _ (do let old ← Builtin.List.listItems (.ref S); Builtin.List.listUpdate (.ref S) (fun _ => #[]); letGo old.toList.reverse; Builtin.List.listExtendWith (.ref S) (.ref it) .none) _ _ s
  refine wpAny_bind ?_
  unfold Builtin.List.listItems
  refine wpAny_bind (wpAny_seqItems hS rfl (wpAny_pure ?_))
  show wpAny _ _ (updateSeq S (fun _ => #[]) >>= fun _ => letGo (#[] : Array Value).toList.reverse >>= fun _ => Builtin.List.listExtendWith (.ref S) (.ref it) .none) _ _ s
  refine wpAny_bind (wpAny_updateSeq hS rfl ?_)
  have hS₂ := Heap.get?_update_self (Obj.mapSeq (fun _ => (#[] : Array Value))) hS rfl
  have oth : ∀ b o, b ≠ S → s.heap.get? b = some o → (s.heap.update S (Obj.mapSeq (fun _ => (#[] : Array Value)))).get? b = some o :=
    fun b o hb e => (Heap.get?_update_other _ _ (Ne.symm hb)).trans e
  refine wpAny_bind (wpAny_letGo ?_)
  obtain ⟨ol, hol, xl⟩ := id hl
  refine extend_rev hh (hit.at fun o e => oth it o hSi.symm e) ⟨ol, oth l ol hSl.symm hol, xl⟩ hne hn hSi hSl hS₂ fun h' tk acc c hk hS' hacc => hR h' tk acc c (fun b o hb hb2 e => hk b o hb hb2 (oth b o hb2 e)) hS' hacc
theorem call_list_rev {it l : Addr} {items : Array Value} {Q : Value → Shared → Prop} (hh : A.handled = none) (hit : s.heap.IsRevIter it l ((items.size : Int) - 1)) (hl : s.heap.IsList l items) (hne : l ≠ it) (hn : items.size ≤ sizeLine)
    (hQ : ∀ (h' : Heap) (tk : Nat) (acc : Array Value) (c : Nat), (∀ b o, b ≠ it → s.heap.get? b = some o → h'.get? b = some o) → h'.get? s.heap.objs.size = some { cls := .type "list", dict := none, data := .seq acc c, slots := #[] } → ItemsOf (fun i v => items[items.size - 1 - i]? = some v) acc items.size → Q (.ref s.heap.objs.size) { s with heap := h', toks := tk }) :
    wpAny (model prog w) A (call (.type "list") [.ref it]) Q E s := by
  refine callType_codes (Q₁ := fun obj s₁ => obj = .ref s.heap.objs.size ∧ s₁ = { s with heap := s.heap.push { cls := .type "list", data := .seq #[] } }) PySem.F.called_list (PySem.F.typeCall_list_1 _) PySem.F.entry_list_init
    (code_list_new _ ⟨rfl, rfl⟩) fun obj s₁ h₁ => ?_
  obtain ⟨rfl, rfl⟩ := h₁
  have hS : (s.heap.push { cls := .type "list", data := .seq #[] }).get? s.heap.objs.size = some { cls := .type "list", data := .seq #[] } := Heap.get?_push_size _ rfl
  have hr : it < s.heap.objs.size := let ⟨_, ho, _⟩ := hit; Heap.lt_size ho
  have hd : l < s.heap.objs.size := let ⟨_, ho, _⟩ := hl; Heap.lt_size ho
  refine ⟨⟨_, hS, rfl⟩, PySem.F.args_list_init_2 _ _, init_rev (A := A.in1) hh (hit.at fun o e => Heap.get?_push_of_some _ e) (hl.push _) hne hn (Nat.ne_of_gt hr) (Nat.ne_of_gt hd) hS fun h' tk acc c hk hS' hacc => ?_⟩
  exact ⟨rfl, hQ h' tk acc c (fun b o hb e => hk b o hb (Nat.ne_of_lt (Heap.lt_size e)) (Heap.get?_push_of_some _ e)) hS' hacc⟩
end
end RTL
namespace U
open PySem PySem.Spec PyProof.Rows L2
/-- list(reversed(x)), x a list -/
def uListRev (K : PySem.W.Frag) (te : TE) : TE := fun σ H Q => te σ H fun x H1 => match x with
  | .ref a => ∃ xs, SqL K H1 a xs ∧ New H1 (.lst xs.reverse) fun p H2 => Q (.ref p) H2
  | _ => False
theorem e_listRev {X : Cx} {e : Expr} {te : TE} {p p2 pos pos2 : Pos} (hc : X.calm = true) (hg : Gl X "list") (hm : X.mg "list" = none) (hv : bootBuiltins "list" = some (.type "list")) (hg2 : Gl X "reversed") (hm2 : X.mg "reversed" = none) (he : PE X e te)
    (hs : starEach [e] X.env = (false, eval e X.env) :: starEach [] X.env := by rfl)
    (hs2 : starEach [.Call (.Name "reversed" p2) [e] [] pos2] X.env = (false, eval (.Call (.Name "reversed" p2) [e] [] pos2) X.env) :: starEach [] X.env := by rfl) :
    PE X (.Call (.Name "list" p) [.Call (.Name "reversed" p2) [e] [] pos2] [] pos) (uListRev X.K te) := by
  refine ⟨fun pins s σ H Q I h => ?_⟩
  refine Call_ (ld_blt I hg hm hv (PyProof.Rows.callWith_type1 (args_cons (Call_ (ld_blt I hg2 hm2 PyProof.Rows.boot_reversed (PyProof.Rows.callWith_type1 (args_cons (thn (he.run pins s σ H _ I h) fun u s1 ⟨v, H1, I1, r1, q1⟩ => args_nil ?_) hs) hs rfl))) hs2) hs2 rfl))
  cases v with
  | ref a =>
    obtain ⟨xs, hq, q⟩ := q1
    obtain rfl : u = Value.ref a := r1
    obtain ⟨its, rv, p', hz⟩ := I1.list hq
    refine call_reversed_list p'.isList (args_nil ?_)
    have hl := p'.isList
    obtain ⟨ol, hol, _⟩ := id hl
    have hne : a ≠ s1.heap.objs.size := Nat.ne_of_lt (Heap.lt_size hol)
    have hn : its.toArray.size ≤ sizeLine := by rw [List.size_toArray, ← rv.length]; exact hz
    refine RTL.call_list_rev (s := { s1 with heap := s1.heap.push (revObj a ((its.toArray.size : Int) - 1)) }) (I1.ok.hd hc) ⟨_, Heap.get?_push_size _ rfl, rfl, rfl⟩ (hl.push _) hne hn fun h' tk acc c hk hS hi => ?_
    have kp : ∀ b o', s1.heap.get? b = some o' → h'.get? b = some o' := fun b o' e => hk b o' (Nat.ne_of_lt (Heap.lt_size e)) (Heap.get?_push_of_some _ e)
    have le : s1.heap.objs.size ≤ (s1.heap.push (revObj a ((its.toArray.size : Int) - 1))).objs.size := by rw [Heap.size_push]; exact Nat.le_succ _
    exact ⟨.ref _, _, I1.laid (t' := tk) kp le (show ObjOk X.prog X.w _ h' _ (.lst xs.reverse) from ⟨by rw [List.length_reverse]; exact hz, acc.toList, c, RT.vals_rev rv hi, by rw [Array.toArray_toList]; exact hS⟩), rfl, New.at q _ (I1.hok.fresh le)⟩
  | _ => exact False.elim q1
end U

namespace Peg
open PySem PySem.Spec PyProof.Rows L2 U
/-! ### row_turned -/
abbrev N_row_turned : List Str := ["row"]
def sp_row_turned (K : PySem.W.Frag) : Sp := fun vs H Q _ => ∃ (v : V) (r : Row), vs = [v] ∧ Dp K H v (rowD r) ∧ ∀ (t : Addr) (H' : Hp), Same H H' → Dp K H' (.ref t) (rowD r.turn) → Q (.ref t) H'
def t_row_turned (K : PySem.W.Frag) : TS :=
  (tRet (uTup (tCons (tOp (cIxT K) (uVar 0) (tC (.int 0))) (tCons (tOp (cIxT K) (uVar 0) (tC (.int 2))) (tCons (tOp (cIxT K) (uVar 0) (tC (.int 1))) (tCons (tOp kSub (tC (.int 0)) (tOp (cIxT K) (uVar 0) (tC (.int 3)))) tNil))))))
theorem rd_row_turned {K : PySem.W.Frag} {vs : List V} {H : Hp} {Q : VK} {E : XK} (h : sp_row_turned K vs H Q E) : t_row_turned K { nx := fun _ H' => Q .non H', rt := Q } (start N_row_turned vs) H := by
  obtain ⟨v, r, rfl, d, q⟩ := h
  obtain ⟨a, rfl, h⟩ := row_at d
  exact ⟨_, _, h, rfl, _, _, h, rfl, _, _, h, rfl, _, _, h, rfl, szr rfl, fun t H2 n s e => q t H2 s (row_mk (SqT.of e))⟩
/-! ### leaving -/
abbrev N_leaving : List Str := ["rows", "links", "row"]
def sp_leaving (K : PySem.W.Frag) : Sp := fun vs H Q _ => ∃ (v : V) (rows : List Row), vs = [v] ∧ Dp K H v (rowsD rows) ∧ rows.length ≤ 1000 ∧ ∀ (d : Addr) (H' : Hp), Same H H' → LinksOf K H' d rows → Q (.ref d) H'
def lp1_leaving (K : PySem.W.Frag) : TS :=
  (tFor (iList K (uVar 0)) (gName 2)
  (tSeq (tDrop (tBM K "list" cApp (uDSetd (uVar 1) (tOp (cIxT K) (uVar 2) (tC (.int 1))) (uLst tNil)) (tCons (uVar 2) tNil)))
  (tDrop (tBM K "list" cApp (uDSetd (uVar 1) (tOp (cIxT K) (uVar 2) (tC (.int 2))) (uLst tNil)) (tCons (tCall (sp_row_turned K) [] E0 (tCons (uVar 2) tNil)) tNil)))))
def t_leaving (K : PySem.W.Frag) : TS :=
  (tSeq (tAsg uDNew (gName 1))
  (tSeq (lp1_leaving K)
  (tRet (uVar 1))))
/-- links.setdefault(k, []).append(e), e the step s's row -/
theorem link_add {K : PySem.W.Frag} {H0 H : Hp} {d : Addr} {S : List Row} {L : List (Str × Addr × List V)} (h : Links K H d S L) (s0 : Same H0 H) (h0 : H0 d = none) (hL : ∀ e ∈ L, H0 e.2.1 = none) (hl : L.length < 10000) (hS : S.length < 10000)
    {s : Row} {k : Str} (hk : s.one = k) {v0 w0 : Option V} {σ : L2.St} (hσ : σ = [v0, some (.ref d), w0]) {D : Ends} {tk tv : TE} (ek : ∀ (R : VK), R (.str k) H → tk σ H R)
    (ev : ∀ (H1 : Hp) (R : VK), Tups H H1 → (∀ (t : Addr) (H2 : Hp), Same H1 H2 → Dp K H2 (.ref t) (rowD s) → R (.ref t) H2) → tv σ H1 R)
    (q : ∀ (L' : List (Str × Addr × List V)) (H' : Hp), Same H0 H' → Tups H H' → Links K H' d (S ++ [s]) L' → (∀ e ∈ L', H0 e.2.1 = none) → L'.length ≤ L.length + 1 → (∀ p ∈ L'.map (·.1), p ∈ L.map (·.1) ∨ p = k) → D.nx σ H') :
    tDrop (tBM K "list" cApp (uDSetd (uVar 1) tk (uLst tNil)) (tCons tv tNil)) D σ H := by
  subst hσ
  refine ⟨⟨_, h.dict⟩, ek _ ⟨szr rfl, fun z H1 nz s1 t1 => ⟨_, Sum.inr k, s1 _ _ h.dict, rfl, szl (by rw [List.length_map]; omega), fun v hv => ?_, fun hn => fun H2 c2 e2 => ?_⟩⟩⟩
  · -- there
    have hm : k ∈ L.map (·.1) := Decidable.by_contra fun m => by rw [h.none m] at hv; cases hv
    obtain ⟨e, he, rfl⟩ := List.mem_map.mp hm
    rw [h.get he] at hv
    have hv := (Option.some.inj hv).symm
    subst hv
    have h1 := h.mono s1
    refine ⟨.inl ⟨rfl, _, SqL.of (h1.it e he).1⟩, ev H1 _ (tups_of s1) fun t H2 s2 dt => ?_⟩
    have h2 := h1.mono s2
    have hlen : e.2.2.length < 100000 := by
      have a := dpAll_length (h2.it e he).2
      rw [List.length_map] at a
      have b := from_len S e.1
      omega
    refine ⟨_, (h2.it e he).1, szl hlen, fun H3 c3 t3 => ?_⟩
    have h3 := h2.add he hk dt c3 t3
    have m1 : (L.map fun x => if x.1 = e.1 then (x.1, x.2.1, x.2.2 ++ [V.ref t]) else x).map (·.1) = L.map (·.1) := by
      rw [List.map_map]
      refine List.map_congr_left fun x _ => ?_
      show (if x.1 = e.1 then (x.1, x.2.1, x.2.2 ++ [V.ref t]) else x).1 = x.1
      split <;> rfl
    refine q _ H3 ((same_chd ((s0.trans s1).trans s2) c3 (hL e he))) (((tups_of s1).trans (tups_of s2)).trans (tups_chd c3 (h2.it e he).1 True.intro)) h3 (fun x hx => ?_) (by rw [List.length_map]; omega) (fun p hp => ?_)
    · obtain ⟨y, hy, ey⟩ := List.mem_map.mp hx
      subst ey
      have g := hL y hy
      show H0 (if y.1 = e.1 then (y.1, y.2.1, y.2.2 ++ [V.ref t]) else y).2.1 = none
      split <;> exact g
    · rw [m1] at hp
      exact .inl hp
  · -- new
    have hm : ¬ k ∈ L.map (·.1) := fun m => by
      obtain ⟨e, he, rfl⟩ := List.mem_map.mp m
      rw [h.get he] at hn
      cases hn
    have h2 := h.new hm nz s1 t1 c2 e2
    have zd : z ≠ d := ne_of t1 (s1 _ _ h.dict) (by intro q; cases q)
    have t2 : H2 z = some (.lst []) := c2 _ _ zd t1
    have tp2 : Tups H H2 := (tups_of s1).trans (tups_chd c2 (s1 _ _ h.dict) True.intro)
    have s02 : Same H0 H2 := same_chd (s0.trans s1) c2 h0
    have z0 : H0 z = none := s0.free nz
    refine ⟨.inl ⟨rfl, _, SqL.of t2⟩, ev H2 _ tp2 fun t H3 s3 dt => ?_⟩
    have h3 := h2.mono s3
    have he : (k, z, ([] : List V)) ∈ L ++ [(k, z, [])] := by simp
    refine ⟨_, (h3.it _ he).1, szl (by show 0 < 100000; decide), fun H4 c4 t4 => ?_⟩
    have h4 := h3.add he hk dt c4 t4
    refine q _ H4 (same_chd (s02.trans s3) c4 z0) ((tp2.trans (tups_of s3)).trans (tups_chd c4 (h3.it _ he).1 True.intro)) h4 (fun x hx => ?_) (by rw [List.length_map, List.length_append]; exact Nat.le_refl _) (fun p hp => ?_)
    · obtain ⟨y, hy, ey⟩ := List.mem_map.mp hx
      subst ey
      have g : H0 y.2.1 = none := by
        rcases List.mem_append.mp hy with hy | hy
        · exact hL y hy
        · have ey : y = (k, z, []) := by simpa using hy
          subst ey
          exact z0
      show H0 (if y.1 = k then (y.1, y.2.1, y.2.2 ++ [V.ref t]) else y).2.1 = none
      split <;> exact g
    · obtain ⟨x, hx, ex⟩ := List.mem_map.mp hp
      obtain ⟨y, hy, ey⟩ := List.mem_map.mp hx
      have e1 : y.1 = p := by
        rw [← ex, ← ey]
        show y.1 = (if y.1 = k then (y.1, y.2.1, y.2.2 ++ [V.ref t]) else y).1
        split <;> rfl
      rcases List.mem_append.mp hy with hy | hy
      · exact .inl (List.mem_map.mpr ⟨y, hy, e1⟩)
      · have ey : y = (k, z, []) := by simpa using hy
        subst ey
        exact .inr e1.symm
theorem rd_leaving {K : PySem.W.Frag} {vs : List V} {H : Hp} {Q : VK} {E : XK} (h : sp_leaving K vs H Q E) : t_leaving K { nx := fun _ H' => Q .non H', rt := Q } (start N_leaving vs) H := by
  obtain ⟨v, rows, rfl, hr, hn, q⟩ := h
  obtain ⟨a, xs, rfl, hl, al⟩ := dp_lst hr
  have hxl : xs.length = rows.length := by rw [dpAll_length al, List.length_map]
  intro d H1 n1 s1 t1
  refine ⟨a, rfl, ⟨xs, same_l s1 hl⟩, for_list (K := K) (a := a) (xs := xs) (fun i σ H' => Same H H' ∧ ∃ (L : List (Str × Addr × List V)) (w : Option V), σ = [some (.ref a), some (.ref d), w] ∧ Links K H' d (adds (rows.take i)) L ∧ (∀ e ∈ L, H e.2.1 = none) ∧ L.length ≤ 2 * i ∧ ∀ p ∈ L.map (·.1), ∃ s, IsStep (rows.take i) s ∧ s.one = p)
    ⟨s1, [], _, rfl, ⟨t1, List.nodup_nil, List.nodup_nil, fun e h => (by cases h), fun s h => (by cases h)⟩, fun e h => (by cases h), Nat.le_refl _, fun p h => (by cases h)⟩ (fun i σ H' _ h => same_l h.1 hl) ?_ ?_⟩
  · rintro i x σ H2 e ⟨s2, L, w, rfl, hL, h0, hll, hkeys⟩
    obtain ⟨dd, hd, dx⟩ := dpAll_get al e
    rw [List.getElem?_map] at hd
    obtain ⟨r, er, rfl⟩ := Option.map_eq_some_iff.mp hd
    obtain ⟨t, rfl, ht⟩ := row_at dx
    have hi : i < rows.length := (List.getElem?_eq_some_iff.mp er).1
    have tk : rows.take (i + 1) = rows.take i ++ [r] := by rw [List.take_add_one, er]; rfl
    have ht2 := same_t s2 ht
    have al1 : (adds (rows.take i)).length < 9000 := by
      rw [adds_len, List.length_take]
      omega
    refine link_add (s := r) (tk := tOp (cIxT K) (uVar 2) (tC (.int 1))) (tv := uVar 2) hL s2 n1 h0 (by omega) (by omega) rfl rfl (fun R k => ⟨_, _, ht2, rfl, k⟩) (fun H3 R tp k => k t H3 (Same.refl _) (row_mk (tups_t tp ht2))) fun L1 H3 s3 tp3 hL1 h01 hl1 hk1 => ?_
    have ht3 := tups_t tp3 ht2
    refine link_add (s := r.turn) (tk := tOp (cIxT K) (uVar 2) (tC (.int 2))) (tv := tCall (sp_row_turned K) [] E0 (tCons (uVar 2) tNil)) hL1 s3 n1 h01 (by omega) (by rw [List.length_append]; simp; omega) rfl rfl (fun R k => ⟨_, _, ht3, rfl, k⟩) (fun H4 R tp k => ⟨_, r, rfl, row_mk (tups_t tp ht3), fun t' H5 s5 d5 => k t' H5 s5 d5⟩) fun L2 H4 s4 tp4 hL2 h02 hl2 hk2 => ?_
    refine ⟨s4, L2, _, rfl, ?_, h02, by omega, fun p hp => ?_⟩
    · rw [tk, adds_snoc]
      exact hL2
    · rw [tk]
      have old : ∀ s, IsStep (rows.take i) s → IsStep (rows.take i ++ [r]) s := fun s h => h.imp (fun h => List.mem_append_left _ h) fun h => List.mem_append_left _ h
      rcases hk2 p hp with h | h
      · rcases hk1 p h with h | h
        · obtain ⟨s, hs, e⟩ := hkeys p h
          exact ⟨s, old s hs, e⟩
        · exact ⟨r, .inl (by simp), h.symm⟩
      · exact ⟨r.turn, .inr (by rw [Row.turn_turn]; simp), h.symm⟩
  · rintro σ H2 ⟨s2, L, w, rfl, hL, h0, hll, hkeys⟩
    rw [hxl, List.take_length] at hL hkeys
    exact q d H2 s2 ⟨L, hL, hkeys⟩
/-! ### reached -/
abbrev N_reached : List Str := ["links", "one", "last", "at", "order", "step"]
def sp_reached (K : PySem.W.Frag) : Sp := fun vs H Q _ => ∃ (d : Addr) (one : Str) (rows : List Row), vs = [.ref d, .str one] ∧ LinksOf K H d rows ∧ rows.length ≤ 1000 ∧ ∀ (p : Addr) (H' : Hp) (B : Last), H p = none → Same H H' → LastAt K H' p B → Bfs rows one B → Q (.ref p) H'
def lp1_reached (K : PySem.W.Frag) : TS :=
  (tFor (iList K (uDGet2 (uVar 0) (tOp (cIxL K) (uVar 4) (uVar 3)) (uLst tNil))) (gName 5)
  (uIfS (uT (uDIn false (tOp (cIxT K) (uVar 5) (tC (.int 2))) (uVar 2)))
  (tSeq (uDPut (uVar 2) (tOp (cIxT K) (uVar 5) (tC (.int 2))) (uVar 5))
  (tDrop (tBM K "list" cApp (uVar 4) (tCons (tOp (cIxT K) (uVar 5) (tC (.int 2))) tNil))))
  tNext))
def lp2_reached (K : PySem.W.Frag) : TS :=
  (uWhile (uT (tOp kLt (uVar 3) (tCB (cLenQ K) (tCons (uVar 4) tNil))))
  (tSeq (lp1_reached K)
  (tAsg (tOp kAdd (uVar 3) (tC (.int 1))) (gName 3))))
def t_reached (K : PySem.W.Frag) : TS :=
  (tSeq (tAsg (uDisp1 (uVar 1) (tC .non)) (gName 2))
  (tSeq (tAsg (tC (.int 0)) (gName 3))
  (tSeq (tAsg (uLst (tCons (uVar 1) tNil)) (gName 4))
  (tSeq (lp2_reached K)
  (tRet (uVar 2))))))
theorem Tree.len {rows : List Row} {one : Str} {B : Last} (T : Tree rows one B) : B.length ≤ 2 * rows.length + 1 := by
  have h : B.keys.length ≤ (one :: (adds rows).map Row.other).length := nodup_len T.nd fun p hp => by
    obtain ⟨i, o, e⟩ := Last.get_key hp
    by_cases h0 : 0 < i
    · obtain ⟨s, j, q, _, hs, rfl, _, _⟩ := T.par i p o e h0
      exact List.mem_cons_of_mem _ (List.mem_map.mpr ⟨s, mem_adds.mpr hs, rfl⟩)
    · have e0 : i = 0 := by omega
      subst e0
      rw [T.hd] at e
      cases e
      exact List.mem_cons_self ..
  rw [List.length_cons, List.length_map, adds_len] at h
  have e : B.keys.length = B.length := List.length_map ..
  omega
structure RSt (K : PySem.W.Frag) (rows : List Row) (one : Str) (H0 H : Hp) (p1 p2 : Addr) (B : Last) : Prop where
  sm : Same H0 H
  l1 : LastAt K H p1 B
  l2 : H p2 = some (.lst (B.keys.map V.str))
  tr : Tree rows one B
/-- the steps from one peg -/
theorem reached_in {K : PySem.W.Frag} {rows : List Row} {one : Str} {H0 H : Hp} {d p1 p2 l : Addr} {at_ : Int} {w : Option V} {B0 : Last} {D : Ends} {xs : List V} {ss : List Row} {j : Nat} {p : Str} {o : Option Row} (n1 : H0 p1 = none) (n2 : H0 p2 = none) (hn : rows.length ≤ 1000)
    (R : RSt K rows one H0 H p1 p2 B0) (hl : H l = some (.lst xs)) (al : DpAll K H xs (ss.map rowD)) (l2 : l ≠ p2) (hs : ∀ s ∈ ss, IsStep rows s ∧ s.one = p) (hj : B0[j]? = some (p, o))
    (q : ∀ (H' : Hp) (w' : Option V) (C : Last), RSt K rows one H0 H' p1 p2 (B0 ++ C) → (∀ s ∈ ss, s.other ∈ Last.keys (B0 ++ C)) → D.nx [some (.ref d), some (.str one), some (.ref p1), some (.int at_), some (.ref p2), w'] H') :
    ∃ W : Nat → Nat → L2.St → Hp → Prop, (∃ m, W 0 m [some (.ref d), some (.str one), some (.ref p1), some (.int at_), some (.ref p2), w] H) ∧ ∀ i m σ H, W i m σ H →
      ((Itl K l).stop i H ∧ D.nx σ H) ∨ ((Itl K l).go i H ∧ ∃ N : L2.St → Hp → Prop, (∀ σ' H', N σ' H' → ∃ m', m' < m ∧ W (i + 1) m' σ' H') ∧ ∀ x H', (Itl K l).yld i H x H' → gName 5 x σ H' fun σ2 H2 =>
        (uIfS (uT (uDIn false (tOp (cIxT K) (uVar 5) (tC (.int 2))) (uVar 2)))
          (tSeq (uDPut (uVar 2) (tOp (cIxT K) (uVar 5) (tC (.int 2))) (uVar 5))
          (tDrop (tBM K "list" cApp (uVar 4) (tCons (tOp (cIxT K) (uVar 5) (tC (.int 2))) tNil))))
          tNext) { D with nx := N, ct := N, bk := D.nx } σ2 H2) := by
  have hxl : xs.length = ss.length := by rw [dpAll_length al, List.length_map]
  refine for_list (K := K) (a := l) (xs := xs) (fun i σ H' => ∃ (w : Option V) (C : Last), σ = [some (.ref d), some (.str one), some (.ref p1), some (.int at_), some (.ref p2), w] ∧ RSt K rows one H0 H' p1 p2 (B0 ++ C) ∧ H' l = some (.lst xs) ∧ Tups H H' ∧ ∀ s ∈ ss.take i, s.other ∈ Last.keys (B0 ++ C))
    ⟨w, [], rfl, by rw [List.append_nil]; exact R, hl, Tups.refl H, fun s h => (by cases h)⟩ (fun i σ H' _ h => by obtain ⟨w, C, _, _, h, _, _⟩ := h; exact SqL.of h) ?_ ?_
  · rintro i x σ H2 e ⟨w, C, rfl, R2, hl2, tp, hk⟩
    obtain ⟨dd, hd, dx⟩ := dpAll_get al e
    rw [List.getElem?_map] at hd
    obtain ⟨s, es, rfl⟩ := Option.map_eq_some_iff.mp hd
    obtain ⟨t, rfl, ht⟩ := row_at (row_tups tp dx)
    obtain ⟨st, so⟩ := hs s (List.mem_of_getElem? es)
    have tk : ss.take (i + 1) = ss.take i ++ [s] := by rw [List.take_add_one, es]; rfl
    obtain ⟨kvs, hkv, kv⟩ := R2.l1
    refine ⟨_, _, ht, rfl, _, DGet.k (k := Sum.inr s.other) hkv, ?_⟩
    rw [kv.has]
    refine ⟨fun h => ?_, fun h => ?_⟩
    · -- a new peg
      have nm : ¬ s.other ∈ Last.keys (B0 ++ C) := by simpa using h
      have ln := R2.tr.len
      have hjB : (B0 ++ C)[j]? = some (s.one, o) := by
        rw [List.getElem?_append_left (List.getElem?_eq_some_iff.mp hj).1, so]
        exact hj
      have T2 := R2.tr.snoc st hjB nm
      refine ⟨_, _, ht, rfl, kvs, Sum.inr s.other, hkv, rfl, szl (by rw [kv.length]; omega), fun H3 c3 t3 => ?_⟩
      have tp3 : Tups H2 H3 := tups_chd c3 hkv True.intro
      have n12 : p2 ≠ p1 := ne_of R2.l2 hkv (by intro z; cases z)
      have hp3 := c3 _ _ n12 R2.l2
      have ht3 := tups_t tp3 ht
      have s3 := same_chd R2.sm c3 n1
      refine ⟨.inl ⟨rfl, _, SqL.of hp3⟩, _, _, ht3, rfl, _, hp3, szl (by rw [List.length_map, Last.keys, List.length_map]; omega), fun H4 c4 t4 => ?_⟩
      have tp4 : Tups H3 H4 := tups_chd c4 hp3 True.intro
      have ll1 : l ≠ p1 := ne_of hl2 hkv (by intro z; cases z)
      have vn : valV kvs (Sum.inr s.other) = none := by
        have a := kv.has s.other
        rw [decide_eq_false nm] at a
        cases ev : valV kvs (Sum.inr s.other) with
        | none => rfl
        | some v => rw [ev] at a; cases a
      rw [putK_new _ vn] at t3
      refine ⟨_, C ++ [(s.other, some s)], rfl, ⟨same_chd s3 c4 n2, ⟨_, c4 _ _ n12.symm t3, ?_⟩, ?_, ?_⟩, c4 _ _ l2 (c3 _ _ ll1 hl2), (tp.trans tp3).trans tp4, fun s' hs' => ?_⟩
      · rw [← List.append_assoc]
        exact (kv.tups (tp3.trans tp4)).snoc ⟨rfl, row_mk (tups_t tp4 ht3)⟩
      · have ek : Last.keys (B0 ++ C ++ [(s.other, some s)]) = Last.keys (B0 ++ C) ++ [s.other] := List.map_append ..
        rw [t4, ← List.append_assoc, ek, List.map_append]
        rfl
      · rw [← List.append_assoc]
        exact T2
      · rw [← List.append_assoc, Last.keys, List.map_append (l₁ := B0 ++ C)]
        rw [tk] at hs'
        rcases List.mem_append.mp hs' with g | g
        · exact List.mem_append_left _ (hk s' g)
        · have g : s' = s := by simpa using g
          rw [g]
          exact List.mem_append_right _ (by simp)
    · have m : s.other ∈ Last.keys (B0 ++ C) := by simpa using h
      refine ⟨_, C, rfl, R2, hl2, tp, fun s' hs' => ?_⟩
      rw [tk] at hs'
      rcases List.mem_append.mp hs' with g | g
      · exact hk s' g
      · have g : s' = s := by simpa using g
        rw [g]
        exact m
  · rintro σ H2 ⟨w, C, rfl, R2, hl2, tp, hk⟩
    rw [hxl, List.take_length] at hk
    exact q H2 w C R2 hk
theorem rd_reached {K : PySem.W.Frag} {vs : List V} {H : Hp} {Q : VK} {E : XK} (h : sp_reached K vs H Q E) : t_reached K { nx := fun _ H' => Q .non H', rt := Q } (start N_reached vs) H := by
  obtain ⟨d, one, rows, rfl, ⟨L, hL, hkey⟩, hn, q⟩ := h
  refine fun p1 H1 n1 s1 t1 => ⟨Sum.inr one, rfl, t1, fun H2 c2 t2 => ⟨szr rfl, fun p2 H3 n2 s3 t3 => ?_⟩⟩
  have s2 := same_chd s1 c2 n1
  have s03 := s2.trans s3
  have n2' : H p2 = none := s2.free n2
  refine ⟨fun m σ H' => ∃ (k : Nat) (B : Last) (w : Option V), m + k = 2 * rows.length + 2 ∧ σ = [some (.ref d), some (.str one), some (.ref p1), some (.int k), some (.ref p2), w] ∧ RSt K rows one H H' p1 p2 B ∧ k ≤ B.length ∧ ∀ (j : Nat) (p : Str) (o : Option Row), j < k → B[j]? = some (p, o) → ∀ s, IsStep rows s → s.one = p → s.other ∈ B.keys, ⟨2 * rows.length + 2, 0, [(one, none)], none, by omega, rfl, ⟨s03, ⟨_, s3 _ _ t2, .cons ⟨rfl, rfl⟩ .nil⟩, t3, Tree.start rows one⟩, Nat.zero_le _, fun j p o h => absurd h (Nat.not_lt_zero _)⟩, ?_⟩
  rintro m σ H4 ⟨k, B, w, hm, rfl, R, hk, hd⟩
  have lk : (B.keys.map V.str).length = B.length := by rw [List.length_map, Last.keys, List.length_map]
  have ln := R.tr.len
  refine ⟨_, .inl (SqL.of R.l2), ⟨fun e => ⟨_, fun _ _ h => h, ?_⟩, fun e => ?_⟩⟩
  · have e := of_decide_eq_true e
    rw [lk] at e
    have hkl : k < B.length := by omega
    obtain ⟨⟨p, o⟩, hp⟩ : ∃ b, B[k]? = some b := ⟨_, List.getElem?_eq_getElem hkl⟩
    have hL4 := hL.mono R.sm
    have ep : (B.keys.map V.str)[k]? = some (.str p) := by rw [List.getElem?_map, Last.keys, List.getElem?_map, hp]; rfl
    refine ⟨⟨_, hL4.dict⟩, _, _, SqL.of R.l2, at_nat (j := k) rfl ep, szr rfl, fun z H5 nz s5 t5 => ⟨_, Sum.inr p, s5 _ _ hL4.dict, rfl, ?_⟩⟩
    have R5 : RSt K rows one H H5 p1 p2 B := ⟨R.sm.trans s5, R.l1.mono s5, s5 _ _ R.l2, R.tr⟩
    -- what is behind the steps from this peg
    have fin : ∀ (ss : List Row), (∀ s, IsStep rows s → s.one = p → s ∈ ss) → ∀ (H' : Hp) (w' : Option V) (C : Last), RSt K rows one H H' p1 p2 (B ++ C) → (∀ s ∈ ss, s.other ∈ Last.keys (B ++ C)) →
        ∃ m', m' < m ∧ ∃ (k' : Nat) (B' : Last) (w : Option V), m' + k' = 2 * rows.length + 2 ∧ [some (V.ref d), some (.str one), some (.ref p1), some (.int (k + 1)), some (.ref p2), w'] = [some (.ref d), some (.str one), some (.ref p1), some (.int k'), some (.ref p2), w] ∧ RSt K rows one H H' p1 p2 B' ∧ k' ≤ B'.length ∧ ∀ (j : Nat) (p : Str) (o : Option Row), j < k' → B'[j]? = some (p, o) → ∀ s, IsStep rows s → s.one = p → s.other ∈ B'.keys := fun ss hss H' w' C R' hk' => by
      refine ⟨m - 1, by omega, k + 1, B ++ C, w', by omega, rfl, R', by rw [List.length_append]; omega, fun j p' o' hj ep' s st so => ?_⟩
      by_cases hjk : j < k
      · rw [List.getElem?_append_left (by omega)] at ep'
        have := hd j p' o' hjk ep' s st so
        unfold Last.keys
        rw [List.map_append]
        exact List.mem_append_left _ this
      · have ej : j = k := by omega
        subst ej
        rw [List.getElem?_append_left hkl, hp] at ep'
        cases ep'
        exact hk' s (hss s st so)
    by_cases hmem : p ∈ L.map (·.1)
    · obtain ⟨e1, he, rfl⟩ := List.mem_map.mp hmem
      rw [hL4.get he]
      have h5 := hL4.mono s5
      have l0 := (hL.it e1 he).1
      refine ⟨e1.2.1, rfl, ⟨_, SqL.of (h5.it e1 he).1⟩, reached_in (ss := from_ (adds rows) e1.1) n1 n2' hn R5 (h5.it e1 he).1 (h5.it e1 he).2 (ne_of_none l0 n2') (fun s hs => ⟨mem_adds.mp (mem_from.mp hs).1, (mem_from.mp hs).2⟩) hp (fin _ fun s st so => mem_from.mpr ⟨mem_adds.mpr st, so⟩)⟩
    · rw [hL4.none hmem]
      refine ⟨z, rfl, ⟨_, SqL.of t5⟩, reached_in (ss := []) n1 n2' hn R5 t5 .nil (fun e => by rw [e] at nz; rw [R.l2] at nz; cases nz) (fun s hs => by cases hs) hp (fin _ fun s st so => ?_)⟩
      exact absurd (so ▸ hL.sub s (mem_adds.mpr st)) hmem
  · have e := of_decide_eq_false e
    rw [lk] at e
    have ek : k = B.length := by omega
    refine q p1 H4 B n1 R.sm R.l1 ⟨R.tr, fun s st hs => ?_⟩
    obtain ⟨j, o, ej⟩ := Last.get_key hs
    exact hd j s.one o (by have := (List.getElem?_eq_some_iff.mp ej).1; omega) ej s st rfl
/-! ### way_along -/
abbrev N_way_along : List Str := ["rows", "one", "other", "last", "back", "step"]
def sp_way_along (K : PySem.W.Frag) : Sp := fun vs H Q _ => ∃ (v : V) (rows : List Row) (one other : Str), vs = [v, .str one, .str other] ∧ Dp K H v (rowsD rows) ∧ rows.length ≤ 1000 ∧
  (¬ Reach rows one other → ∀ (H' : Hp), Same H H' → Q .non H') ∧
  ∀ (p : Addr) (H' : Hp) (xs : List V) (ss : List Row), Same H H' → H' p = some (.lst xs) → DpAll K H' xs (ss.map rowD) → Way rows one ss other → Simple ss other → ss.length ≤ 2001 → Q (.ref p) H'
def lp1_way_along (K : PySem.W.Frag) : TS :=
  (uWhile (uT (tOp (cNon false) (uVar 5) (tC .non)))
  (tSeq (tDrop (tBM K "list" cApp (uVar 4) (tCons (uVar 5) tNil)))
  (tAsg (uDGet (uVar 3) (tOp (cIxT K) (uVar 5) (tC (.int 1)))) (gName 5))))
def t_way_along (K : PySem.W.Frag) : TS :=
  (tSeq (tAsg (tCall (sp_reached K) [] E0 (tCons (tCall (sp_leaving K) [] E0 (tCons (uVar 0) tNil)) (tCons (uVar 1) tNil))) (gName 3))
  (tSeq (uIfS (uT (uDIn false (uVar 2) (uVar 3)))
  (tRet (tC .non))
  tNext)
  (tSeq (tAsg (uLst tNil) (gName 4))
  (tSeq (tAsg (uDGet (uVar 3) (uVar 2)) (gName 5))
  (tSeq (lp1_way_along K)
  (tRet (uListRev K (uVar 4))))))))
theorem rd_way_along {K : PySem.W.Frag} {vs : List V} {H : Hp} {Q : VK} {E : XK} (h : sp_way_along K vs H Q E) : t_way_along K { nx := fun _ H' => Q .non H', rt := Q } (start N_way_along vs) H := by
  obtain ⟨v, rows, one, other, rfl, hr, hn, qn, q⟩ := h
  refine ⟨v, rows, rfl, hr, hn, fun d H1 s1 hL => ⟨d, one, rows, rfl, hL, hn, fun p H2 B n2 s2 hB T => ?_⟩⟩
  have s02 := s1.trans s2
  obtain ⟨kvs, hk, kv⟩ := hB
  have ln := T.toTree.len
  refine ⟨_, DGet.k (k := Sum.inr other) hk, ?_⟩
  rw [kv.has]
  refine ⟨fun e => ?_, fun e => ?_⟩
  · have nm : ¬ other ∈ B.keys := by simpa using e
    exact qn (fun r => nm (T.iff.mpr r)) H2 s02
  · have hm : other ∈ B.keys := by simpa using e
    obtain ⟨k, o, ek⟩ := Last.get_key hm
    obtain ⟨v0, hv0, ov0⟩ := kv.get T.nd ek
    refine ⟨szr rfl, fun b H3 n3 s3 t3 => ⟨v0, ?_, ?_⟩⟩
    · rw [← hv0]
      exact DGet.k (k := Sum.inr other) (s3 _ _ hk)
    have s03 := s02.trans s3
    have n3' : H b = none := s02.free n3
    have ovt := ov0.tups (tups_of s3)
    refine ⟨fun m σ H' => ∃ (ss : List Row) (xs : List V) (w : V) (p0 : Str) (o0 : Option Row), σ = [some v, some (.str one), some (.str other), some (.ref p), some (.ref b), some w] ∧ Same H H' ∧ Tups H2 H' ∧ H' p = some (.dK kvs) ∧ H' b = some (.lst xs) ∧ DpAll K H' xs (ss.reverse.map rowD) ∧ Up rows B m ss k ∧ B[m]? = some (p0, o0) ∧ OptRow K H' w o0 ∧ ss.length + m ≤ k,
      ⟨k, [], [], v0, other, o, rfl, s03, tups_of s3, s3 _ _ hk, t3, .nil, .nil (List.getElem?_eq_some_iff.mp ek).1, ek, ovt, by simp⟩, ?_⟩
    rintro m σ H4 ⟨ss, xs, w, p0, o0, rfl, s4, tp4, hp4, hb4, al, U, em, ow, hlen⟩
    have hkB := (List.getElem?_eq_some_iff.mp ek).1
    have hmB := U.lt
    cases o0 with
    | none =>
      have ew : w = .non := ow
      subst ew
      have m0 : m = 0 := Decidable.by_contra fun h => by
        obtain ⟨s, _, _, e, _⟩ := T.par m p0 none em (by omega)
        cases e
      subst m0
      have hd := T.hd
      refine br_f ⟨xs, SqL.of hb4, fun r H5 n5 s5 t5 => q r H5 xs.reverse ss (s4.trans s5) t5 ?_ (U.way hd ek) (U.simple T.nd ek) (by omega)⟩
      have := dpAll_reverse (dpAll_mono s5 al)
      rw [← List.map_reverse, List.reverse_reverse] at this
      exact this
    | some s =>
      obtain ⟨t, rfl, ht⟩ := row_at ow
      have hpos : 0 < m := Decidable.by_contra fun h => by
        have e0 : m = 0 := by omega
        subst e0
        rw [T.hd] at em
        cases em
      obtain ⟨s', j, q', es, st, so, hj, ej⟩ := T.par m p0 (some s) em hpos
      cases es
      subst so
      obtain ⟨v1, hv1, ov1⟩ := kv.get T.nd ej
      refine br_t ⟨_, fun _ _ h => h, ?_⟩
      have hxl : xs.length = ss.length := by rw [dpAll_length al, List.length_map, List.length_reverse]
      refine ⟨.inl ⟨rfl, _, SqL.of hb4⟩, _, hb4, szl (by omega), fun H5 c5 t5 => ?_⟩
      have tp5 : Tups H4 H5 := tups_chd c5 hb4 True.intro
      have pb : p ≠ b := ne_of hp4 hb4 (by intro z; cases z)
      have hp5 := c5 _ _ pb hp4
      refine ⟨_, _, tups_t tp5 ht, rfl, v1, ?_, ?_⟩
      · rw [← hv1]
        exact DGet.k (k := Sum.inr s.one) hp5
      refine ⟨j, hj, s :: ss, _, v1, s.one, q', rfl, same_chd s4 c5 n3', tp4.trans tp5, hp5, t5, ?_, Up.cons st ej em hj U, ej, ov1.tups (tp4.trans tp5), by rw [List.length_cons]; omega⟩
      rw [List.reverse_cons, List.map_append]
      exact dpAll_snoc (prows_tups tp5 al) (row_mk (tups_t tp5 ht))
/-! ### _law_cell_at -/
abbrev N__law_cell_at : List Str := ["_law_script", "_law_k"]
def sp__law_cell_at (K : PySem.W.Frag) : Sp := fun vs H Q _ => ∃ (a : Addr) (ns : List Int) (i : Int), vs = [.ref a, .int i] ∧ SqL K H a (ns.map V.int) ∧ 0 ≤ i ∧ ∀ (n : Int), Q (.int n) H
def t__law_cell_at (K : PySem.W.Frag) : TS :=
  (tSeq (uIfS (uT (tOp kLt (uVar 1) (tCB (cLenQ K) (tCons (uVar 0) tNil))))
  (tRet (tOp (cIxL K) (uVar 0) (uVar 1)))
  tNext)
  (tRet (tC (.int 0))))
theorem at_map {α : Type} (f : α → V) {xs : List α} {i : Int} (h0 : 0 ≤ i) (h : i < xs.length) : ∃ c, c ∈ xs ∧ atI (xs.map f) i = some (f c) := by
  have e : xs[i.toNat]? = some (xs[i.toNat]'(by omega)) := List.getElem?_eq_getElem (by omega)
  exact ⟨_, List.mem_of_getElem? e, at_nat (j := i.toNat) (by omega) (by rw [List.getElem?_map, e]; rfl)⟩
theorem rd__law_cell_at {K : PySem.W.Frag} {vs : List V} {H : Hp} {Q : VK} {E : XK} (h : sp__law_cell_at K vs H Q E) : t__law_cell_at K { nx := fun _ H' => Q .non H', rt := Q } (start N__law_cell_at vs) H := by
  obtain ⟨a, ns, i, rfl, h, i0, q⟩ := h
  refine ⟨_, .inl h, ⟨fun e => ?_, fun _ => q 0⟩⟩
  have e := of_decide_eq_true e
  rw [List.length_map] at e
  obtain ⟨c, _, hc⟩ := at_map V.int i0 e
  exact ⟨_, _, h, hc, q c⟩
/-! ### _law_mixed -/
abbrev N__law_mixed : List Str := ["_law_cell"]
def sp__law_mixed (K : PySem.W.Frag) : Sp := fun vs H Q _ => ∃ (i : Int), vs = [.int i] ∧ ∀ (n : Int), 0 ≤ n → n < 2147483647 → Q (.int n) H
def t__law_mixed (K : PySem.W.Frag) : TS :=
  (tRet (tOp kMod (tOp kMul (tOp kAdd (tOp kMod (uVar 0) (tC (.int 1000003))) (tC (.int 1))) (tC (.int 48271))) (tC (.int 2147483647))))
theorem rd__law_mixed {K : PySem.W.Frag} {vs : List V} {H : Hp} {Q : VK} {E : XK} (h : sp__law_mixed K vs H Q E) : t__law_mixed K { nx := fun _ H' => Q .non H', rt := Q } (start N__law_mixed vs) H := by
  obtain ⟨i, rfl, q⟩ := h
  exact ⟨by decide, .inr (by decide), by decide, q _ (by omega) (by omega)⟩
/-! ### _law_word -/
abbrev N__law_word : List Str := ["_law_number", "_law_size", "_law_letters", "_law_word_here", "_law_k"]
def sp__law_word (K : PySem.W.Frag) : Sp := fun vs H Q _ => ∃ (i n : Int), vs = [.int i, .int n] ∧ 0 ≤ n ∧ n ≤ 16 ∧ ∀ (z : Str), Az z n.toNat → Q (.str z) H
def lp1__law_word (K : PySem.W.Frag) : TS :=
  (tFor (iRng1 (tCons (uVar 1) tNil)) (gName 4)
  (tSeq (tAsg (tOp kMod (tOp kMul (uVar 0) (tOp kAdd (tC (.int 48271)) (uVar 4))) (tC (.int 1000003))) (gName 0))
  (tAsg (tOp cAddS (uVar 3) (tOp cIxS (uVar 2) (tOp kMod (uVar 0) (tC (.int 26))))) (gName 3))))
def t__law_word (K : PySem.W.Frag) : TS :=
  (tSeq (tAsg (tC (.str "abcdefghijklmnopqrstuvwxyz")) (gName 2))
  (tSeq (tAsg (tC (.str "")) (gName 3))
  (tSeq (tAsg (tOp kAdd (tOp kMod (uVar 0) (tC (.int 1000002))) (tC (.int 1))) (gName 0))
  (tSeq (lp1__law_word K)
  (tRet (uVar 3))))))
theorem rd__law_word {K : PySem.W.Frag} {vs : List V} {H : Hp} {Q : VK} {E : XK} (h : sp__law_word K vs H Q E) : t__law_word K { nx := fun _ H' => Q .non H', rt := Q } (start N__law_word vs) H := by
  obtain ⟨i0, n, rfl, n0, n1, q⟩ := h
  refine ⟨by decide, n, rfl, by omega, by omega, for_range (lo := 0) (n := n.toNat) (fun i σ H' => H' = H ∧ ∃ (r : Int) (z : Str) (v : Option V), Az z i ∧ σ = [some (.int r), some (.int n), some (.str az), some (.str z), v]) ⟨rfl, _, "", none, Az.nil, rfl⟩ ?_ ?_⟩
  · rintro i σ H' hi ⟨rfl, r, z, v, hz, rfl⟩
    refine ⟨.inr (by omega), by decide, by decide, _, az_sz, az_at (by omega) (by omega), ?_, rfl, _, _, _, hz.app (Az.one (by omega)), rfl⟩
    have e : ∀ c, (⟨#[c]⟩ : Str).length = 1 := fun _ => rfl
    rw [hz.len, e]
    exact sz (by omega)
  · rintro σ H' ⟨rfl, r, z, v, hz, rfl⟩
    exact q z hz
/-! ### _law_pool -/
abbrev N__law_pool : List Str := ["_law_cell", "_law_many", "_law_letters", "_law_seed", "_law_base", "_law_size", "_law_at", "_law_pool_here", "_law_k", "_law_long", "_law_sign"]
/-- a peg: one to eight small letters -/
def Pg (z : Str) : Prop := ∃ n, Az z n ∧ 1 ≤ n ∧ n ≤ 8
def sp__law_pool (K : PySem.W.Frag) : Sp := fun vs H Q _ => ∃ (c n : Int), vs = [.int c, .int n] ∧ 0 ≤ n ∧ n ≤ 24 ∧ ∀ (p : Addr) (pool : List Str) (H' : Hp), H p = none → Same H H' → H' p = some (.lst (pool.map V.str)) → pool.length = n.toNat → (∀ z ∈ pool, Pg z) → Q (.ref p) H'
def lp1__law_pool (K : PySem.W.Frag) : TS :=
  (tFor (iRng1 (tCons (uVar 1) tNil)) (gName 8)
  (uIfS (uT (tOp kEqI (tOp kMod (uVar 0) (tC (.int 3))) (tC (.int 0))))
  (tSeq (tAsg (tOp kAdd (tC (.int 1)) (tOp kMod (tOp kAdd (uVar 3) (tOp kMul (uVar 8) (uVar 8))) (tC (.int 8)))) (gName 9))
  (tDrop (tBM K "list" cApp (uVar 7) (tCons (tCall (sp__law_word K) [] E0 (tCons (tOp kAdd (uVar 3) (tOp kMul (tC (.int 7919)) (uVar 8))) (tCons (uVar 9) tNil))) tNil))))
  (uIfS (uT (tOp kEqI (tOp kMod (uVar 0) (tC (.int 3))) (tC (.int 1))))
  (tSeq (tAsg (tOp cIxS (uVar 2) (tOp kMod (tOp kAdd (tOp kDiv (uVar 3) (tC (.int 64))) (uVar 8)) (tC (.int 26)))) (gName 10))
  (tDrop (tBM K "list" cApp (uVar 7) (tCons (tOp cAddS (tOp cAddS (tSl cSlS (uVar 4) tNoPart (uPart (uVar 6))) (uVar 10)) (tSl cSlS (uVar 4) (uPart (tOp kAdd (uVar 6) (tC (.int 1)))) (uPart (uVar 5)))) tNil))))
  (tDrop (tBM K "list" cApp (uVar 7) (tCons (tSl cSlS (uVar 4) (uPart (tOp kDiv (uVar 8) (tC (.int 8)))) (uPart (tOp kAdd (tOp kAdd (tOp kDiv (uVar 8) (tC (.int 8))) (tC (.int 1))) (tOp kMod (uVar 8) (tC (.int 8)))))) tNil))))))
def t__law_pool (K : PySem.W.Frag) : TS :=
  (tSeq (tAsg (tC (.str "abcdefghijklmnopqrstuvwxyz")) (gName 2))
  (tSeq (tAsg (tOp kMod (tOp kDiv (uVar 0) (tC (.int 3))) (tC (.int 1000003))) (gName 3))
  (tSeq (tAsg (tCall (sp__law_word K) [] E0 (tCons (uVar 3) (tCons (tC (.int 16)) tNil))) (gName 4))
  (tSeq (tAsg (tOp kAdd (tC (.int 1)) (tOp kMod (uVar 3) (tC (.int 8)))) (gName 5))
  (tSeq (tAsg (tOp kMod (tOp kDiv (uVar 3) (tC (.int 8))) (uVar 5)) (gName 6))
  (tSeq (tAsg (uLst tNil) (gName 7))
  (tSeq (lp1__law_pool K)
  (tRet (uVar 7)))))))))
theorem Az.cut {z : Str} {n : Nat} (h : Az z n) {lo hi : Option Int} {a b : Nat} (ha : HT.sIx z.length 0 lo = a) (hb : HT.sIx z.length z.length hi = b) (hbn : b ≤ n) : Az (cutS z lo hi) (b - a) where
  all := fun c hc => by
    unfold cutS at hc
    exact h.all c (List.mem_of_mem_drop (List.mem_of_mem_take hc))
  len := by
    rw [str_len]
    unfold cutS
    show (((z.cps.toList.drop (HT.sIx z.length 0 lo)).take (HT.sIx z.length z.length hi - HT.sIx z.length 0 lo)).toArray).toList.length = _
    rw [ha, hb, List.length_take, List.length_drop, ← str_len, h.len]
    omega
theorem six_pos {n d : Nat} {v : Int} (h : 0 ≤ v) (k : v ≤ n) : HT.sIx n d (some v) = v.toNat := by
  show (if v < 0 then (v + (n : Int)).toNat else min v.toNat n) = v.toNat
  rw [if_neg (by omega)]
  omega
theorem rd__law_pool {K : PySem.W.Frag} {vs : List V} {H : Hp} {Q : VK} {E : XK} (h : sp__law_pool K vs H Q E) : t__law_pool K { nx := fun _ H' => Q .non H', rt := Q } (start N__law_pool vs) H := by
  obtain ⟨c, n, rfl, n0, n1, q⟩ := h
  refine ⟨by decide, by decide, _, 16, rfl, by decide, by decide, fun base hb => ⟨by decide, by decide, by show 0 < 1 + _ % 8; omega, szr rfl, fun p H1 np s1 t1 => ?_⟩⟩
  have hs0 : 0 ≤ c / 3 % 1000003 := by omega
  have hb16 : base.length = 16 := hb.len
  generalize c / 3 % 1000003 = seed at hs0 ⊢
  have z1 : 1 ≤ 1 + seed % 8 ∧ 1 + seed % 8 ≤ 8 := by omega
  generalize 1 + seed % 8 = size at z1 ⊢
  have a0 : 0 ≤ seed / 8 % size := Int.emod_nonneg _ (by omega)
  have a1 : seed / 8 % size < size := Int.emod_lt_of_pos _ (by omega)
  generalize seed / 8 % size = at_ at a0 a1 ⊢
  refine ⟨n, rfl, by omega, by omega, for_range (lo := 0) (n := n.toNat) (fun i σ H' => Same H H' ∧ ∃ (pool : List Str) (v w x : Option V), H' p = some (.lst (pool.map V.str)) ∧ pool.length = i ∧ (∀ z ∈ pool, Pg z) ∧
    σ = [some (.int c), some (.int n), some (.str az), some (.int seed), some (.str base), some (.int size), some (.int at_), some (.ref p), v, w, x]) ⟨s1, [], none, none, none, t1, rfl, fun z h => (by cases h), rfl⟩ ?_ ?_⟩
  · rintro i σ H2 hi ⟨s2, pool, v, w, x, hp, hl, hz, rfl⟩
    have done : ∀ (z : Str), Pg z → ∀ (w x : Option V) (H3 : Hp), Chd p H2 H3 → H3 p = some (.lst (pool.map V.str ++ [V.str z])) → Same H H3 ∧ ∃ (pool : List Str) (v w' x' : Option V), H3 p = some (.lst (pool.map V.str)) ∧ pool.length = i + 1 ∧ (∀ z ∈ pool, Pg z) ∧
        [some (V.int c), some (.int n), some (.str az), some (.int seed), some (.str base), some (.int size), some (.int at_), some (.ref p), some (.int (0 + i)), w, x] = [some (.int c), some (.int n), some (.str az), some (.int seed), some (.str base), some (.int size), some (.int at_), some (.ref p), v, w', x'] :=
      fun z pz w x H3 c3 t3 => ⟨same_chd s2 c3 np, pool ++ [z], _, _, _, by rw [t3, List.map_append]; rfl, by rw [List.length_append, hl]; rfl, fun y hy => by
        rcases List.mem_append.mp hy with hy | hy
        · exact hz y hy
        · have e : y = z := by simpa using hy
          rw [e]
          exact pz, rfl⟩
    have len : (pool.map V.str).length < sizeLine := szl (by rw [List.length_map]; omega)
    have one : ∀ c : Nat, (⟨#[c]⟩ : Str).length = 1 := fun _ => rfl
    refine ⟨by decide, ⟨fun _ => ?_, fun _ => ⟨by decide, ⟨fun _ => ?_, fun _ => ?_⟩⟩⟩⟩
    · refine ⟨.inl (by omega), by decide, .inl ⟨rfl, _, SqL.of hp⟩, .inl (by decide), _, _, rfl, by omega, by omega, fun z az => ⟨_, hp, len, fun H3 c3 t3 => done z ⟨_, az, by omega, by omega⟩ _ _ H3 c3 t3⟩⟩
    · refine ⟨by decide, by decide, _, az_sz, az_at (by omega) (by omega), .inl ⟨rfl, _, SqL.of hp⟩, ?_⟩
      have g1 : 97 ≤ ((seed / 64 + (0 + (i : Int))) % 26).toNat + 97 ∧ ((seed / 64 + (0 + (i : Int))) % 26).toNat + 97 ≤ 122 := by omega
      generalize ((seed / 64 + (0 + (i : Int))) % 26).toNat + 97 = sg at g1 ⊢
      have c1 := hb.cut (lo := none) (hi := some at_) (a := 0) (b := at_.toNat) rfl (six_pos a0 (by omega)) (by omega)
      have c2 := hb.cut (lo := some (at_ + 1)) (hi := some size) (a := (at_ + 1).toNat) (b := size.toNat) (six_pos (by omega) (by omega)) (six_pos (by omega) (by omega)) (by omega)
      have c3 := (c1.app (Az.one g1)).app c2
      refine ⟨sz (by omega), ?_, sz (by omega), ?_, _, hp, len, fun H3 c4 t4 => done _ ⟨_, c3, by omega, by omega⟩ _ _ H3 c4 t4⟩
      · rw [c1.len, one]; exact sz (by omega)
      · rw [(c1.app (Az.one g1)).len, c2.len]; exact sz (by omega)
    · have c1 := hb.cut (lo := some ((0 + (i : Int)) / 8)) (hi := some ((0 + (i : Int)) / 8 + 1 + (0 + (i : Int)) % 8)) (six_pos (by omega) (by omega)) (six_pos (by omega) (by omega)) (by omega)
      exact ⟨.inl ⟨rfl, _, SqL.of hp⟩, by decide, by decide, by decide, sz (by omega), _, hp, len, fun H3 c4 t4 => done _ ⟨_, c1, by omega, by omega⟩ _ _ H3 c4 t4⟩
  · rintro σ H2 ⟨s2, pool, v, w, x, hp, hl, hz, rfl⟩
    exact q p pool H2 np s2 hp hl hz
/-! ### _law_rise -/
abbrev N__law_rise : List Str := ["_law_cell", "_law_number", "_law_rise_here"]
def sp__law_rise (K : PySem.W.Frag) : Sp := fun vs H Q _ => ∃ (n : Int), vs = [.int n] ∧ ∀ (z : Int) (H' : Hp), Same H H' → -(10 ^ 60) < z → z < 10 ^ 60 → Q (.int z) H'
def t__law_rise (K : PySem.W.Frag) : TS :=
  (tSeq (tAsg (tCall (sp__law_mixed K) [] E0 (tCons (uVar 0) tNil)) (gName 1))
  (tSeq (uIfS (uT (tOp kEqI (tOp kMod (uVar 1) (tC (.int 4))) (tC (.int 0))))
  (tRet (tOp (cIxL K) (uLst (tCons (tC (.int 0)) (tCons (tC (.int 1)) (tCons (tUn kNeg (tC (.int 1))) (tCons (tC (.int 10)) (tCons (tUn kNeg (tC (.int 100))) (tCons (tOp kPow (tC (.int 10)) (tC (.int 59))) (tCons (tOp kSub (tOp kPow (tC (.int 10)) (tC (.int 60))) (tC (.int 1))) (tCons (tOp kSub (tC (.int 1)) (tOp kPow (tC (.int 10)) (tC (.int 60)))) tNil))))))))) (tOp kMod (tOp kDiv (uVar 1) (tC (.int 4))) (tC (.int 8)))))
  tNext)
  (tSeq (uIfS (uT (tOp kEqI (tOp kMod (uVar 1) (tC (.int 4))) (tC (.int 1))))
  (tRet (tOp kSub (tOp kMod (tOp kDiv (uVar 1) (tC (.int 4))) (tC (.int 2001))) (tC (.int 1000))))
  tNext)
  (tSeq (tAsg (tOp kMod (tOp kAdd (uVar 0) (tOp kMul (uVar 1) (tOp kPow (tC (.int 10)) (tC (.int 51))))) (tOp kPow (tC (.int 10)) (tC (.int 60)))) (gName 2))
  (tRet (uIf (uT (tOp kEqI (tOp kMod (tOp kDiv (uVar 1) (tC (.int 4))) (tC (.int 2))) (tC (.int 0)))) (uVar 2) (tOp kSub (tC (.int 0)) (uVar 2))))))))
theorem p60 : CPow 10 60 := ⟨by decide, by decide, by decide⟩
theorem rd__law_rise {K : PySem.W.Frag} {vs : List V} {H : Hp} {Q : VK} {E : XK} (h : sp__law_rise K vs H Q E) : t__law_rise K { nx := fun _ H' => Q .non H', rt := Q } (start N__law_rise vs) H := by
  obtain ⟨n, rfl, q⟩ := h
  have e60 : (10 : Int) ^ (60 : Int).toNat = 10 ^ 60 := rfl
  have p59 : CPow 10 59 := ⟨by decide, by decide, by decide⟩
  have p51 : CPow 10 51 := ⟨by decide, by decide, by decide⟩
  refine ⟨n, rfl, fun m m0 m1 => ⟨by decide, ⟨fun _ => ?_, fun _ => ⟨by decide, ⟨fun _ => ?_, fun _ => ?_⟩⟩⟩⟩⟩
  · refine ⟨p59, p60, p60, szr rfl, fun p H1 n1 s1 t1 => ⟨by decide, by decide, ?_⟩⟩
    obtain ⟨c, hc, ec⟩ := at_map V.int (xs := [0, 1, -1, 10, -100, 10 ^ 59, 10 ^ 60 - 1, 1 - 10 ^ 60]) (i := m / 4 % 8) (by omega) (by show _ < (8 : Int); omega)
    have hb : ∀ c ∈ ([0, 1, -1, 10, -100, 10 ^ 59, 10 ^ 60 - 1, 1 - 10 ^ 60] : List Int), -(10 ^ 60) < c ∧ c < 10 ^ 60 := by decide
    exact ⟨_, _, SqL.of t1, ec, q c H1 s1 (hb c hc).1 (hb c hc).2⟩
  · exact ⟨by decide, by decide, q _ H (Same.refl H) (by omega) (by omega)⟩
  · refine ⟨p51, .inl (by omega), p60, by decide, ?_⟩
    rw [e60]
    exact ⟨by decide, by decide, ⟨fun _ => q _ H (Same.refl H) (by omega) (by omega), fun _ => q _ H (Same.refl H) (by omega) (by omega)⟩⟩
/-! ### _law_rows -/
abbrev N__law_rows : List Str := ["_law_script", "_law_pool_here", "_law_many", "_law_shape", "_law_drawn", "_law_start", "_law_stride", "_law_rows_here", "_law_k", "_law_number", "_law_one", "_law_other"]
/-- a row of the law's: its pegs of the pool -/
structure RowIn (pool : List Str) (r : Row) : Prop where
  one : r.one ∈ pool
  other : r.other ∈ pool
  n1 : 1 ≤ r.n
  n2 : r.n ≤ 41
  r1 : -(10 ^ 60) < r.rise
  r2 : r.rise < 10 ^ 60
def sp__law_rows (K : PySem.W.Frag) : Sp := fun vs H Q _ => ∃ (a : Addr) (ns : List Int) (p : Addr) (pool : List Str), vs = [.ref a, .ref p] ∧ SqL K H a (ns.map V.int) ∧ ns.length ≤ 63 ∧ SqL K H p (pool.map V.str) ∧ 1 ≤ pool.length ∧ pool.length ≤ 24 ∧
  ∀ (v : V) (rows : List Row) (H' : Hp), Same H H' → Dp K H' v (rowsD rows) → rows.length ≤ 40 → (∀ r ∈ rows, RowIn pool r) → Q v H'
def lp1__law_rows (K : PySem.W.Frag) : TS :=
  (tFor (iRng2 (tCons (tC (.int 4)) (tCons (tCB cMin (tCons (tCB (cLenQ K) (tCons (uVar 0) tNil)) (tCons (tC (.int 44)) tNil))) tNil))) (gName 8)
  (tSeq (tAsg (tOp kAdd (tOp kMod (tOp kAdd (tOp (cIxL K) (uVar 0) (uVar 8)) (tOp kMul (uVar 8) (uVar 8))) (tC (.int 1000003))) (tC (.int 1))) (gName 9))
  (tSeq (tAsg (tOp kMod (tOp kMod (tOp kMul (uVar 9) (tC (.int 48271))) (tC (.int 1000003))) (uVar 2)) (gName 10))
  (tSeq (tAsg (tOp kMod (tOp kMod (tOp kMul (uVar 9) (tC (.int 69621))) (tC (.int 999983))) (uVar 2)) (gName 11))
  (Evl.tCut (uIfS (uAnd (uT (tOp kEqI (uVar 3) (tC (.int 1)))) (uT (tOp kGt (tOp kMod (tOp kMod (tOp kMul (uVar 9) (tC (.int 16807))) (tC (.int 999961))) (tC (.int 5))) (tC (.int 0)))))
  (tSeq (tAsg (tOp kMod (tOp kAdd (tOp kMul (uVar 8) (uVar 6)) (uVar 5)) (uVar 2)) (gName 10))
  (tAsg (tOp kMod (tOp kAdd (uVar 10) (tC (.int 1))) (uVar 2)) (gName 11)))
  tNext)
  (Evl.tCut (uIfS (uT (tOp kEqI (uVar 3) (tC (.int 2))))
  (tAsg (tOp kMod (tOp kAdd (uVar 10) (tOp kMul (tC (.int 3)) (tOp kMod (tOp kMod (tOp kMul (uVar 9) (tC (.int 40692))) (tC (.int 999979))) (tC (.int 8))))) (uVar 2)) (gName 11))
  tNext)
  (Evl.tCut (uIfS (uT (tOp kEqI (tOp kMod (tOp kMod (tOp kMul (uVar 9) (tC (.int 39373))) (tC (.int 999953))) (tC (.int 2))) (tC (.int 1))))
  (tPar 10 11 (tCons (uVar 11) (tCons (uVar 10) tNil)))
  tNext)
  (tDrop (tBM K "list" cApp (uVar 7) (tCons (uTup (tCons (tOp kAdd (tC (.int 1)) (tOp kMod (tOp kAdd (tOp kMul (uVar 8) (tC (.int 7))) (uVar 5)) (tC (.int 41)))) (tCons (tOp (cIxL K) (uVar 1) (uVar 10)) (tCons (tOp (cIxL K) (uVar 1) (uVar 11)) (tCons (tCall (sp__law_rise K) [] E0 (tCons (tOp (cIxL K) (uVar 0) (uVar 8)) tNil)) tNil))))) tNil))))))))))
def t__law_rows (K : PySem.W.Frag) : TS :=
  (tSeq (tAsg (tCB (cLenQ K) (tCons (uVar 1) tNil)) (gName 2))
  (tSeq (tAsg (tOp kMod (tCall (sp__law_cell_at K) [] E0 (tCons (uVar 0) (tCons (tC (.int 1)) tNil))) (tC (.int 3))) (gName 3))
  (tSeq (tAsg (tCall (sp__law_mixed K) [] E0 (tCons (tCall (sp__law_cell_at K) [] E0 (tCons (uVar 0) (tCons (tC (.int 1)) tNil))) tNil)) (gName 4))
  (tSeq (tAsg (tOp kMod (uVar 4) (tC (.int 41))) (gName 5))
  (tSeq (tAsg (tOp (cIxL K) (uLst (tCons (tC (.int 1)) (tCons (tOp kSub (uVar 2) (tC (.int 1))) (tCons (tC (.int 5)) (tCons (tC (.int 7)) tNil))))) (tOp kMod (tOp kDiv (uVar 4) (tC (.int 41))) (tC (.int 4)))) (gName 6))
  (tSeq (tAsg (uLst tNil) (gName 7))
  (tSeq (lp1__law_rows K)
  (tRet (uVar 7)))))))))
theorem rd__law_rows {K : PySem.W.Frag} {vs : List V} {H : Hp} {Q : VK} {E : XK} (h : sp__law_rows K vs H Q E) : t__law_rows K { nx := fun _ H' => Q .non H', rt := Q } (start N__law_rows vs) H := by
  obtain ⟨a, ns, p, pool, rfl, hS, hn, hP, l1, l2, q⟩ := h
  refine ⟨_, .inl hP, a, ns, 1, rfl, hS, by decide, fun c1 => ⟨by decide, a, ns, 1, rfl, hS, by decide, fun c2 => ⟨_, rfl, fun dr d0 d1 => ⟨by decide, szr rfl, fun g H1 n1 s1 t1 => ⟨by decide, by decide, ?_⟩⟩⟩⟩⟩
  rw [List.length_map] at t1 ⊢
  generalize hL : pool.length = N at *
  obtain ⟨st, _, est⟩ := at_map V.int (xs := [1, (N : Int) - 1, 5, 7]) (i := dr / 41 % 4) (by omega) (by show _ < (4 : Int); omega)
  refine ⟨_, _, SqL.of t1, est, szr rfl, fun rs H2 n2 s2 t2 => ?_⟩
  have s02 := s1.trans s2
  have m0 : ∀ x : Int, 0 ≤ x % (N : Int) ∧ x % (N : Int) < N := fun x => ⟨Int.emod_nonneg _ (by omega), Int.emod_lt_of_pos _ (by omega)⟩
  have np : ∀ (x : Int), 0 < (N : Int) := fun _ => by omega
  have hlen : (ns.map V.int).length = ns.length := List.length_map ..
  have nrs : H rs = none := s1.free n2
  refine ⟨_, .inl (same_l s02 hS), 4, _, rfl, ?_, ?_⟩
  · rw [hlen]
    split <;> omega
  refine for_range (lo := 4) (n := ((if (44 : Int) < ((ns.map V.int).length : Int) then (44 : Int) else ((ns.map V.int).length : Int)) - 4).toNat) (fun i σ H' => Same H H' ∧ ∃ (rows : List Row) (xs : List V) (v8 v9 v10 v11 : Option V), H' rs = some (.lst xs) ∧ DpAll K H' xs (rows.map rowD) ∧ rows.length = i ∧ (∀ r ∈ rows, RowIn pool r) ∧
    σ = [some (.ref a), some (.ref p), some (.int N), some (.int (c1 % 3)), some (.int dr), some (.int (dr % 41)), some (.int st), some (.ref rs), v8, v9, v10, v11]) ⟨s02, [], [], none, none, none, none, t2, .nil, rfl, fun r h => (by cases h), rfl⟩ ?_ ?_
  · rintro i σ H3 hi ⟨s3, rows, xs, v8, v9, v10, v11, hrs, hd, hl, hr, rfl⟩
    rw [hlen] at hi
    have hik : (4 : Int) + i < ns.length ∧ (i : Int) < 40 := by
      split at hi <;> omega
    obtain ⟨c, _, hc⟩ := at_map V.int (xs := ns) (i := 4 + (i : Int)) (by omega) hik.1
    have hS3 := same_l s3 hS
    have hP3 := same_l s3 hP
    refine ⟨_, _, hS3, hc, .inl (by omega), by decide, .inr (by decide), by decide, np 0, .inr (by decide), by decide, np 0, ?_⟩
    generalize (c + (4 + (i : Int)) * (4 + (i : Int))) % 1000003 + 1 = num
    -- what is behind each of the three tests: both places stand in the pool
    refine ⟨fun σ' H' => H' = H3 ∧ ∃ (x y : Int), 0 ≤ x ∧ x < N ∧ 0 ≤ y ∧ y < N ∧ σ' = [some (.ref a), some (.ref p), some (.int N), some (.int (c1 % 3)), some (.int dr), some (.int (dr % 41)), some (.int st), some (.ref rs), some (.int (4 + i)), some (.int num), some (.int x), some (.int y)], ?_, ?_⟩
    · refine ⟨fun _ => ⟨.inr (by decide), by decide, by decide, ⟨fun _ => ⟨.inl (by omega), np 0, np 0, rfl, _, _, (m0 _).1, (m0 _).2, (m0 _).1, (m0 _).2, rfl⟩, fun _ => ⟨rfl, _, _, (m0 _).1, (m0 _).2, (m0 _).1, (m0 _).2, rfl⟩⟩⟩, fun _ => br_f ⟨rfl, _, _, (m0 _).1, (m0 _).2, (m0 _).1, (m0 _).2, rfl⟩⟩
    rintro σ' H' ⟨rfl, x, y, x0, x1, y0, y1, rfl⟩
    refine ⟨fun σ' H'' => H'' = H' ∧ ∃ (x y : Int), 0 ≤ x ∧ x < N ∧ 0 ≤ y ∧ y < N ∧ σ' = [some (.ref a), some (.ref p), some (.int N), some (.int (c1 % 3)), some (.int dr), some (.int (dr % 41)), some (.int st), some (.ref rs), some (.int (4 + i)), some (.int num), some (.int x), some (.int y)], ?_, ?_⟩
    · exact ⟨fun _ => ⟨.inr (by decide), by decide, by decide, .inl (by decide), np 0, rfl, _, _, x0, x1, (m0 _).1, (m0 _).2, rfl⟩, fun _ => ⟨rfl, _, _, x0, x1, y0, y1, rfl⟩⟩
    rintro σ' H' ⟨rfl, x, y, x0, x1, y0, y1, rfl⟩
    refine ⟨fun σ' H'' => H'' = H' ∧ ∃ (x y : Int), 0 ≤ x ∧ x < N ∧ 0 ≤ y ∧ y < N ∧ σ' = [some (.ref a), some (.ref p), some (.int N), some (.int (c1 % 3)), some (.int dr), some (.int (dr % 41)), some (.int st), some (.ref rs), some (.int (4 + i)), some (.int num), some (.int x), some (.int y)], ?_, ?_⟩
    · exact ⟨.inr (by decide), by decide, by decide, ⟨fun _ => ⟨_, _, rfl, rfl, _, _, y0, y1, x0, x1, rfl⟩, fun _ => ⟨rfl, _, _, x0, x1, y0, y1, rfl⟩⟩⟩
    rintro σ' H' ⟨rfl, x, y, x0, x1, y0, y1, rfl⟩
    obtain ⟨px, mx, ex⟩ := at_map V.str (xs := pool) x0 (by omega)
    obtain ⟨py, my, ey⟩ := at_map V.str (xs := pool) y0 (by omega)
    refine ⟨.inl ⟨rfl, _, SqL.of hrs⟩, .inr (by decide), by decide, _, _, hP3, ex, _, _, hP3, ey, _, _, hS3, hc, c, rfl, fun z H4 s4 z1 z2 => ⟨szr rfl, fun t H5 n5 s5 t5 => ?_⟩⟩
    have s45 := s4.trans s5
    have hxl : xs.length = rows.length := by rw [dpAll_length hd, List.length_map]
    refine ⟨_, s45 _ _ hrs, szl (by omega), fun H6 c6 t6 => ?_⟩
    have tp : Tups H' H6 := (tups_of s45).trans (tups_chd c6 (s45 _ _ hrs) True.intro)
    have ht : SqT K H6 t (rowV ⟨1 + ((4 + (i : Int)) * 7 + dr % 41) % 41, px, py, z⟩) := tups_t (tups_chd c6 (s45 _ _ hrs) True.intro) (SqT.of t5)
    refine ⟨same_chd (s3.trans s45) c6 nrs, rows ++ [⟨1 + ((4 + (i : Int)) * 7 + dr % 41) % 41, px, py, z⟩], _, _, _, _, _, t6, ?_, by rw [List.length_append, hl]; rfl, fun r hr' => ?_, rfl⟩
    · rw [List.map_append]
      exact dpAll_snoc (prows_tups tp hd) (row_mk ht)
    · rcases List.mem_append.mp hr' with h | h
      · exact hr r h
      · have e : r = ⟨1 + ((4 + (i : Int)) * 7 + dr % 41) % 41, px, py, z⟩ := by simpa using h
        rw [e]
        exact ⟨mx, my, by show 1 ≤ 1 + _ % 41; omega, by show 1 + _ % 41 ≤ 41; omega, z1, z2⟩
  · rintro σ H3 ⟨s3, rows, xs, v8, v9, v10, v11, hrs, hd, hl, hr, rfl⟩
    refine q (.ref rs) rows H3 s3 (.lst (SqL.of hrs) hd) ?_ hr
    rw [hl, hlen]
    split <;> omega
/-! ### _law_peg -/
abbrev N__law_peg : List Str := ["_law_cell", "_law_pool_here", "_law_number"]
def sp__law_peg (K : PySem.W.Frag) : Sp := fun vs H Q _ => ∃ (c : Int) (p : Addr) (pool : List Str), vs = [.int c, .ref p] ∧ SqL K H p (pool.map V.str) ∧ 1 ≤ pool.length ∧ (∀ z ∈ pool, Pg z) ∧ ∀ (z : Str), Pg z → Q (.str z) H
def t__law_peg (K : PySem.W.Frag) : TS :=
  (tSeq (tAsg (tCall (sp__law_mixed K) [] E0 (tCons (uVar 0) tNil)) (gName 2))
  (tSeq (uIfS (uT (tOp kEqI (tOp kMod (uVar 2) (tC (.int 5))) (tC (.int 1))))
  (tRet (tCall (sp__law_word K) [] E0 (tCons (tOp kDiv (uVar 2) (tC (.int 5))) (tCons (tOp kAdd (tC (.int 1)) (tOp kMod (tOp kDiv (uVar 2) (tC (.int 40))) (tC (.int 8)))) tNil))))
  tNext)
  (tRet (tOp (cIxL K) (uVar 1) (tOp kMod (tOp kDiv (uVar 2) (tC (.int 5))) (tCB (cLenQ K) (tCons (uVar 1) tNil)))))))
theorem rd__law_peg {K : PySem.W.Frag} {vs : List V} {H : Hp} {Q : VK} {E : XK} (h : sp__law_peg K vs H Q E) : t__law_peg K { nx := fun _ H' => Q .non H', rt := Q } (start N__law_peg vs) H := by
  obtain ⟨c, p, pool, rfl, hP, l1, hz, q⟩ := h
  refine ⟨c, rfl, fun m m0 m1 => ⟨by decide, ⟨fun _ => ?_, fun _ => ?_⟩⟩⟩
  · exact ⟨by decide, by decide, by decide, _, _, rfl, by omega, by omega, fun z h => q z ⟨_, h, by omega, by omega⟩⟩
  · refine ⟨by decide, _, .inl hP, ?_⟩
    rw [List.length_map]
    obtain ⟨px, mx, ex⟩ := at_map V.str (xs := pool) (i := m / 5 % (pool.length : Int)) (Int.emod_nonneg _ (by omega)) (Int.emod_lt_of_pos _ (by omega))
    exact ⟨by omega, _, _, hP, ex, q px (hz px mx)⟩
/-! ### _law_come -/
abbrev N__law_come : List Str := ["_law_rows_here", "_law_one", "_law_come_here", "_law_more", "_law_row"]
def sp__law_come (K : PySem.W.Frag) : Sp := fun vs H Q _ => ∃ (v : V) (rows : List Row) (one : Str), vs = [v, .str one] ∧ Dp K H v (rowsD rows) ∧ rows.length ≤ 1000 ∧
  ∀ (p : Addr) (H' : Hp) (C : List Str), Same H H' → H' p = some (.lst (C.map V.str)) → (∀ z, z ∈ C ↔ Reach rows one z) → Q (.ref p) H'
def lp1__law_come (K : PySem.W.Frag) : TS :=
  (tFor (iList K (uVar 0)) (gName 4)
  (uIfS (uT (tOp kNeB (tOp (cInS K true) (tOp (cIxT K) (uVar 4) (tC (.int 1))) (uVar 2)) (tOp (cInS K true) (tOp (cIxT K) (uVar 4) (tC (.int 2))) (uVar 2))))
  (tSeq (tDrop (tBM K "list" cApp (uVar 2) (tCons (uIf (uT (tOp (cInS K true) (tOp (cIxT K) (uVar 4) (tC (.int 1))) (uVar 2))) (tOp (cIxT K) (uVar 4) (tC (.int 2))) (tOp (cIxT K) (uVar 4) (tC (.int 1)))) tNil)))
  (tAsg (tC (.bl true)) (gName 3)))
  tNext))
def lp2__law_come (K : PySem.W.Frag) : TS :=
  (uWhile (uT (uVar 3))
  (tSeq (tAsg (tC (.bl false)) (gName 3))
  (lp1__law_come K)))
def t__law_come (K : PySem.W.Frag) : TS :=
  (tSeq (tAsg (uLst (tCons (uVar 1) tNil)) (gName 2))
  (tSeq (tAsg (tC (.bl true)) (gName 3))
  (tSeq (lp2__law_come K)
  (tRet (uVar 2)))))
structure CSt (rows : List Row) (one : Str) (H0 H : Hp) (p : Addr) (C : List Str) : Prop where
  sm : Same H0 H
  l : H p = some (.lst (C.map V.str))
  nd : C.Nodup
  h1 : one ∈ C
  re : ∀ z ∈ C, Reach rows one z
theorem CSt.len {rows : List Row} {one : Str} {H0 H : Hp} {p : Addr} {C : List Str} (S : CSt rows one H0 H p C) : C.length ≤ 2 * rows.length + 1 := by
  have h : C.length ≤ (one :: (adds rows).map Row.other).length := nodup_len S.nd fun z hz => (S.re z hz).closed (S := fun z => z ∈ one :: (adds rows).map Row.other) (fun s st _ => List.mem_cons_of_mem _ (List.mem_map.mpr ⟨s, mem_adds.mpr st, rfl⟩)) (List.mem_cons_self ..)
  rw [List.length_cons, List.length_map, adds_len] at h
  exact h
theorem rd__law_come {K : PySem.W.Frag} {vs : List V} {H : Hp} {Q : VK} {E : XK} (h : sp__law_come K vs H Q E) : t__law_come K { nx := fun _ H' => Q .non H', rt := Q } (start N__law_come vs) H := by
  obtain ⟨v, rows, one, rfl, hr, hn, q⟩ := h
  obtain ⟨a, xs, rfl, hl, al⟩ := dp_lst hr
  have hxl : xs.length = rows.length := by rw [dpAll_length al, List.length_map]
  refine ⟨szr rfl, fun p H1 n1 s1 t1 => ?_⟩
  refine ⟨fun m σ H' => ∃ (C : List Str) (b : Bool) (w : Option V), m + 2 * C.length = 4 * rows.length + 3 + (if b then 1 else 0) ∧ σ = [some (.ref a), some (.str one), some (.ref p), some (.bl b), w] ∧ CSt rows one H H' p C ∧ (b = false → ∀ r ∈ rows, r.one ∈ C ↔ r.other ∈ C), ⟨4 * rows.length + 2, [one], true, none, by simp, rfl, ⟨s1, t1, by simp, by simp, fun z hz => by
    have e : z = one := by simpa using hz
    subst e
    exact Reach.refl _ _⟩, fun e => by cases e⟩, ?_⟩
  rintro m σ H2 ⟨C0, b, w, hm, rfl, S, hc⟩
  refine ⟨fun e => ⟨_, fun _ _ h => h, ?_⟩, fun e => ?_⟩
  · subst e
    have hm : m + 2 * C0.length = 4 * rows.length + 3 + 1 := hm
    refine ⟨a, rfl, ⟨xs, same_l S.sm hl⟩, for_list (K := K) (a := a) (xs := xs) (fun i σ H' => ∃ (C : List Str) (b : Bool) (w : Option V), σ = [some (.ref a), some (.str one), some (.ref p), some (.bl b), w] ∧ CSt rows one H H' p C ∧ C0.length ≤ C.length ∧ (b = true → C0.length < C.length) ∧ (b = false → ∀ r ∈ rows.take i, r.one ∈ C ↔ r.other ∈ C))
      ⟨C0, false, w, rfl, S, Nat.le_refl _, fun e => (by cases e), fun _ r h => (by cases h)⟩ (fun i σ H' _ h => by obtain ⟨_, _, _, _, S, _⟩ := h; exact same_l S.sm hl) ?_ ?_⟩
    · rintro i x σ H3 e ⟨C, b, w, rfl, S3, hle, hlt, hcl⟩
      obtain ⟨dd, hd, dx⟩ := dpAll_get al e
      rw [List.getElem?_map] at hd
      obtain ⟨r, er, rfl⟩ := Option.map_eq_some_iff.mp hd
      obtain ⟨t, rfl, ht⟩ := row_at dx
      have ht3 := same_t S3.sm ht
      have hmr : r ∈ rows := List.mem_of_getElem? er
      have tk : rows.take (i + 1) = rows.take i ++ [r] := by rw [List.take_add_one, er]; rfl
      refine ⟨_, _, ht3, rfl, C, SqL.of S3.l, _, _, ht3, rfl, C, SqL.of S3.l, ⟨fun h => ?_, fun h => ?_⟩⟩
      · -- a new peg
        have ln := S3.len
        have more : ∀ z, ¬ z ∈ C → Reach rows one z → ∀ (H4 : Hp) (w : Option V), Chd p H3 H4 → H4 p = some (.lst (C.map V.str ++ [V.str z])) → ∃ (C : List Str) (b : Bool) (w' : Option V), [some (.ref a), some (V.str one), some (.ref p), some (.bl true), w] = [some (.ref a), some (.str one), some (.ref p), some (.bl b), w'] ∧ CSt rows one H H4 p C ∧ C0.length ≤ C.length ∧ (b = true → C0.length < C.length) ∧ (b = false → ∀ r ∈ rows.take (i + 1), r.one ∈ C ↔ r.other ∈ C) := fun z nz rz H4 w c4 t4 =>
          ⟨C ++ [z], true, w, rfl, ⟨same_chd S3.sm c4 n1, by rw [t4, List.map_append]; rfl, nodup_snoc S3.nd nz, List.mem_append_left _ S3.h1, fun y hy => by
            rcases List.mem_append.mp hy with g | g
            · exact S3.re y g
            · have g : y = z := by simpa using g
              rw [g]
              exact rz⟩, by rw [List.length_append]; omega, fun _ => by rw [List.length_append]; simp; omega, fun e => by cases e⟩
        refine ⟨.inl ⟨rfl, _, SqL.of S3.l⟩, _, _, ht3, rfl, C, SqL.of S3.l, ⟨fun g => ?_, fun g => ?_⟩⟩
        · have g1 : r.one ∈ C := of_decide_eq_true g
          have g2 : ¬ r.other ∈ C := fun k => by simp [g1, k] at h
          exact ⟨_, _, ht3, rfl, _, S3.l, szl (by rw [List.length_map]; omega), fun H4 c4 t4 => more _ g2 ((S3.re _ g1).snoc (s := r) (.inl hmr)) H4 _ c4 t4⟩
        · have g1 : ¬ r.one ∈ C := of_decide_eq_false g
          have g2 : r.other ∈ C := Decidable.by_contra fun k => by simp [g1, k] at h
          exact ⟨_, _, ht3, rfl, _, S3.l, szl (by rw [List.length_map]; omega), fun H4 c4 t4 => more _ g1 ((S3.re _ g2).snoc (s := r.turn) (.inr (by rw [Row.turn_turn]; exact hmr))) H4 _ c4 t4⟩
      · refine ⟨C, b, _, rfl, S3, hle, hlt, fun eb r' hr' => ?_⟩
        rw [tk] at hr'
        rcases List.mem_append.mp hr' with g | g
        · exact hcl eb r' g
        · have g : r' = r := by simpa using g
          subst g
          have h : decide (r'.one ∈ C) = decide (r'.other ∈ C) := by simpa using h
          exact decide_eq_decide.mp h
    · rintro σ H3 ⟨C, b, w, rfl, S3, hle, hlt, hcl⟩
      have ln := S3.len
      rw [hxl, List.take_length] at hcl
      cases b with
      | true =>
        have := hlt rfl
        exact ⟨4 * rows.length + 4 - 2 * C.length, by omega, C, true, w, by simp; omega, rfl, S3, hcl⟩
      | false => exact ⟨4 * rows.length + 3 - 2 * C.length, by omega, C, false, w, by simp; omega, rfl, S3, hcl⟩
  · refine q p H2 C0 S.sm S.l fun z => ⟨S.re z, fun rz => ?_⟩
    exact rz.closedR (S := fun z => z ∈ C0) (fun r hr => hc e r hr) S.h1
/-! ### _law_whole -/
abbrev N__law_whole : List Str := ["_law_found"]
/-- a whole number -/
def wholeB : V → Bool
  | .int _ => true
  | _ => false
theorem Knd.whole {K : PySem.W.Frag} {H : Hp} {v : V} {n : String} (k : Knd K H v n) : ((n == "int" || n == "bool") && !(n == "bool")) = wholeB v := by
  cases k <;> simp [wholeB]
def sp__law_whole (K : PySem.W.Frag) : Sp := fun vs H Q _ => ∃ (v : V) (n : String), vs = [v] ∧ Knd K H v n ∧ Q (.bl (wholeB v)) H
def t__law_whole (K : PySem.W.Frag) : TS :=
  (tRet (uAndV (tCB (cIsi K) (tCons (uVar 0) (tCons (tC (.ty "int")) tNil))) (uNotV (tCB (cIsi K) (tCons (uVar 0) (tCons (tC (.ty "bool")) tNil))))))
theorem rd__law_whole {K : PySem.W.Frag} {vs : List V} {H : Hp} {Q : VK} {E : XK} (h : sp__law_whole K vs H Q E) : t__law_whole K { nx := fun _ H' => Q .non H', rt := Q } (start N__law_whole vs) H := by
  obtain ⟨v, n, rfl, k, q⟩ := h
  rw [← k.whole] at q
  refine ⟨_, _, k.ty, k.isInt, ⟨fun e => ⟨_, _, k.ty, k.isBool, ?_⟩, fun e => ?_⟩⟩
  · rw [e, Bool.true_and] at q
    exact q
  · rw [e, Bool.false_and] at q
    exact q
/-! ### _law_is_step -/
abbrev N__law_is_step : List Str := ["_law_step", "_law_rows_here"]
def sp__law_is_step (K : PySem.W.Frag) : Sp := fun vs H Q _ => ∃ (v w : V) (s : Row) (rows : List Row), vs = [v, w] ∧ Dp K H v (rowD s) ∧ Dp K H w (rowsD rows) ∧ (∀ r ∈ rows, r.Ok) ∧ s.Ok ∧ IsStep rows s ∧ ∀ (H' : Hp), Same H H' → Q (.bl true) H'
def t__law_is_step (K : PySem.W.Frag) : TS :=
  (tSeq (uIfS (uOr (uNot (uT (tCB (cIsi K) (tCons (uVar 0) (tCons (tC (.ty "tuple")) tNil))))) (uT (tOp kNeI (tCB (cLenQ K) (tCons (uVar 0) tNil)) (tC (.int 4)))))
  (tRet (tC (.bl false)))
  tNext)
  (tSeq (uIfS (uOr (uNot (uT (tCall (sp__law_whole K) [] E0 (tCons (tOp (cIxT K) (uVar 0) (tC (.int 0))) tNil)))) (uNot (uT (tCall (sp__law_whole K) [] E0 (tCons (tOp (cIxT K) (uVar 0) (tC (.int 3))) tNil)))))
  (tRet (tC (.bl false)))
  tNext)
  (tSeq (uIfS (uOr (uNot (uT (tCB (cIsi K) (tCons (tOp (cIxT K) (uVar 0) (tC (.int 1))) (tCons (tC (.ty "str")) tNil))))) (uNot (uT (tCB (cIsi K) (tCons (tOp (cIxT K) (uVar 0) (tC (.int 2))) (tCons (tC (.ty "str")) tNil))))))
  (tRet (tC (.bl false)))
  tNext)
  (tRet (uOrV (tOp (rInD K) (uVar 0) (uVar 1)) (tOp (rInD K) (uTup (tCons (tOp (cIxT K) (uVar 0) (tC (.int 0))) (tCons (tOp (cIxT K) (uVar 0) (tC (.int 2))) (tCons (tOp (cIxT K) (uVar 0) (tC (.int 1))) (tCons (tOp kSub (tC (.int 0)) (tOp (cIxT K) (uVar 0) (tC (.int 3)))) tNil))))) (uVar 1)))))))
theorem rd__law_is_step {K : PySem.W.Frag} {vs : List V} {H : Hp} {Q : VK} {E : XK} (h : sp__law_is_step K vs H Q E) : t__law_is_step K { nx := fun _ H' => Q .non H', rt := Q } (start N__law_is_step vs) H := by
  obtain ⟨v, w, s, rows, rfl, hs, hw, ok, sk, st, q⟩ := h
  obtain ⟨t, rfl, ht⟩ := row_at hs
  refine ⟨"tuple", true, ty_tup ht, by decide +kernel, br_f ⟨_, .inr ht, br_f ⟨_, _, ht, rfl, _, _, rfl, .int s.n, br_f ⟨_, _, ht, rfl, _, _, rfl, .int s.rise, br_f ⟨_, _, ht, rfl, "str", true, .base (.str _), by decide +kernel, br_f ⟨_, _, ht, rfl, "str", true, .base (.str _), by decide +kernel, br_f ?_⟩⟩⟩⟩⟩⟩
  refine ⟨rowD s, rows.map rowD, hs, hw, rowD_shaped sk, rowsD_shaped ok, ?_⟩
  rw [any_row]
  refine ⟨fun _ => q H (Same.refl H), fun e => ?_⟩
  have e := of_decide_eq_false e
  refine ⟨_, _, ht, rfl, _, _, ht, rfl, _, _, ht, rfl, _, _, ht, rfl, szr rfl, fun p H1 n1 s1 t1 => ⟨rowD s.turn, rows.map rowD, row_mk (SqT.of t1), dp_mono s1 hw, rowD_shaped ⟨sk.2, sk.1⟩, rowsD_shaped ok, ?_⟩⟩
  rw [any_row, decide_eq_true (show s.turn ∈ rows from st.resolve_left e)]
  exact q H1 s1
/-! ### _law_walked -/
abbrev N__law_walked : List Str := ["_law_found", "_law_rows_here", "_law_one", "_law_other", "_law_here", "_law_gone", "_law_step"]
def sp__law_walked (K : PySem.W.Frag) : Sp := fun vs H Q _ => ∃ (p : Addr) (w : V) (one other : Str) (xs : List V) (ss rows : List Row), vs = [.ref p, w, .str one, .str other] ∧ SqL K H p xs ∧ DpAll K H xs (ss.map rowD) ∧ Dp K H w (rowsD rows) ∧ (∀ r ∈ rows, r.Ok) ∧ Way rows one ss other ∧ Simple ss other ∧ ss.length ≤ 2001 ∧ ∀ (H' : Hp), Same H H' → Q (.bl true) H'
def lp1__law_walked (K : PySem.W.Frag) : TS :=
  (tFor (iList K (uVar 0)) (gName 6)
  (tSeq (uIfS (uOr (uNot (uT (tCall (sp__law_is_step K) [] E0 (tCons (uVar 6) (tCons (uVar 1) tNil))))) (uOr (uT (tOp kNeS (tOp (cIxT K) (uVar 6) (tC (.int 1))) (uVar 4))) (uT (tOp (cInS K true) (uVar 4) (uVar 5)))))
  (tRet (tC (.bl false)))
  tNext)
  (tSeq (tDrop (tBM K "list" cApp (uVar 5) (tCons (uVar 4) tNil)))
  (tAsg (tOp (cIxT K) (uVar 6) (tC (.int 2))) (gName 4)))))
def t__law_walked (K : PySem.W.Frag) : TS :=
  (tSeq (uIfS (uNot (uT (tCB (cIsi K) (tCons (uVar 0) (tCons (tC (.ty "list")) tNil)))))
  (tRet (tC (.bl false)))
  tNext)
  (tSeq (tAsg (uVar 2) (gName 4))
  (tSeq (tAsg (uLst tNil) (gName 5))
  (tSeq (lp1__law_walked K)
  (tRet (uAndV (tOp kEqS (uVar 4) (uVar 3)) (tOp (cInS K false) (uVar 4) (uVar 5))))))))
theorem Way.at {rows : List Row} {a b : Str} {ss : List Row} (w : Way rows a ss b) : (ss.map Row.one ++ [b])[0]? = some a ∧ ∀ (i : Nat) (s : Row), ss[i]? = some s → IsStep rows s ∧ (ss.map Row.one ++ [b])[i]? = some s.one ∧ (ss.map Row.one ++ [b])[i + 1]? = some s.other := by
  induction w with
  | nil a => exact ⟨rfl, fun i s e => by simp at e⟩
  | @cons s ss b h t ih =>
    refine ⟨rfl, fun i s' e => ?_⟩
    cases i with
    | zero =>
      have e : s = s' := by simpa using e
      subst e
      exact ⟨h, rfl, by simpa using ih.1⟩
    | succ i =>
      obtain ⟨h1, h2, h3⟩ := ih.2 i s' (by simpa using e)
      exact ⟨h1, by simpa using h2, by simpa using h3⟩
theorem IsStep.ok {rows : List Row} {s : Row} (h : IsStep rows s) (ok : ∀ r ∈ rows, r.Ok) : s.Ok := by
  rcases h with h | h
  · exact ok s h
  · exact ⟨(ok _ h).2, (ok _ h).1⟩
theorem not_in_take {α : Type} {l : List α} (nd : l.Nodup) {i : Nat} {x : α} (h : l[i]? = some x) : ¬ x ∈ l.take i := fun m => by
  obtain ⟨j, hj, e⟩ := List.mem_take_iff_getElem.mp m
  obtain ⟨hi, e2⟩ := List.getElem?_eq_some_iff.mp h
  have := (List.getElem_inj nd).mp (e.trans e2.symm)
  omega
theorem rd__law_walked {K : PySem.W.Frag} {vs : List V} {H : Hp} {Q : VK} {E : XK} (h : sp__law_walked K vs H Q E) : t__law_walked K { nx := fun _ H' => Q .non H', rt := Q } (start N__law_walked vs) H := by
  obtain ⟨p, w, one, other, xs, ss, rows, rfl, hl, al, hw, ok, W, S, hn, q⟩ := h
  have hxl : xs.length = ss.length := by rw [dpAll_length al, List.length_map]
  obtain ⟨w0, wa⟩ := W.at
  refine ⟨"list", true, ty_lst hl, by decide +kernel, br_f ⟨szr rfl, fun g H1 n1 s1 t1 => ?_⟩⟩
  refine ⟨p, rfl, ⟨_, same_l s1 hl⟩, for_list (K := K) (a := p) (xs := xs) (fun i σ H' => Same H H' ∧ ∃ (h : Str) (x : Option V), (ss.map Row.one ++ [other])[i]? = some h ∧ H' g = some (.lst (((ss.map Row.one ++ [other]).take i).map V.str)) ∧ σ = [some (.ref p), some w, some (.str one), some (.str other), some (.str h), some (.ref g), x])
    ⟨s1, one, none, w0, t1, rfl⟩ (fun i σ H' _ h => same_l h.1 hl) ?_ ?_⟩
  · rintro i v σ H2 e ⟨s2, h, x, eh, hg, rfl⟩
    obtain ⟨dd, hd, dx⟩ := dpAll_get al e
    rw [List.getElem?_map] at hd
    obtain ⟨s, es, rfl⟩ := Option.map_eq_some_iff.mp hd
    obtain ⟨st, e1, e2⟩ := wa i s es
    rw [e1] at eh
    cases eh
    obtain ⟨t, rfl, ht⟩ := row_at dx
    refine ⟨_, _, s, rows, rfl, dp_mono s2 dx, dp_mono s2 hw, ok, st.ok ok, st, fun H3 s3 => br_f ?_⟩
    have s03 := s2.trans s3
    have hg3 := s3 _ _ hg
    have hi : i < ss.length := (List.getElem?_eq_some_iff.mp es).1
    refine ⟨_, _, same_t s03 ht, rfl, br_ff (by simp) ⟨_, SqL.of hg3, br_ff (decide_eq_false (not_in_take S e1)) ⟨.inl ⟨rfl, _, SqL.of hg3⟩, _, hg3, szl ?_, fun H4 c4 t4 => ?_⟩⟩⟩
    · rw [List.length_map, List.length_take]
      omega
    have s04 := same_chd s03 c4 n1
    refine ⟨_, _, same_t s04 ht, rfl, s04, s.other, _, e2, ?_, rfl⟩
    rw [t4, List.take_add_one, e1, List.map_append]
    rfl
  · rintro σ H2 ⟨s2, h, x, eh, hg, rfl⟩
    rw [hxl] at eh hg
    have e1 : (ss.map Row.one ++ [other])[ss.length]? = some other := by
      rw [List.getElem?_append_right (by simp)]
      simp
    rw [e1] at eh
    cases eh
    refine br_tt (decide_eq_true rfl) ⟨_, SqL.of hg, ?_⟩
    show Q (.bl (!decide (other ∈ _))) H2
    rw [decide_eq_false (not_in_take S e1)]
    exact q H2 s2
/-! ### _law_way_holds -/
abbrev N__law_way_holds : List Str := ["_law_rows_here", "_law_one", "_law_other", "_law_handed", "_law_found"]
def sp__law_way_holds (K : PySem.W.Frag) : Sp := fun vs H Q _ => ∃ (v : V) (rows : List Row) (one other : Str), vs = [v, .str one, .str other] ∧ Dp K H v (rowsD rows) ∧ rows.length ≤ 1000 ∧ (∀ r ∈ rows, r.Ok) ∧ ∀ (H' : Hp), Same H H' → Q (.bl true) H'
def t__law_way_holds (K : PySem.W.Frag) : TS :=
  (tSeq (tAsg (tCB (cList K) (tCons (uVar 0) tNil)) (gName 3))
  (tSeq (tAsg (tCall (sp_way_along K) [] E0 (tCons (uVar 3) (tCons (uVar 1) (tCons (uVar 2) tNil)))) (gName 4))
  (tSeq (uIfS (uT (tOp (rNeD K) (uVar 3) (uVar 0)))
  (tRet (tC (.bl false)))
  tNext)
  (tSeq (uIfS (uT (tOp (cNon true) (uVar 4) (tC .non)))
  (tRet (tOp (cInS K false) (uVar 2) (tCall (sp__law_come K) [] E0 (tCons (uVar 0) (tCons (uVar 1) tNil)))))
  tNext)
  (tRet (tCall (sp__law_walked K) [] E0 (tCons (uVar 4) (tCons (uVar 0) (tCons (uVar 1) (tCons (uVar 2) tNil))))))))))
theorem rowsD_eqv_self (rows : List Row) : PyData.eqv (rowsD rows) (rowsD rows) = true := by
  show PyData.eqv (.list _) (.list _) = true
  rw [PyData.eqv, rowsD_eqv]
  exact decide_eq_true rfl
theorem rd__law_way_holds {K : PySem.W.Frag} {vs : List V} {H : Hp} {Q : VK} {E : XK} (h : sp__law_way_holds K vs H Q E) : t__law_way_holds K { nx := fun _ H' => Q .non H', rt := Q } (start N__law_way_holds vs) H := by
  obtain ⟨v, rows, one, other, rfl, dr, hn, ok, q⟩ := h
  obtain ⟨ra, xs, rfl, hl, al⟩ := dp_lst dr
  refine ⟨xs, .inl hl, fun hd H1 n1 s1 t1 => ?_⟩
  have d1 : Dp K H1 (.ref hd) (rowsD rows) := .lst (SqL.of t1) (dpAll_mono s1 al)
  refine ⟨.ref hd, rows, one, other, rfl, d1, hn, fun nr H2 s2 => ?_, fun p H2 ys ss s2 t2 a2 W S hs => ?_⟩
  · have s02 := s1.trans s2
    refine ⟨_, _, dp_mono s2 d1, dp_mono s02 dr, rowsD_shaped ok, rowsD_shaped ok, br_ff (by rw [rowsD_eqv_self]; rfl) (br_t ⟨_, rows, one, rfl, dp_mono s02 dr, hn, fun pc H3 C s3 t3 hC => ⟨C, SqL.of t3, ?_⟩⟩)⟩
    show Q (.bl (!decide (other ∈ C))) H3
    rw [decide_eq_false (fun m => nr ((hC other).mp m))]
    exact q H3 (s02.trans s3)
  · have s02 := s1.trans s2
    refine ⟨_, _, dp_mono s2 d1, dp_mono s02 dr, rowsD_shaped ok, rowsD_shaped ok, br_ff (by rw [rowsD_eqv_self]; rfl) (br_f ⟨p, _, one, other, ys, ss, rows, rfl, SqL.of t2, a2, dp_mono s02 dr, ok, W, S, hs, fun H3 s3 => q H3 (s02.trans s3)⟩)⟩
/-! ### law -/
abbrev N_law : List Str := ["_law_script", "_law_first", "_law_pool_here", "_law_rows_here", "_law_one", "_law_other"]
def sp_law (K : PySem.W.Frag) : Sp := fun vs H Q _ => ∃ (a : Addr) (ns : List Int), vs = [.ref a] ∧ SqL K H a (ns.map V.int) ∧ ns.length ≤ 63 ∧ ∀ (H' : Hp), Q (.bl true) H'
def t_law (K : PySem.W.Frag) : TS :=
  (tSeq (tAsg (tCall (sp__law_mixed K) [] E0 (tCons (tCall (sp__law_cell_at K) [] E0 (tCons (uVar 0) (tCons (tC (.int 0)) tNil))) tNil)) (gName 1))
  (tSeq (tAsg (tCall (sp__law_pool K) [] E0 (tCons (tOp kDiv (uVar 1) (tC (.int 24))) (tCons (tOp kAdd (tC (.int 1)) (tOp kMod (uVar 1) (tC (.int 24)))) tNil))) (gName 2))
  (tSeq (tAsg (tCall (sp__law_rows K) [] E0 (tCons (uVar 0) (tCons (uVar 2) tNil))) (gName 3))
  (tSeq (tAsg (tCall (sp__law_peg K) [] E0 (tCons (tCall (sp__law_cell_at K) [] E0 (tCons (uVar 0) (tCons (tC (.int 2)) tNil))) (tCons (uVar 2) tNil))) (gName 4))
  (tSeq (tAsg (tCall (sp__law_peg K) [] E0 (tCons (tCall (sp__law_cell_at K) [] E0 (tCons (uVar 0) (tCons (tC (.int 3)) tNil))) (tCons (uVar 2) tNil))) (gName 5))
  (Evl.tCut (uIfS (uT (tOp kEqI (tOp kMod (tCall (sp__law_cell_at K) [] E0 (tCons (uVar 0) (tCons (tC (.int 3)) tNil))) (tC (.int 9))) (tC (.int 2))))
  (tAsg (uVar 4) (gName 5))
  tNext)
  (tRet (uAndV (tCall (sp__law_way_holds K) [] E0 (tCons (uVar 3) (tCons (uVar 4) (tCons (uVar 5) tNil)))) (tCall (sp__law_way_holds K) [] E0 (tCons (uVar 3) (tCons (uVar 5) (tCons (uVar 4) tNil))))))))))))
theorem Pg.ok {z : Str} (h : Pg z) : PyData.strOk z = true := let ⟨_, a, _⟩ := h; a.ok
theorem rd_law {K : PySem.W.Frag} {vs : List V} {H : Hp} {Q : VK} {E : XK} (h : sp_law K vs H Q E) : t_law K { nx := fun _ H' => Q .non H', rt := Q } (start N_law vs) H := by
  obtain ⟨a, ns, rfl, hS, hn, q⟩ := h
  refine ⟨a, ns, 0, rfl, hS, by decide, fun c0 => ⟨c0, rfl, fun f f0 f1 => ⟨by decide, by decide, f / 24, 1 + f % 24, rfl, by omega, by omega, fun pp pool H1 n1 s1 t1 pl pz => ?_⟩⟩⟩
  refine ⟨a, ns, pp, pool, rfl, same_l s1 hS, hn, SqL.of t1, by omega, by omega, fun rv rows H2 s2 dr rl rin => ?_⟩
  have s02 := s1.trans s2
  refine ⟨a, ns, 2, rfl, same_l s02 hS, by decide, fun c2 => ⟨c2, pp, pool, rfl, SqL.of (s2 _ _ t1), by omega, pz, fun one pone => ?_⟩⟩
  refine ⟨a, ns, 3, rfl, same_l s02 hS, by decide, fun c3 => ⟨c3, pp, pool, rfl, SqL.of (s2 _ _ t1), by omega, pz, fun other pother => ?_⟩⟩
  have ok : ∀ r ∈ rows, r.Ok := fun r hr => ⟨(pz _ (rin r hr).one).ok, (pz _ (rin r hr).other).ok⟩
  refine ⟨fun σ' H' => H' = H2 ∧ ∃ (b : Str), σ' = [some (.ref a), some (.int f), some (.ref pp), some rv, some (.str one), some (.str b)], ?_, ?_⟩
  · exact ⟨a, ns, 3, rfl, same_l s02 hS, by decide, fun c3 => ⟨by decide, ⟨fun _ => ⟨rfl, _, rfl⟩, fun _ => ⟨rfl, _, rfl⟩⟩⟩⟩
  rintro σ' H' ⟨rfl, b, rfl⟩
  exact ⟨rv, rows, one, b, rfl, dr, by omega, ok, fun H3 s3 => br_t ⟨rv, rows, b, one, rfl, dp_mono s3 dr, by omega, ok, fun H4 _ => q H4⟩⟩
def top (i : Nat) : Stmt := PySem.Challenge.pw_pegrise_k04_way_along.main.body.getD i (.Pass ⟨0, 0, 0, 0⟩)
/-- what the names of the module hold -/
structure Mg (mg : Str → Option Value) : Prop where
  m_len : mg "len" = none
  m_list : mg "list" = none
  m_reversed : mg "reversed" = none
  m_range : mg "range" = none
  m_min : mg "min" = none
  m_int : mg "int" = none
  m_isinstance : mg "isinstance" = none
  m_bool : mg "bool" = none
  m_tuple : mg "tuple" = none
  m_str : mg "str" = none
section
variable {P : Program} {w : World} {K : PySem.W.Frag} {mg : Str → Option Value} {base : Heap}
abbrev s_row_turned : Stmt := top 1
theorem sc_row_turned : FnScope N_row_turned ["row"] (defScope s_row_turned) := ⟨rfl, rfl, rfl, by decide +kernel, rfl, by decide +kernel, by decide +kernel⟩
theorem ok_row_turned {f : Addr} {fd : FuncData} (F : Fun K "row_turned" "row_turned" s_row_turned f fd) (hm : mg "row_turned" = some (.ref f)) (hb : Binds K fd ["row"] []) (M : Mg mg)  :
    Cal P w K mg base CX0 1 "row_turned" ["row"] (sp_row_turned K) := by
  refine ⟨f, fd, F.ok sc_row_turned (fun vs H Q E h => ?_) (fun cdv A outer s H vs Q E hr h => ?_), hm, F.kp, hb⟩
  · unfold sp_row_turned at h
    first
      | (obtain ⟨rfl, _⟩ := h; rfl)
      | (obtain ⟨_, rfl, _⟩ := h; rfl)
      | (obtain ⟨_, _, rfl, _⟩ := h; rfl)
      | (obtain ⟨_, _, _, rfl, _⟩ := h; rfl)
      | (obtain ⟨_, _, _, _, rfl, _⟩ := h; rfl)
      | (obtain ⟨_, _, _, _, _, rfl, _⟩ := h; rfl)
      | (obtain ⟨_, _, _, _, _, _, rfl, _⟩ := h; rfl)
      | (obtain ⟨_, _, _, _, _, _, _, rfl, _⟩ := h; rfl)
      | (obtain ⟨_, _, _, _, _, _, _, _, rfl, _⟩ := h; rfl)
      | (obtain ⟨_, _, _, _, _, _, _, _, _, rfl, _⟩ := h; rfl)
  have hu := hu_of hr
  have hu64 := hr.units
  have hu65 := hr.u65
  have nd := sc_row_turned.nd
  exact ⟨t_row_turned K, (pss_one (ps_ret (e_tup (pa_cons (pe_ix x_tup (uv 0) pe_int plainIx) (pa_cons (pe_ix x_tup (uv 0) pe_int plainIx) (pa_cons (pe_ix x_tup (uv 0) pe_int plainIx) (pa_cons (pe_op o_sub pe_int (pe_ix x_tup (uv 0) pe_int plainIx)) pa_nil))))))), rd_row_turned h⟩
abbrev s_leaving : Stmt := top 2
theorem sc_leaving : FnScope N_leaving ["rows"] (defScope s_leaving) := ⟨rfl, rfl, rfl, by decide +kernel, rfl, by decide +kernel, by decide +kernel⟩
theorem ok_leaving {f : Addr} {fd : FuncData} (F : Fun K "leaving" "leaving" s_leaving f fd) (hm : mg "leaving" = some (.ref f)) (hb : Binds K fd ["rows"] []) (M : Mg mg) (c_row_turned : Cal P w K mg base CX0 1 "row_turned" ["row"] (sp_row_turned K)) :
    Cal P w K mg base CX0 2 "leaving" ["rows"] (sp_leaving K) := by
  refine ⟨f, fd, F.ok sc_leaving (fun vs H Q E h => ?_) (fun cdv A outer s H vs Q E hr h => ?_), hm, F.kp, hb⟩
  · unfold sp_leaving at h
    first
      | (obtain ⟨rfl, _⟩ := h; rfl)
      | (obtain ⟨_, rfl, _⟩ := h; rfl)
      | (obtain ⟨_, _, rfl, _⟩ := h; rfl)
      | (obtain ⟨_, _, _, rfl, _⟩ := h; rfl)
      | (obtain ⟨_, _, _, _, rfl, _⟩ := h; rfl)
      | (obtain ⟨_, _, _, _, _, rfl, _⟩ := h; rfl)
      | (obtain ⟨_, _, _, _, _, _, rfl, _⟩ := h; rfl)
      | (obtain ⟨_, _, _, _, _, _, _, rfl, _⟩ := h; rfl)
      | (obtain ⟨_, _, _, _, _, _, _, _, rfl, _⟩ := h; rfl)
      | (obtain ⟨_, _, _, _, _, _, _, _, _, rfl, _⟩ := h; rfl)
  have hu := hu_of hr
  have hu64 := hr.units
  have hu65 := hr.u65
  have nd := sc_leaving.nd
  exact ⟨t_leaving K, (pss_cons (ps_set (i := 1) nd rfl (by first | exact Or.inl rfl | exact Or.inr rfl) e_dnew)
  (pss_cons (ps_for pnever rfl (pi_list (uv 0)) (pg_name (i := 2) nd rfl (by first | exact Or.inl rfl | exact Or.inr rfl))
  (pss_cons (ps_expr (pe_bm PySem.F.plainAttrs_list PySem.F.slot_list_append PySem.F.type_list_append m_append (e_dsetd (uv 1) (pe_ix x_tup (uv 2) pe_int plainIx) (e_lst pa_nil) ⟨rfl, rfl, rfl, rfl⟩) (pa_cons (uv 2) pa_nil)))
  (pss_one (ps_expr (pe_bm PySem.F.plainAttrs_list PySem.F.slot_list_append PySem.F.type_list_append m_append (e_dsetd (uv 1) (pe_ix x_tup (uv 2) pe_int plainIx) (e_lst pa_nil) ⟨rfl, rfl, rfl, rfl⟩) (pa_cons (c_row_turned.pe (hr.mono (by decide)) pass0 (pa_cons (uv 2) pa_nil)) pa_nil))))))
  (pss_one (ps_ret (uv 1))))), rd_leaving h⟩
abbrev s_reached : Stmt := top 3
theorem sc_reached : FnScope N_reached ["links", "one"] (defScope s_reached) := ⟨rfl, rfl, rfl, by decide +kernel, rfl, by decide +kernel, by decide +kernel⟩
theorem ok_reached {f : Addr} {fd : FuncData} (F : Fun K "reached" "reached" s_reached f fd) (hm : mg "reached" = some (.ref f)) (hb : Binds K fd ["links", "one"] []) (M : Mg mg)  :
    Cal P w K mg base CX0 1 "reached" ["links", "one"] (sp_reached K) := by
  refine ⟨f, fd, F.ok sc_reached (fun vs H Q E h => ?_) (fun cdv A outer s H vs Q E hr h => ?_), hm, F.kp, hb⟩
  · unfold sp_reached at h
    first
      | (obtain ⟨rfl, _⟩ := h; rfl)
      | (obtain ⟨_, rfl, _⟩ := h; rfl)
      | (obtain ⟨_, _, rfl, _⟩ := h; rfl)
      | (obtain ⟨_, _, _, rfl, _⟩ := h; rfl)
      | (obtain ⟨_, _, _, _, rfl, _⟩ := h; rfl)
      | (obtain ⟨_, _, _, _, _, rfl, _⟩ := h; rfl)
      | (obtain ⟨_, _, _, _, _, _, rfl, _⟩ := h; rfl)
      | (obtain ⟨_, _, _, _, _, _, _, rfl, _⟩ := h; rfl)
      | (obtain ⟨_, _, _, _, _, _, _, _, rfl, _⟩ := h; rfl)
      | (obtain ⟨_, _, _, _, _, _, _, _, _, rfl, _⟩ := h; rfl)
  have hu := hu_of hr
  have hu64 := hr.units
  have hu65 := hr.u65
  have nd := sc_reached.nd
  exact ⟨t_reached K, (pss_cons (ps_set (i := 2) nd rfl (by first | exact Or.inl rfl | exact Or.inr rfl) (e_disp1 (uv 1) pe_non))
  (pss_cons (ps_set (i := 3) nd rfl (by first | exact Or.inl rfl | exact Or.inr rfl) pe_int)
  (pss_cons (ps_set (i := 4) nd rfl (by first | exact Or.inl rfl | exact Or.inr rfl) (e_lst (pa_cons (uv 1) pa_nil)))
  (pss_cons (s_while pnever (t_cmp (c_op o_lt (uv 3) (pe_callB l_seq (by rfl) M.m_len (by decide +kernel) (pa_cons (uv 4) pa_nil))))
  (pss_cons (ps_for pnever rfl (pi_list (e_dget2 hu (uv 0) (pe_ix x_list (uv 4) (uv 3) plainIx) (e_lst pa_nil) ⟨rfl, rfl, rfl, rfl⟩)) (pg_name (i := 5) nd rfl (by first | exact Or.inl rfl | exact Or.inr rfl))
  (pss_one (s_if (t_cmp (c_dnotin hu (pe_ix x_tup (uv 5) pe_int plainIx) (uv 2)))
  (pss_cons (s_dput hu (uv 2) (pe_ix x_tup (uv 5) pe_int plainIx) (uv 5) rfl)
  (pss_one (ps_expr (pe_bm PySem.F.plainAttrs_list PySem.F.slot_list_append PySem.F.type_list_append m_append (uv 4) (pa_cons (pe_ix x_tup (uv 5) pe_int plainIx) pa_nil)))))
  pss_nil)))
  (pss_one (ps_set (i := 3) nd rfl (by first | exact Or.inl rfl | exact Or.inr rfl) (pe_op o_add (uv 3) pe_int)))))
  (pss_one (ps_ret (uv 2))))))), rd_reached h⟩
abbrev s_way_along : Stmt := top 4
theorem sc_way_along : FnScope N_way_along ["rows", "one", "other"] (defScope s_way_along) := ⟨rfl, rfl, rfl, by decide +kernel, rfl, by decide +kernel, by decide +kernel⟩
theorem ok_way_along {f : Addr} {fd : FuncData} (F : Fun K "way_along" "way_along" s_way_along f fd) (hm : mg "way_along" = some (.ref f)) (hb : Binds K fd ["rows", "one", "other"] []) (M : Mg mg) (c_reached : Cal P w K mg base CX0 1 "reached" ["links", "one"] (sp_reached K)) (c_leaving : Cal P w K mg base CX0 2 "leaving" ["rows"] (sp_leaving K)) :
    Cal P w K mg base CX0 3 "way_along" ["rows", "one", "other"] (sp_way_along K) := by
  refine ⟨f, fd, F.ok sc_way_along (fun vs H Q E h => ?_) (fun cdv A outer s H vs Q E hr h => ?_), hm, F.kp, hb⟩
  · unfold sp_way_along at h
    first
      | (obtain ⟨rfl, _⟩ := h; rfl)
      | (obtain ⟨_, rfl, _⟩ := h; rfl)
      | (obtain ⟨_, _, rfl, _⟩ := h; rfl)
      | (obtain ⟨_, _, _, rfl, _⟩ := h; rfl)
      | (obtain ⟨_, _, _, _, rfl, _⟩ := h; rfl)
      | (obtain ⟨_, _, _, _, _, rfl, _⟩ := h; rfl)
      | (obtain ⟨_, _, _, _, _, _, rfl, _⟩ := h; rfl)
      | (obtain ⟨_, _, _, _, _, _, _, rfl, _⟩ := h; rfl)
      | (obtain ⟨_, _, _, _, _, _, _, _, rfl, _⟩ := h; rfl)
      | (obtain ⟨_, _, _, _, _, _, _, _, _, rfl, _⟩ := h; rfl)
  have hu := hu_of hr
  have hu64 := hr.units
  have hu65 := hr.u65
  have nd := sc_way_along.nd
  exact ⟨t_way_along K, (pss_cons (ps_set (i := 3) nd rfl (by first | exact Or.inl rfl | exact Or.inr rfl) (c_reached.pe (hr.mono (by decide)) pass0 (pa_cons (c_leaving.pe (hr.mono (by decide)) pass0 (pa_cons (uv 0) pa_nil)) (pa_cons (uv 1) pa_nil))))
  (pss_cons (s_if (t_cmp (c_dnotin hu (uv 2) (uv 3)))
  (pss_one (ps_ret pe_non))
  pss_nil)
  (pss_cons (ps_set (i := 4) nd rfl (by first | exact Or.inl rfl | exact Or.inr rfl) (e_lst pa_nil))
  (pss_cons (ps_set (i := 5) nd rfl (by first | exact Or.inl rfl | exact Or.inr rfl) (u_dget hu (uv 3) (uv 2)))
  (pss_cons (s_while pnever (t_cmp (c_op o_notN (uv 5) pe_non))
  (pss_cons (ps_expr (pe_bm PySem.F.plainAttrs_list PySem.F.slot_list_append PySem.F.type_list_append m_append (uv 4) (pa_cons (uv 5) pa_nil)))
  (pss_one (ps_set (i := 5) nd rfl (by first | exact Or.inl rfl | exact Or.inr rfl) (u_dget hu (uv 3) (pe_ix x_tup (uv 5) pe_int plainIx))))))
  (pss_one (ps_ret (e_listRev rfl (by rfl) M.m_list (by decide +kernel) (by rfl) M.m_reversed (uv 4))))))))), rd_way_along h⟩
abbrev s__law_cell_at : Stmt := top 6
theorem sc__law_cell_at : FnScope N__law_cell_at ["_law_script", "_law_k"] (defScope s__law_cell_at) := ⟨rfl, rfl, rfl, by decide +kernel, rfl, by decide +kernel, by decide +kernel⟩
theorem ok__law_cell_at {f : Addr} {fd : FuncData} (F : Fun K "_law_cell_at" "_law_cell_at" s__law_cell_at f fd) (hm : mg "_law_cell_at" = some (.ref f)) (hb : Binds K fd ["_law_script", "_law_k"] []) (M : Mg mg)  :
    Cal P w K mg base CX0 1 "_law_cell_at" ["_law_script", "_law_k"] (sp__law_cell_at K) := by
  refine ⟨f, fd, F.ok sc__law_cell_at (fun vs H Q E h => ?_) (fun cdv A outer s H vs Q E hr h => ?_), hm, F.kp, hb⟩
  · unfold sp__law_cell_at at h
    first
      | (obtain ⟨rfl, _⟩ := h; rfl)
      | (obtain ⟨_, rfl, _⟩ := h; rfl)
      | (obtain ⟨_, _, rfl, _⟩ := h; rfl)
      | (obtain ⟨_, _, _, rfl, _⟩ := h; rfl)
      | (obtain ⟨_, _, _, _, rfl, _⟩ := h; rfl)
      | (obtain ⟨_, _, _, _, _, rfl, _⟩ := h; rfl)
      | (obtain ⟨_, _, _, _, _, _, rfl, _⟩ := h; rfl)
      | (obtain ⟨_, _, _, _, _, _, _, rfl, _⟩ := h; rfl)
      | (obtain ⟨_, _, _, _, _, _, _, _, rfl, _⟩ := h; rfl)
      | (obtain ⟨_, _, _, _, _, _, _, _, _, rfl, _⟩ := h; rfl)
  have hu := hu_of hr
  have hu64 := hr.units
  have hu65 := hr.u65
  have nd := sc__law_cell_at.nd
  exact ⟨t__law_cell_at K, (pss_cons (s_if (t_cmp (c_op o_lt (uv 1) (pe_callB l_seq (by rfl) M.m_len (by decide +kernel) (pa_cons (uv 0) pa_nil))))
  (pss_one (ps_ret (pe_ix x_list (uv 0) (uv 1) plainIx)))
  pss_nil)
  (pss_one (ps_ret pe_int))), rd__law_cell_at h⟩
abbrev s__law_mixed : Stmt := top 7
theorem sc__law_mixed : FnScope N__law_mixed ["_law_cell"] (defScope s__law_mixed) := ⟨rfl, rfl, rfl, by decide +kernel, rfl, by decide +kernel, by decide +kernel⟩
theorem ok__law_mixed {f : Addr} {fd : FuncData} (F : Fun K "_law_mixed" "_law_mixed" s__law_mixed f fd) (hm : mg "_law_mixed" = some (.ref f)) (hb : Binds K fd ["_law_cell"] []) (M : Mg mg)  :
    Cal P w K mg base CX0 1 "_law_mixed" ["_law_cell"] (sp__law_mixed K) := by
  refine ⟨f, fd, F.ok sc__law_mixed (fun vs H Q E h => ?_) (fun cdv A outer s H vs Q E hr h => ?_), hm, F.kp, hb⟩
  · unfold sp__law_mixed at h
    first
      | (obtain ⟨rfl, _⟩ := h; rfl)
      | (obtain ⟨_, rfl, _⟩ := h; rfl)
      | (obtain ⟨_, _, rfl, _⟩ := h; rfl)
      | (obtain ⟨_, _, _, rfl, _⟩ := h; rfl)
      | (obtain ⟨_, _, _, _, rfl, _⟩ := h; rfl)
      | (obtain ⟨_, _, _, _, _, rfl, _⟩ := h; rfl)
      | (obtain ⟨_, _, _, _, _, _, rfl, _⟩ := h; rfl)
      | (obtain ⟨_, _, _, _, _, _, _, rfl, _⟩ := h; rfl)
      | (obtain ⟨_, _, _, _, _, _, _, _, rfl, _⟩ := h; rfl)
      | (obtain ⟨_, _, _, _, _, _, _, _, _, rfl, _⟩ := h; rfl)
  have hu := hu_of hr
  have hu64 := hr.units
  have hu65 := hr.u65
  have nd := sc__law_mixed.nd
  exact ⟨t__law_mixed K, (pss_one (ps_ret (pe_op o_mod (pe_op o_mul (pe_op o_add (pe_op o_mod (uv 0) pe_int) pe_int) pe_int) pe_int))), rd__law_mixed h⟩
abbrev s__law_word : Stmt := top 8
theorem sc__law_word : FnScope N__law_word ["_law_number", "_law_size"] (defScope s__law_word) := ⟨rfl, rfl, rfl, by decide +kernel, rfl, by decide +kernel, by decide +kernel⟩
theorem ok__law_word {f : Addr} {fd : FuncData} (F : Fun K "_law_word" "_law_word" s__law_word f fd) (hm : mg "_law_word" = some (.ref f)) (hb : Binds K fd ["_law_number", "_law_size"] []) (M : Mg mg)  :
    Cal P w K mg base CX0 1 "_law_word" ["_law_number", "_law_size"] (sp__law_word K) := by
  refine ⟨f, fd, F.ok sc__law_word (fun vs H Q E h => ?_) (fun cdv A outer s H vs Q E hr h => ?_), hm, F.kp, hb⟩
  · unfold sp__law_word at h
    first
      | (obtain ⟨rfl, _⟩ := h; rfl)
      | (obtain ⟨_, rfl, _⟩ := h; rfl)
      | (obtain ⟨_, _, rfl, _⟩ := h; rfl)
      | (obtain ⟨_, _, _, rfl, _⟩ := h; rfl)
      | (obtain ⟨_, _, _, _, rfl, _⟩ := h; rfl)
      | (obtain ⟨_, _, _, _, _, rfl, _⟩ := h; rfl)
      | (obtain ⟨_, _, _, _, _, _, rfl, _⟩ := h; rfl)
      | (obtain ⟨_, _, _, _, _, _, _, rfl, _⟩ := h; rfl)
      | (obtain ⟨_, _, _, _, _, _, _, _, rfl, _⟩ := h; rfl)
      | (obtain ⟨_, _, _, _, _, _, _, _, _, rfl, _⟩ := h; rfl)
  have hu := hu_of hr
  have hu64 := hr.units
  have hu65 := hr.u65
  have nd := sc__law_word.nd
  exact ⟨t__law_word K, (pss_cons (ps_set (i := 2) nd rfl (by first | exact Or.inl rfl | exact Or.inr rfl) pe_str)
  (pss_cons (ps_set (i := 3) nd rfl (by first | exact Or.inl rfl | exact Or.inr rfl) pe_str)
  (pss_cons (ps_set (i := 0) nd rfl (by first | exact Or.inl rfl | exact Or.inr rfl) (pe_op o_add (pe_op o_mod (uv 0) pe_int) pe_int))
  (pss_cons (ps_for pnever rfl (pi_range1 (by rfl) M.m_range (pa_cons (uv 1) pa_nil)) (pg_name (i := 4) nd rfl (by first | exact Or.inl rfl | exact Or.inr rfl))
  (pss_cons (ps_set (i := 0) nd rfl (by first | exact Or.inl rfl | exact Or.inr rfl) (pe_op o_mod (pe_op o_mul (uv 0) (pe_op o_add pe_int (uv 4))) pe_int))
  (pss_one (ps_set (i := 3) nd rfl (by first | exact Or.inl rfl | exact Or.inr rfl) (pe_op o_addS (uv 3) (pe_ix x_str (uv 2) (pe_op o_mod (uv 0) pe_int) plainIx))))))
  (pss_one (ps_ret (uv 3))))))), rd__law_word h⟩
abbrev s__law_pool : Stmt := top 9
theorem sc__law_pool : FnScope N__law_pool ["_law_cell", "_law_many"] (defScope s__law_pool) := ⟨rfl, rfl, rfl, by decide +kernel, rfl, by decide +kernel, by decide +kernel⟩
theorem ok__law_pool {f : Addr} {fd : FuncData} (F : Fun K "_law_pool" "_law_pool" s__law_pool f fd) (hm : mg "_law_pool" = some (.ref f)) (hb : Binds K fd ["_law_cell", "_law_many"] []) (M : Mg mg) (c__law_word : Cal P w K mg base CX0 1 "_law_word" ["_law_number", "_law_size"] (sp__law_word K)) :
    Cal P w K mg base CX0 2 "_law_pool" ["_law_cell", "_law_many"] (sp__law_pool K) := by
  refine ⟨f, fd, F.ok sc__law_pool (fun vs H Q E h => ?_) (fun cdv A outer s H vs Q E hr h => ?_), hm, F.kp, hb⟩
  · unfold sp__law_pool at h
    first
      | (obtain ⟨rfl, _⟩ := h; rfl)
      | (obtain ⟨_, rfl, _⟩ := h; rfl)
      | (obtain ⟨_, _, rfl, _⟩ := h; rfl)
      | (obtain ⟨_, _, _, rfl, _⟩ := h; rfl)
      | (obtain ⟨_, _, _, _, rfl, _⟩ := h; rfl)
      | (obtain ⟨_, _, _, _, _, rfl, _⟩ := h; rfl)
      | (obtain ⟨_, _, _, _, _, _, rfl, _⟩ := h; rfl)
      | (obtain ⟨_, _, _, _, _, _, _, rfl, _⟩ := h; rfl)
      | (obtain ⟨_, _, _, _, _, _, _, _, rfl, _⟩ := h; rfl)
      | (obtain ⟨_, _, _, _, _, _, _, _, _, rfl, _⟩ := h; rfl)
  have hu := hu_of hr
  have hu64 := hr.units
  have hu65 := hr.u65
  have nd := sc__law_pool.nd
  exact ⟨t__law_pool K, (pss_cons (ps_set (i := 2) nd rfl (by first | exact Or.inl rfl | exact Or.inr rfl) pe_str)
  (pss_cons (ps_set (i := 3) nd rfl (by first | exact Or.inl rfl | exact Or.inr rfl) (pe_op o_mod (pe_op o_div (uv 0) pe_int) pe_int))
  (pss_cons (ps_set (i := 4) nd rfl (by first | exact Or.inl rfl | exact Or.inr rfl) (c__law_word.pe (hr.mono (by decide)) pass0 (pa_cons (uv 3) (pa_cons pe_int pa_nil))))
  (pss_cons (ps_set (i := 5) nd rfl (by first | exact Or.inl rfl | exact Or.inr rfl) (pe_op o_add pe_int (pe_op o_mod (uv 3) pe_int)))
  (pss_cons (ps_set (i := 6) nd rfl (by first | exact Or.inl rfl | exact Or.inr rfl) (pe_op o_mod (pe_op o_div (uv 3) pe_int) (uv 5)))
  (pss_cons (ps_set (i := 7) nd rfl (by first | exact Or.inl rfl | exact Or.inr rfl) (e_lst pa_nil))
  (pss_cons (ps_for pnever rfl (pi_range1 (by rfl) M.m_range (pa_cons (uv 1) pa_nil)) (pg_name (i := 8) nd rfl (by first | exact Or.inl rfl | exact Or.inr rfl))
  (pss_one (s_if (t_cmp (c_op o_eqI (pe_op o_mod (uv 0) pe_int) pe_int))
  (pss_cons (ps_set (i := 9) nd rfl (by first | exact Or.inl rfl | exact Or.inr rfl) (pe_op o_add pe_int (pe_op o_mod (pe_op o_add (uv 3) (pe_op o_mul (uv 8) (uv 8))) pe_int)))
  (pss_one (ps_expr (pe_bm PySem.F.plainAttrs_list PySem.F.slot_list_append PySem.F.type_list_append m_append (uv 7) (pa_cons (c__law_word.pe (hr.mono (by decide)) pass0 (pa_cons (pe_op o_add (uv 3) (pe_op o_mul pe_int (uv 8))) (pa_cons (uv 9) pa_nil))) pa_nil)))))
  (pss_one (s_if (t_cmp (c_op o_eqI (pe_op o_mod (uv 0) pe_int) pe_int))
  (pss_cons (ps_set (i := 10) nd rfl (by first | exact Or.inl rfl | exact Or.inr rfl) (pe_ix x_str (uv 2) (pe_op o_mod (pe_op o_add (pe_op o_div (uv 3) pe_int) (uv 8)) pe_int) plainIx))
  (pss_one (ps_expr (pe_bm PySem.F.plainAttrs_list PySem.F.slot_list_append PySem.F.type_list_append m_append (uv 7) (pa_cons (pe_op o_addS (pe_op o_addS (pe_slice s_str (uv 4) po_none (p_some (uv 6))) (uv 10)) (pe_slice s_str (uv 4) (p_some (pe_op o_add (uv 6) pe_int)) (p_some (uv 5)))) pa_nil)))))
  (pss_one (ps_expr (pe_bm PySem.F.plainAttrs_list PySem.F.slot_list_append PySem.F.type_list_append m_append (uv 7) (pa_cons (pe_slice s_str (uv 4) (p_some (pe_op o_div (uv 8) pe_int)) (p_some (pe_op o_add (pe_op o_add (pe_op o_div (uv 8) pe_int) pe_int) (pe_op o_mod (uv 8) pe_int)))) pa_nil)))))))))
  (pss_one (ps_ret (uv 7)))))))))), rd__law_pool h⟩
abbrev s__law_rise : Stmt := top 10
theorem sc__law_rise : FnScope N__law_rise ["_law_cell"] (defScope s__law_rise) := ⟨rfl, rfl, rfl, by decide +kernel, rfl, by decide +kernel, by decide +kernel⟩
theorem ok__law_rise {f : Addr} {fd : FuncData} (F : Fun K "_law_rise" "_law_rise" s__law_rise f fd) (hm : mg "_law_rise" = some (.ref f)) (hb : Binds K fd ["_law_cell"] []) (M : Mg mg) (c__law_mixed : Cal P w K mg base CX0 1 "_law_mixed" ["_law_cell"] (sp__law_mixed K)) :
    Cal P w K mg base CX0 2 "_law_rise" ["_law_cell"] (sp__law_rise K) := by
  refine ⟨f, fd, F.ok sc__law_rise (fun vs H Q E h => ?_) (fun cdv A outer s H vs Q E hr h => ?_), hm, F.kp, hb⟩
  · unfold sp__law_rise at h
    first
      | (obtain ⟨rfl, _⟩ := h; rfl)
      | (obtain ⟨_, rfl, _⟩ := h; rfl)
      | (obtain ⟨_, _, rfl, _⟩ := h; rfl)
      | (obtain ⟨_, _, _, rfl, _⟩ := h; rfl)
      | (obtain ⟨_, _, _, _, rfl, _⟩ := h; rfl)
      | (obtain ⟨_, _, _, _, _, rfl, _⟩ := h; rfl)
      | (obtain ⟨_, _, _, _, _, _, rfl, _⟩ := h; rfl)
      | (obtain ⟨_, _, _, _, _, _, _, rfl, _⟩ := h; rfl)
      | (obtain ⟨_, _, _, _, _, _, _, _, rfl, _⟩ := h; rfl)
      | (obtain ⟨_, _, _, _, _, _, _, _, _, rfl, _⟩ := h; rfl)
  have hu := hu_of hr
  have hu64 := hr.units
  have hu65 := hr.u65
  have nd := sc__law_rise.nd
  exact ⟨t__law_rise K, (pss_cons (ps_set (i := 1) nd rfl (by first | exact Or.inl rfl | exact Or.inr rfl) (c__law_mixed.pe (hr.mono (by decide)) pass0 (pa_cons (uv 0) pa_nil)))
  (pss_cons (s_if (t_cmp (c_op o_eqI (pe_op o_mod (uv 1) pe_int) pe_int))
  (pss_one (ps_ret (pe_ix x_list (e_lst (pa_cons pe_int (pa_cons pe_int (pa_cons (pe_un n_neg pe_int) (pa_cons pe_int (pa_cons (pe_un n_neg pe_int) (pa_cons (pe_op o_pow pe_int pe_int) (pa_cons (pe_op o_sub (pe_op o_pow pe_int pe_int) pe_int) (pa_cons (pe_op o_sub pe_int (pe_op o_pow pe_int pe_int)) pa_nil))))))))) (pe_op o_mod (pe_op o_div (uv 1) pe_int) pe_int) plainIx)))
  pss_nil)
  (pss_cons (s_if (t_cmp (c_op o_eqI (pe_op o_mod (uv 1) pe_int) pe_int))
  (pss_one (ps_ret (pe_op o_sub (pe_op o_mod (pe_op o_div (uv 1) pe_int) pe_int) pe_int)))
  pss_nil)
  (pss_cons (ps_set (i := 2) nd rfl (by first | exact Or.inl rfl | exact Or.inr rfl) (pe_op o_mod (pe_op o_add (uv 0) (pe_op o_mul (uv 1) (pe_op o_pow pe_int pe_int))) (pe_op o_pow pe_int pe_int)))
  (pss_one (ps_ret (v_if (t_cmp (c_op o_eqI (pe_op o_mod (pe_op o_div (uv 1) pe_int) pe_int) pe_int)) (uv 2) (pe_op o_sub pe_int (uv 2))))))))), rd__law_rise h⟩
abbrev s__law_rows : Stmt := top 11
theorem sc__law_rows : FnScope N__law_rows ["_law_script", "_law_pool_here"] (defScope s__law_rows) := ⟨rfl, rfl, rfl, by decide +kernel, rfl, by decide +kernel, by decide +kernel⟩
theorem ok__law_rows {f : Addr} {fd : FuncData} (F : Fun K "_law_rows" "_law_rows" s__law_rows f fd) (hm : mg "_law_rows" = some (.ref f)) (hb : Binds K fd ["_law_script", "_law_pool_here"] []) (M : Mg mg) (c__law_cell_at : Cal P w K mg base CX0 1 "_law_cell_at" ["_law_script", "_law_k"] (sp__law_cell_at K)) (c__law_mixed : Cal P w K mg base CX0 1 "_law_mixed" ["_law_cell"] (sp__law_mixed K)) (c__law_rise : Cal P w K mg base CX0 2 "_law_rise" ["_law_cell"] (sp__law_rise K)) :
    Cal P w K mg base CX0 3 "_law_rows" ["_law_script", "_law_pool_here"] (sp__law_rows K) := by
  refine ⟨f, fd, F.ok sc__law_rows (fun vs H Q E h => ?_) (fun cdv A outer s H vs Q E hr h => ?_), hm, F.kp, hb⟩
  · unfold sp__law_rows at h
    first
      | (obtain ⟨rfl, _⟩ := h; rfl)
      | (obtain ⟨_, rfl, _⟩ := h; rfl)
      | (obtain ⟨_, _, rfl, _⟩ := h; rfl)
      | (obtain ⟨_, _, _, rfl, _⟩ := h; rfl)
      | (obtain ⟨_, _, _, _, rfl, _⟩ := h; rfl)
      | (obtain ⟨_, _, _, _, _, rfl, _⟩ := h; rfl)
      | (obtain ⟨_, _, _, _, _, _, rfl, _⟩ := h; rfl)
      | (obtain ⟨_, _, _, _, _, _, _, rfl, _⟩ := h; rfl)
      | (obtain ⟨_, _, _, _, _, _, _, _, rfl, _⟩ := h; rfl)
      | (obtain ⟨_, _, _, _, _, _, _, _, _, rfl, _⟩ := h; rfl)
  have hu := hu_of hr
  have hu64 := hr.units
  have hu65 := hr.u65
  have nd := sc__law_rows.nd
  exact ⟨t__law_rows K, (pss_cons (ps_set (i := 2) nd rfl (by first | exact Or.inl rfl | exact Or.inr rfl) (pe_callB l_seq (by rfl) M.m_len (by decide +kernel) (pa_cons (uv 1) pa_nil)))
  (pss_cons (ps_set (i := 3) nd rfl (by first | exact Or.inl rfl | exact Or.inr rfl) (pe_op o_mod (c__law_cell_at.pe (hr.mono (by decide)) pass0 (pa_cons (uv 0) (pa_cons pe_int pa_nil))) pe_int))
  (pss_cons (ps_set (i := 4) nd rfl (by first | exact Or.inl rfl | exact Or.inr rfl) (c__law_mixed.pe (hr.mono (by decide)) pass0 (pa_cons (c__law_cell_at.pe (hr.mono (by decide)) pass0 (pa_cons (uv 0) (pa_cons pe_int pa_nil))) pa_nil)))
  (pss_cons (ps_set (i := 5) nd rfl (by first | exact Or.inl rfl | exact Or.inr rfl) (pe_op o_mod (uv 4) pe_int))
  (pss_cons (ps_set (i := 6) nd rfl (by first | exact Or.inl rfl | exact Or.inr rfl) (pe_ix x_list (e_lst (pa_cons pe_int (pa_cons (pe_op o_sub (uv 2) pe_int) (pa_cons pe_int (pa_cons pe_int pa_nil))))) (pe_op o_mod (pe_op o_div (uv 4) pe_int) pe_int) plainIx))
  (pss_cons (ps_set (i := 7) nd rfl (by first | exact Or.inl rfl | exact Or.inr rfl) (e_lst pa_nil))
  (pss_cons (ps_for pnever rfl (pi_range2 (by rfl) M.m_range (pa_cons pe_int (pa_cons (pe_callB (b_min rfl) (by rfl) M.m_min (by decide +kernel) (pa_cons (pe_callB l_seq (by rfl) M.m_len (by decide +kernel) (pa_cons (uv 0) pa_nil)) (pa_cons pe_int pa_nil))) pa_nil))) (pg_name (i := 8) nd rfl (by first | exact Or.inl rfl | exact Or.inr rfl))
  (pss_cons (ps_set (i := 9) nd rfl (by first | exact Or.inl rfl | exact Or.inr rfl) (pe_op o_add (pe_op o_mod (pe_op o_add (pe_ix x_list (uv 0) (uv 8) plainIx) (pe_op o_mul (uv 8) (uv 8))) pe_int) pe_int))
  (pss_cons (ps_set (i := 10) nd rfl (by first | exact Or.inl rfl | exact Or.inr rfl) (pe_op o_mod (pe_op o_mod (pe_op o_mul (uv 9) pe_int) pe_int) (uv 2)))
  (pss_cons (ps_set (i := 11) nd rfl (by first | exact Or.inl rfl | exact Or.inr rfl) (pe_op o_mod (pe_op o_mod (pe_op o_mul (uv 9) pe_int) pe_int) (uv 2)))
  (Evl.pss_cut (s_if (PW.pt (w_and (t_cmp (c_op o_eqI (uv 3) pe_int)) (pw_and1 (t_cmp (c_op o_gt (pe_op o_mod (pe_op o_mod (pe_op o_mul (uv 9) pe_int) pe_int) pe_int) pe_int)))))
  (pss_cons (ps_set (i := 10) nd rfl (by first | exact Or.inl rfl | exact Or.inr rfl) (pe_op o_mod (pe_op o_add (pe_op o_mul (uv 8) (uv 6)) (uv 5)) (uv 2)))
  (pss_one (ps_set (i := 11) nd rfl (by first | exact Or.inl rfl | exact Or.inr rfl) (pe_op o_mod (pe_op o_add (uv 10) pe_int) (uv 2)))))
  pss_nil)
  (Evl.pss_cut (s_if (t_cmp (c_op o_eqI (uv 3) pe_int))
  (pss_one (ps_set (i := 11) nd rfl (by first | exact Or.inl rfl | exact Or.inr rfl) (pe_op o_mod (pe_op o_add (uv 10) (pe_op o_mul pe_int (pe_op o_mod (pe_op o_mod (pe_op o_mul (uv 9) pe_int) pe_int) pe_int))) (uv 2))))
  pss_nil)
  (Evl.pss_cut (s_if (t_cmp (c_op o_eqI (pe_op o_mod (pe_op o_mod (pe_op o_mul (uv 9) pe_int) pe_int) pe_int) pe_int))
  (pss_one (ps_par (by rfl) nd rfl rfl (by decide) rfl rfl (pa_cons (uv 11) (pa_cons (uv 10) pa_nil)) (by rfl)))
  pss_nil)
  (pss_one (ps_expr (pe_bm PySem.F.plainAttrs_list PySem.F.slot_list_append PySem.F.type_list_append m_append (uv 7) (pa_cons (e_tup (pa_cons (pe_op o_add pe_int (pe_op o_mod (pe_op o_add (pe_op o_mul (uv 8) pe_int) (uv 5)) pe_int)) (pa_cons (pe_ix x_list (uv 1) (uv 10) plainIx) (pa_cons (pe_ix x_list (uv 1) (uv 11) plainIx) (pa_cons (c__law_rise.pe (hr.mono (by decide)) pass0 (pa_cons (pe_ix x_list (uv 0) (uv 8) plainIx) pa_nil)) pa_nil))))) pa_nil)))))))))))
  (pss_one (ps_ret (uv 7)))))))))), rd__law_rows h⟩
abbrev s__law_peg : Stmt := top 12
theorem sc__law_peg : FnScope N__law_peg ["_law_cell", "_law_pool_here"] (defScope s__law_peg) := ⟨rfl, rfl, rfl, by decide +kernel, rfl, by decide +kernel, by decide +kernel⟩
theorem ok__law_peg {f : Addr} {fd : FuncData} (F : Fun K "_law_peg" "_law_peg" s__law_peg f fd) (hm : mg "_law_peg" = some (.ref f)) (hb : Binds K fd ["_law_cell", "_law_pool_here"] []) (M : Mg mg) (c__law_mixed : Cal P w K mg base CX0 1 "_law_mixed" ["_law_cell"] (sp__law_mixed K)) (c__law_word : Cal P w K mg base CX0 1 "_law_word" ["_law_number", "_law_size"] (sp__law_word K)) :
    Cal P w K mg base CX0 2 "_law_peg" ["_law_cell", "_law_pool_here"] (sp__law_peg K) := by
  refine ⟨f, fd, F.ok sc__law_peg (fun vs H Q E h => ?_) (fun cdv A outer s H vs Q E hr h => ?_), hm, F.kp, hb⟩
  · unfold sp__law_peg at h
    first
      | (obtain ⟨rfl, _⟩ := h; rfl)
      | (obtain ⟨_, rfl, _⟩ := h; rfl)
      | (obtain ⟨_, _, rfl, _⟩ := h; rfl)
      | (obtain ⟨_, _, _, rfl, _⟩ := h; rfl)
      | (obtain ⟨_, _, _, _, rfl, _⟩ := h; rfl)
      | (obtain ⟨_, _, _, _, _, rfl, _⟩ := h; rfl)
      | (obtain ⟨_, _, _, _, _, _, rfl, _⟩ := h; rfl)
      | (obtain ⟨_, _, _, _, _, _, _, rfl, _⟩ := h; rfl)
      | (obtain ⟨_, _, _, _, _, _, _, _, rfl, _⟩ := h; rfl)
      | (obtain ⟨_, _, _, _, _, _, _, _, _, rfl, _⟩ := h; rfl)
  have hu := hu_of hr
  have hu64 := hr.units
  have hu65 := hr.u65
  have nd := sc__law_peg.nd
  exact ⟨t__law_peg K, (pss_cons (ps_set (i := 2) nd rfl (by first | exact Or.inl rfl | exact Or.inr rfl) (c__law_mixed.pe (hr.mono (by decide)) pass0 (pa_cons (uv 0) pa_nil)))
  (pss_cons (s_if (t_cmp (c_op o_eqI (pe_op o_mod (uv 2) pe_int) pe_int))
  (pss_one (ps_ret (c__law_word.pe (hr.mono (by decide)) pass0 (pa_cons (pe_op o_div (uv 2) pe_int) (pa_cons (pe_op o_add pe_int (pe_op o_mod (pe_op o_div (uv 2) pe_int) pe_int)) pa_nil)))))
  pss_nil)
  (pss_one (ps_ret (pe_ix x_list (uv 1) (pe_op o_mod (pe_op o_div (uv 2) pe_int) (pe_callB l_seq (by rfl) M.m_len (by decide +kernel) (pa_cons (uv 1) pa_nil))) plainIx))))), rd__law_peg h⟩
abbrev s__law_come : Stmt := top 13
theorem sc__law_come : FnScope N__law_come ["_law_rows_here", "_law_one"] (defScope s__law_come) := ⟨rfl, rfl, rfl, by decide +kernel, rfl, by decide +kernel, by decide +kernel⟩
theorem ok__law_come {f : Addr} {fd : FuncData} (F : Fun K "_law_come" "_law_come" s__law_come f fd) (hm : mg "_law_come" = some (.ref f)) (hb : Binds K fd ["_law_rows_here", "_law_one"] []) (M : Mg mg)  :
    Cal P w K mg base CX0 1 "_law_come" ["_law_rows_here", "_law_one"] (sp__law_come K) := by
  refine ⟨f, fd, F.ok sc__law_come (fun vs H Q E h => ?_) (fun cdv A outer s H vs Q E hr h => ?_), hm, F.kp, hb⟩
  · unfold sp__law_come at h
    first
      | (obtain ⟨rfl, _⟩ := h; rfl)
      | (obtain ⟨_, rfl, _⟩ := h; rfl)
      | (obtain ⟨_, _, rfl, _⟩ := h; rfl)
      | (obtain ⟨_, _, _, rfl, _⟩ := h; rfl)
      | (obtain ⟨_, _, _, _, rfl, _⟩ := h; rfl)
      | (obtain ⟨_, _, _, _, _, rfl, _⟩ := h; rfl)
      | (obtain ⟨_, _, _, _, _, _, rfl, _⟩ := h; rfl)
      | (obtain ⟨_, _, _, _, _, _, _, rfl, _⟩ := h; rfl)
      | (obtain ⟨_, _, _, _, _, _, _, _, rfl, _⟩ := h; rfl)
      | (obtain ⟨_, _, _, _, _, _, _, _, _, rfl, _⟩ := h; rfl)
  have hu := hu_of hr
  have hu64 := hr.units
  have hu65 := hr.u65
  have nd := sc__law_come.nd
  exact ⟨t__law_come K, (pss_cons (ps_set (i := 2) nd rfl (by first | exact Or.inl rfl | exact Or.inr rfl) (e_lst (pa_cons (uv 1) pa_nil)))
  (pss_cons (ps_set (i := 3) nd rfl (by first | exact Or.inl rfl | exact Or.inr rfl) pe_bl)
  (pss_cons (s_while pnever (t_val (uv 3))
  (pss_cons (ps_set (i := 3) nd rfl (by first | exact Or.inl rfl | exact Or.inr rfl) pe_bl)
  (pss_one (ps_for pnever rfl (pi_list (uv 0)) (pg_name (i := 4) nd rfl (by first | exact Or.inl rfl | exact Or.inr rfl))
  (pss_one (s_if (t_cmp (c_op o_neB (e_cmp (c_op o_inS (pe_ix x_tup (uv 4) pe_int plainIx) (uv 2))) (e_cmp (c_op o_inS (pe_ix x_tup (uv 4) pe_int plainIx) (uv 2)))))
  (pss_cons (ps_expr (pe_bm PySem.F.plainAttrs_list PySem.F.slot_list_append PySem.F.type_list_append m_append (uv 2) (pa_cons (v_if (t_cmp (c_op o_inS (pe_ix x_tup (uv 4) pe_int plainIx) (uv 2))) (pe_ix x_tup (uv 4) pe_int plainIx) (pe_ix x_tup (uv 4) pe_int plainIx)) pa_nil)))
  (pss_one (ps_set (i := 3) nd rfl (by first | exact Or.inl rfl | exact Or.inr rfl) pe_bl)))
  pss_nil))))))
  (pss_one (ps_ret (uv 2)))))), rd__law_come h⟩
abbrev s__law_whole : Stmt := top 14
theorem sc__law_whole : FnScope N__law_whole ["_law_found"] (defScope s__law_whole) := ⟨rfl, rfl, rfl, by decide +kernel, rfl, by decide +kernel, by decide +kernel⟩
theorem ok__law_whole {f : Addr} {fd : FuncData} (F : Fun K "_law_whole" "_law_whole" s__law_whole f fd) (hm : mg "_law_whole" = some (.ref f)) (hb : Binds K fd ["_law_found"] []) (M : Mg mg)  :
    Cal P w K mg base CX0 1 "_law_whole" ["_law_found"] (sp__law_whole K) := by
  refine ⟨f, fd, F.ok sc__law_whole (fun vs H Q E h => ?_) (fun cdv A outer s H vs Q E hr h => ?_), hm, F.kp, hb⟩
  · unfold sp__law_whole at h
    first
      | (obtain ⟨rfl, _⟩ := h; rfl)
      | (obtain ⟨_, rfl, _⟩ := h; rfl)
      | (obtain ⟨_, _, rfl, _⟩ := h; rfl)
      | (obtain ⟨_, _, _, rfl, _⟩ := h; rfl)
      | (obtain ⟨_, _, _, _, rfl, _⟩ := h; rfl)
      | (obtain ⟨_, _, _, _, _, rfl, _⟩ := h; rfl)
      | (obtain ⟨_, _, _, _, _, _, rfl, _⟩ := h; rfl)
      | (obtain ⟨_, _, _, _, _, _, _, rfl, _⟩ := h; rfl)
      | (obtain ⟨_, _, _, _, _, _, _, _, rfl, _⟩ := h; rfl)
      | (obtain ⟨_, _, _, _, _, _, _, _, _, rfl, _⟩ := h; rfl)
  have hu := hu_of hr
  have hu64 := hr.units
  have hu65 := hr.u65
  have nd := sc__law_whole.nd
  exact ⟨t__law_whole K, (pss_one (ps_ret (v_and (pe_callB b_isi (by rfl) M.m_isinstance (by decide +kernel) (pa_cons (uv 0) (pa_cons (pe_bltn (v := .ty "int") (by rfl) M.m_int (by decide +kernel) rfl) pa_nil))) (pe_one (v_not (pe_callB b_isi (by rfl) M.m_isinstance (by decide +kernel) (pa_cons (uv 0) (pa_cons (pe_bltn (v := .ty "bool") (by rfl) M.m_bool (by decide +kernel) rfl) pa_nil)))))))), rd__law_whole h⟩
abbrev s__law_is_step : Stmt := top 15
theorem sc__law_is_step : FnScope N__law_is_step ["_law_step", "_law_rows_here"] (defScope s__law_is_step) := ⟨rfl, rfl, rfl, by decide +kernel, rfl, by decide +kernel, by decide +kernel⟩
theorem ok__law_is_step {f : Addr} {fd : FuncData} (F : Fun K "_law_is_step" "_law_is_step" s__law_is_step f fd) (hm : mg "_law_is_step" = some (.ref f)) (hb : Binds K fd ["_law_step", "_law_rows_here"] []) (M : Mg mg) (c__law_whole : Cal P w K mg base CX0 1 "_law_whole" ["_law_found"] (sp__law_whole K)) :
    Cal P w K mg base CX0 2 "_law_is_step" ["_law_step", "_law_rows_here"] (sp__law_is_step K) := by
  refine ⟨f, fd, F.ok sc__law_is_step (fun vs H Q E h => ?_) (fun cdv A outer s H vs Q E hr h => ?_), hm, F.kp, hb⟩
  · unfold sp__law_is_step at h
    first
      | (obtain ⟨rfl, _⟩ := h; rfl)
      | (obtain ⟨_, rfl, _⟩ := h; rfl)
      | (obtain ⟨_, _, rfl, _⟩ := h; rfl)
      | (obtain ⟨_, _, _, rfl, _⟩ := h; rfl)
      | (obtain ⟨_, _, _, _, rfl, _⟩ := h; rfl)
      | (obtain ⟨_, _, _, _, _, rfl, _⟩ := h; rfl)
      | (obtain ⟨_, _, _, _, _, _, rfl, _⟩ := h; rfl)
      | (obtain ⟨_, _, _, _, _, _, _, rfl, _⟩ := h; rfl)
      | (obtain ⟨_, _, _, _, _, _, _, _, rfl, _⟩ := h; rfl)
      | (obtain ⟨_, _, _, _, _, _, _, _, _, rfl, _⟩ := h; rfl)
  have hu := hu_of hr
  have hu64 := hr.units
  have hu65 := hr.u65
  have nd := sc__law_is_step.nd
  exact ⟨t__law_is_step K, (pss_cons (s_if (PW.pt (w_or (t_not (t_val (pe_callB b_isi (by rfl) M.m_isinstance (by decide +kernel) (pa_cons (uv 0) (pa_cons (pe_bltn (v := .ty "tuple") (by rfl) M.m_tuple (by decide +kernel) rfl) pa_nil))))) (pw_or1 (t_cmp (c_op o_neI (pe_callB l_seq (by rfl) M.m_len (by decide +kernel) (pa_cons (uv 0) pa_nil)) pe_int)))))
  (pss_one (ps_ret pe_bl))
  pss_nil)
  (pss_cons (s_if (PW.pt (w_or (t_not (t_val (c__law_whole.pe (hr.mono (by decide)) pass0 (pa_cons (pe_ix x_tup (uv 0) pe_int plainIx) pa_nil)))) (pw_or1 (t_not (t_val (c__law_whole.pe (hr.mono (by decide)) pass0 (pa_cons (pe_ix x_tup (uv 0) pe_int plainIx) pa_nil)))))))
  (pss_one (ps_ret pe_bl))
  pss_nil)
  (pss_cons (s_if (PW.pt (w_or (t_not (t_val (pe_callB b_isi (by rfl) M.m_isinstance (by decide +kernel) (pa_cons (pe_ix x_tup (uv 0) pe_int plainIx) (pa_cons (pe_bltn (v := .ty "str") (by rfl) M.m_str (by decide +kernel) rfl) pa_nil))))) (pw_or1 (t_not (t_val (pe_callB b_isi (by rfl) M.m_isinstance (by decide +kernel) (pa_cons (pe_ix x_tup (uv 0) pe_int plainIx) (pa_cons (pe_bltn (v := .ty "str") (by rfl) M.m_str (by decide +kernel) rfl) pa_nil))))))))
  (pss_one (ps_ret pe_bl))
  pss_nil)
  (pss_one (ps_ret (v_or (e_cmp (c_op (op_inD hu65) (uv 0) (uv 1))) (pe_one (e_cmp (c_op (op_inD hu65) (e_tup (pa_cons (pe_ix x_tup (uv 0) pe_int plainIx) (pa_cons (pe_ix x_tup (uv 0) pe_int plainIx) (pa_cons (pe_ix x_tup (uv 0) pe_int plainIx) (pa_cons (pe_op o_sub pe_int (pe_ix x_tup (uv 0) pe_int plainIx)) pa_nil))))) (uv 1)))))))))), rd__law_is_step h⟩
abbrev s__law_walked : Stmt := top 16
theorem sc__law_walked : FnScope N__law_walked ["_law_found", "_law_rows_here", "_law_one", "_law_other"] (defScope s__law_walked) := ⟨rfl, rfl, rfl, by decide +kernel, rfl, by decide +kernel, by decide +kernel⟩
theorem ok__law_walked {f : Addr} {fd : FuncData} (F : Fun K "_law_walked" "_law_walked" s__law_walked f fd) (hm : mg "_law_walked" = some (.ref f)) (hb : Binds K fd ["_law_found", "_law_rows_here", "_law_one", "_law_other"] []) (M : Mg mg) (c__law_is_step : Cal P w K mg base CX0 2 "_law_is_step" ["_law_step", "_law_rows_here"] (sp__law_is_step K)) :
    Cal P w K mg base CX0 3 "_law_walked" ["_law_found", "_law_rows_here", "_law_one", "_law_other"] (sp__law_walked K) := by
  refine ⟨f, fd, F.ok sc__law_walked (fun vs H Q E h => ?_) (fun cdv A outer s H vs Q E hr h => ?_), hm, F.kp, hb⟩
  · unfold sp__law_walked at h
    first
      | (obtain ⟨rfl, _⟩ := h; rfl)
      | (obtain ⟨_, rfl, _⟩ := h; rfl)
      | (obtain ⟨_, _, rfl, _⟩ := h; rfl)
      | (obtain ⟨_, _, _, rfl, _⟩ := h; rfl)
      | (obtain ⟨_, _, _, _, rfl, _⟩ := h; rfl)
      | (obtain ⟨_, _, _, _, _, rfl, _⟩ := h; rfl)
      | (obtain ⟨_, _, _, _, _, _, rfl, _⟩ := h; rfl)
      | (obtain ⟨_, _, _, _, _, _, _, rfl, _⟩ := h; rfl)
      | (obtain ⟨_, _, _, _, _, _, _, _, rfl, _⟩ := h; rfl)
      | (obtain ⟨_, _, _, _, _, _, _, _, _, rfl, _⟩ := h; rfl)
  have hu := hu_of hr
  have hu64 := hr.units
  have hu65 := hr.u65
  have nd := sc__law_walked.nd
  exact ⟨t__law_walked K, (pss_cons (s_if (t_not (t_val (pe_callB b_isi (by rfl) M.m_isinstance (by decide +kernel) (pa_cons (uv 0) (pa_cons (pe_bltn (v := .ty "list") (by rfl) M.m_list (by decide +kernel) rfl) pa_nil)))))
  (pss_one (ps_ret pe_bl))
  pss_nil)
  (pss_cons (ps_set (i := 4) nd rfl (by first | exact Or.inl rfl | exact Or.inr rfl) (uv 2))
  (pss_cons (ps_set (i := 5) nd rfl (by first | exact Or.inl rfl | exact Or.inr rfl) (e_lst pa_nil))
  (pss_cons (ps_for pnever rfl (pi_list (uv 0)) (pg_name (i := 6) nd rfl (by first | exact Or.inl rfl | exact Or.inr rfl))
  (pss_cons (s_if (PW.pt (w_or (t_not (t_val (c__law_is_step.pe (hr.mono (by decide)) pass0 (pa_cons (uv 6) (pa_cons (uv 1) pa_nil))))) (w_or (t_cmp (c_op o_neS (pe_ix x_tup (uv 6) pe_int plainIx) (uv 4))) (pw_or1 (t_cmp (c_op o_inS (uv 4) (uv 5)))))))
  (pss_one (ps_ret pe_bl))
  pss_nil)
  (pss_cons (ps_expr (pe_bm PySem.F.plainAttrs_list PySem.F.slot_list_append PySem.F.type_list_append m_append (uv 5) (pa_cons (uv 4) pa_nil)))
  (pss_one (ps_set (i := 4) nd rfl (by first | exact Or.inl rfl | exact Or.inr rfl) (pe_ix x_tup (uv 6) pe_int plainIx))))))
  (pss_one (ps_ret (v_and (e_cmp (c_op o_eqS (uv 4) (uv 3))) (pe_one (e_cmp (c_op o_notInS (uv 4) (uv 5))))))))))), rd__law_walked h⟩
abbrev s__law_way_holds : Stmt := top 17
theorem sc__law_way_holds : FnScope N__law_way_holds ["_law_rows_here", "_law_one", "_law_other"] (defScope s__law_way_holds) := ⟨rfl, rfl, rfl, by decide +kernel, rfl, by decide +kernel, by decide +kernel⟩
theorem ok__law_way_holds {f : Addr} {fd : FuncData} (F : Fun K "_law_way_holds" "_law_way_holds" s__law_way_holds f fd) (hm : mg "_law_way_holds" = some (.ref f)) (hb : Binds K fd ["_law_rows_here", "_law_one", "_law_other"] []) (M : Mg mg) (c_way_along : Cal P w K mg base CX0 3 "way_along" ["rows", "one", "other"] (sp_way_along K)) (c__law_come : Cal P w K mg base CX0 1 "_law_come" ["_law_rows_here", "_law_one"] (sp__law_come K)) (c__law_walked : Cal P w K mg base CX0 3 "_law_walked" ["_law_found", "_law_rows_here", "_law_one", "_law_other"] (sp__law_walked K)) :
    Cal P w K mg base CX0 4 "_law_way_holds" ["_law_rows_here", "_law_one", "_law_other"] (sp__law_way_holds K) := by
  refine ⟨f, fd, F.ok sc__law_way_holds (fun vs H Q E h => ?_) (fun cdv A outer s H vs Q E hr h => ?_), hm, F.kp, hb⟩
  · unfold sp__law_way_holds at h
    first
      | (obtain ⟨rfl, _⟩ := h; rfl)
      | (obtain ⟨_, rfl, _⟩ := h; rfl)
      | (obtain ⟨_, _, rfl, _⟩ := h; rfl)
      | (obtain ⟨_, _, _, rfl, _⟩ := h; rfl)
      | (obtain ⟨_, _, _, _, rfl, _⟩ := h; rfl)
      | (obtain ⟨_, _, _, _, _, rfl, _⟩ := h; rfl)
      | (obtain ⟨_, _, _, _, _, _, rfl, _⟩ := h; rfl)
      | (obtain ⟨_, _, _, _, _, _, _, rfl, _⟩ := h; rfl)
      | (obtain ⟨_, _, _, _, _, _, _, _, rfl, _⟩ := h; rfl)
      | (obtain ⟨_, _, _, _, _, _, _, _, _, rfl, _⟩ := h; rfl)
  have hu := hu_of hr
  have hu64 := hr.units
  have hu65 := hr.u65
  have nd := sc__law_way_holds.nd
  exact ⟨t__law_way_holds K, (pss_cons (ps_set (i := 3) nd rfl (by first | exact Or.inl rfl | exact Or.inr rfl) (pe_callTy b_list (by rfl) M.m_list (by decide +kernel) (pa_cons (uv 0) pa_nil)))
  (pss_cons (ps_set (i := 4) nd rfl (by first | exact Or.inl rfl | exact Or.inr rfl) (c_way_along.pe (hr.mono (by decide)) pass0 (pa_cons (uv 3) (pa_cons (uv 1) (pa_cons (uv 2) pa_nil)))))
  (pss_cons (s_if (t_cmp (c_op (op_neD hu64) (uv 3) (uv 0)))
  (pss_one (ps_ret pe_bl))
  pss_nil)
  (pss_cons (s_if (t_cmp (c_op o_isN (uv 4) pe_non))
  (pss_one (ps_ret (e_cmp (c_op o_notInS (uv 2) (c__law_come.pe (hr.mono (by decide)) pass0 (pa_cons (uv 0) (pa_cons (uv 1) pa_nil)))))))
  pss_nil)
  (pss_one (ps_ret (c__law_walked.pe (hr.mono (by decide)) pass0 (pa_cons (uv 4) (pa_cons (uv 0) (pa_cons (uv 1) (pa_cons (uv 2) pa_nil))))))))))), rd__law_way_holds h⟩
abbrev s_law : Stmt := top 18
theorem sc_law : FnScope N_law ["_law_script"] (defScope s_law) := ⟨rfl, rfl, rfl, by decide +kernel, rfl, by decide +kernel, by decide +kernel⟩
theorem ok_law {f : Addr} {fd : FuncData} (F : Fun K "law" "law" s_law f fd) (hm : mg "law" = some (.ref f)) (hb : Binds K fd ["_law_script"] []) (M : Mg mg) (c__law_mixed : Cal P w K mg base CX0 1 "_law_mixed" ["_law_cell"] (sp__law_mixed K)) (c__law_cell_at : Cal P w K mg base CX0 1 "_law_cell_at" ["_law_script", "_law_k"] (sp__law_cell_at K)) (c__law_pool : Cal P w K mg base CX0 2 "_law_pool" ["_law_cell", "_law_many"] (sp__law_pool K)) (c__law_rows : Cal P w K mg base CX0 3 "_law_rows" ["_law_script", "_law_pool_here"] (sp__law_rows K)) (c__law_peg : Cal P w K mg base CX0 2 "_law_peg" ["_law_cell", "_law_pool_here"] (sp__law_peg K)) (c__law_way_holds : Cal P w K mg base CX0 4 "_law_way_holds" ["_law_rows_here", "_law_one", "_law_other"] (sp__law_way_holds K)) :
    Cal P w K mg base CX0 5 "law" ["_law_script"] (sp_law K) := by
  refine ⟨f, fd, F.ok sc_law (fun vs H Q E h => ?_) (fun cdv A outer s H vs Q E hr h => ?_), hm, F.kp, hb⟩
  · unfold sp_law at h
    first
      | (obtain ⟨rfl, _⟩ := h; rfl)
      | (obtain ⟨_, rfl, _⟩ := h; rfl)
      | (obtain ⟨_, _, rfl, _⟩ := h; rfl)
      | (obtain ⟨_, _, _, rfl, _⟩ := h; rfl)
      | (obtain ⟨_, _, _, _, rfl, _⟩ := h; rfl)
      | (obtain ⟨_, _, _, _, _, rfl, _⟩ := h; rfl)
      | (obtain ⟨_, _, _, _, _, _, rfl, _⟩ := h; rfl)
      | (obtain ⟨_, _, _, _, _, _, _, rfl, _⟩ := h; rfl)
      | (obtain ⟨_, _, _, _, _, _, _, _, rfl, _⟩ := h; rfl)
      | (obtain ⟨_, _, _, _, _, _, _, _, _, rfl, _⟩ := h; rfl)
  have hu := hu_of hr
  have hu64 := hr.units
  have hu65 := hr.u65
  have nd := sc_law.nd
  exact ⟨t_law K, (pss_cons (ps_set (i := 1) nd rfl (by first | exact Or.inl rfl | exact Or.inr rfl) (c__law_mixed.pe (hr.mono (by decide)) pass0 (pa_cons (c__law_cell_at.pe (hr.mono (by decide)) pass0 (pa_cons (uv 0) (pa_cons pe_int pa_nil))) pa_nil)))
  (pss_cons (ps_set (i := 2) nd rfl (by first | exact Or.inl rfl | exact Or.inr rfl) (c__law_pool.pe (hr.mono (by decide)) pass0 (pa_cons (pe_op o_div (uv 1) pe_int) (pa_cons (pe_op o_add pe_int (pe_op o_mod (uv 1) pe_int)) pa_nil))))
  (pss_cons (ps_set (i := 3) nd rfl (by first | exact Or.inl rfl | exact Or.inr rfl) (c__law_rows.pe (hr.mono (by decide)) pass0 (pa_cons (uv 0) (pa_cons (uv 2) pa_nil))))
  (pss_cons (ps_set (i := 4) nd rfl (by first | exact Or.inl rfl | exact Or.inr rfl) (c__law_peg.pe (hr.mono (by decide)) pass0 (pa_cons (c__law_cell_at.pe (hr.mono (by decide)) pass0 (pa_cons (uv 0) (pa_cons pe_int pa_nil))) (pa_cons (uv 2) pa_nil))))
  (pss_cons (ps_set (i := 5) nd rfl (by first | exact Or.inl rfl | exact Or.inr rfl) (c__law_peg.pe (hr.mono (by decide)) pass0 (pa_cons (c__law_cell_at.pe (hr.mono (by decide)) pass0 (pa_cons (uv 0) (pa_cons pe_int pa_nil))) (pa_cons (uv 2) pa_nil))))
  (Evl.pss_cut (s_if (t_cmp (c_op o_eqI (pe_op o_mod (c__law_cell_at.pe (hr.mono (by decide)) pass0 (pa_cons (uv 0) (pa_cons pe_int pa_nil))) pe_int) pe_int))
  (pss_one (ps_set (i := 5) nd rfl (by first | exact Or.inl rfl | exact Or.inr rfl) (uv 4)))
  pss_nil)
  (pss_one (ps_ret (v_and (c__law_way_holds.pe (hr.mono (by decide)) pass0 (pa_cons (uv 3) (pa_cons (uv 4) (pa_cons (uv 5) pa_nil)))) (pe_one (c__law_way_holds.pe (hr.mono (by decide)) pass0 (pa_cons (uv 3) (pa_cons (uv 5) (pa_cons (uv 4) pa_nil)))))))))))))), rd_law h⟩
end
section
variable {P : Program} {w : World} {K : PySem.W.Frag} {mg : Str → Option Value} {base : Heap}
theorem fn_law {f : Addr} {fd : FuncData} (F : Fun K "law" "law" s_law f fd) (M : Mg mg) (c__law_mixed : Cal P w K mg base CX0 1 "_law_mixed" ["_law_cell"] (sp__law_mixed K)) (c__law_cell_at : Cal P w K mg base CX0 1 "_law_cell_at" ["_law_script", "_law_k"] (sp__law_cell_at K)) (c__law_pool : Cal P w K mg base CX0 2 "_law_pool" ["_law_cell", "_law_many"] (sp__law_pool K)) (c__law_rows : Cal P w K mg base CX0 3 "_law_rows" ["_law_script", "_law_pool_here"] (sp__law_rows K)) (c__law_peg : Cal P w K mg base CX0 2 "_law_peg" ["_law_cell", "_law_pool_here"] (sp__law_peg K)) (c__law_way_holds : Cal P w K mg base CX0 4 "_law_way_holds" ["_law_rows_here", "_law_one", "_law_other"] (sp__law_way_holds K)) :
    FnOk P w K mg base CX0 5 f fd ["_law_script"] (sp_law K) := by
  refine F.ok sc_law (fun vs H Q E h => ?_) (fun cdv A outer s H vs Q E hr h => ?_)
  · unfold sp_law at h
    first
      | (obtain ⟨rfl, _⟩ := h; rfl)
      | (obtain ⟨_, rfl, _⟩ := h; rfl)
      | (obtain ⟨_, _, rfl, _⟩ := h; rfl)
      | (obtain ⟨_, _, _, rfl, _⟩ := h; rfl)
      | (obtain ⟨_, _, _, _, rfl, _⟩ := h; rfl)
      | (obtain ⟨_, _, _, _, _, rfl, _⟩ := h; rfl)
      | (obtain ⟨_, _, _, _, _, _, rfl, _⟩ := h; rfl)
      | (obtain ⟨_, _, _, _, _, _, _, rfl, _⟩ := h; rfl)
      | (obtain ⟨_, _, _, _, _, _, _, _, rfl, _⟩ := h; rfl)
      | (obtain ⟨_, _, _, _, _, _, _, _, _, rfl, _⟩ := h; rfl)
  have hu := hu_of hr
  have hu64 := hr.units
  have hu65 := hr.u65
  have nd := sc_law.nd
  exact ⟨t_law K, (pss_cons (ps_set (i := 1) nd rfl (by first | exact Or.inl rfl | exact Or.inr rfl) (c__law_mixed.pe (hr.mono (by decide)) pass0 (pa_cons (c__law_cell_at.pe (hr.mono (by decide)) pass0 (pa_cons (uv 0) (pa_cons pe_int pa_nil))) pa_nil)))
  (pss_cons (ps_set (i := 2) nd rfl (by first | exact Or.inl rfl | exact Or.inr rfl) (c__law_pool.pe (hr.mono (by decide)) pass0 (pa_cons (pe_op o_div (uv 1) pe_int) (pa_cons (pe_op o_add pe_int (pe_op o_mod (uv 1) pe_int)) pa_nil))))
  (pss_cons (ps_set (i := 3) nd rfl (by first | exact Or.inl rfl | exact Or.inr rfl) (c__law_rows.pe (hr.mono (by decide)) pass0 (pa_cons (uv 0) (pa_cons (uv 2) pa_nil))))
  (pss_cons (ps_set (i := 4) nd rfl (by first | exact Or.inl rfl | exact Or.inr rfl) (c__law_peg.pe (hr.mono (by decide)) pass0 (pa_cons (c__law_cell_at.pe (hr.mono (by decide)) pass0 (pa_cons (uv 0) (pa_cons pe_int pa_nil))) (pa_cons (uv 2) pa_nil))))
  (pss_cons (ps_set (i := 5) nd rfl (by first | exact Or.inl rfl | exact Or.inr rfl) (c__law_peg.pe (hr.mono (by decide)) pass0 (pa_cons (c__law_cell_at.pe (hr.mono (by decide)) pass0 (pa_cons (uv 0) (pa_cons pe_int pa_nil))) (pa_cons (uv 2) pa_nil))))
  (Evl.pss_cut (s_if (t_cmp (c_op o_eqI (pe_op o_mod (c__law_cell_at.pe (hr.mono (by decide)) pass0 (pa_cons (uv 0) (pa_cons pe_int pa_nil))) pe_int) pe_int))
  (pss_one (ps_set (i := 5) nd rfl (by first | exact Or.inl rfl | exact Or.inr rfl) (uv 4)))
  pss_nil)
  (pss_one (ps_ret (v_and (c__law_way_holds.pe (hr.mono (by decide)) pass0 (pa_cons (uv 3) (pa_cons (uv 4) (pa_cons (uv 5) pa_nil)))) (pe_one (c__law_way_holds.pe (hr.mono (by decide)) pass0 (pa_cons (uv 3) (pa_cons (uv 5) (pa_cons (uv 4) pa_nil)))))))))))))), rd_law h⟩
end
theorem all_mk {l : PySem.W.OpenLaw} {w : World} {K : PySem.W.Frag} {h : Heap} {mg : Str → Option Value} {fa : Addr} {f0 : Addr} {od0 an0 : Option Addr} {sl0 : Array (Option Value)} {oc0 kV0 dc0 pm0 cd0 ct0 : Value} {f1 : Addr} {od1 an1 : Option Addr} {sl1 : Array (Option Value)} {oc1 kV1 dc1 pm1 cd1 ct1 : Value} {f2 : Addr} {od2 an2 : Option Addr} {sl2 : Array (Option Value)} {oc2 kV2 dc2 pm2 cd2 ct2 : Value} {f3 : Addr} {od3 an3 : Option Addr} {sl3 : Array (Option Value)} {oc3 kV3 dc3 pm3 cd3 ct3 : Value} {f4 : Addr} {od4 an4 : Option Addr} {sl4 : Array (Option Value)} {oc4 kV4 dc4 pm4 cd4 ct4 : Value} {f5 : Addr} {od5 an5 : Option Addr} {sl5 : Array (Option Value)} {oc5 kV5 dc5 pm5 cd5 ct5 : Value} {f6 : Addr} {od6 an6 : Option Addr} {sl6 : Array (Option Value)} {oc6 kV6 dc6 pm6 cd6 ct6 : Value} {f7 : Addr} {od7 an7 : Option Addr} {sl7 : Array (Option Value)} {oc7 kV7 dc7 pm7 cd7 ct7 : Value} {f8 : Addr} {od8 an8 : Option Addr} {sl8 : Array (Option Value)} {oc8 kV8 dc8 pm8 cd8 ct8 : Value} {f9 : Addr} {od9 an9 : Option Addr} {sl9 : Array (Option Value)} {oc9 kV9 dc9 pm9 cd9 ct9 : Value} {f10 : Addr} {od10 an10 : Option Addr} {sl10 : Array (Option Value)} {oc10 kV10 dc10 pm10 cd10 ct10 : Value} {f11 : Addr} {od11 an11 : Option Addr} {sl11 : Array (Option Value)} {oc11 kV11 dc11 pm11 cd11 ct11 : Value} {f12 : Addr} {od12 an12 : Option Addr} {sl12 : Array (Option Value)} {oc12 kV12 dc12 pm12 cd12 ct12 : Value} {f13 : Addr} {od13 an13 : Option Addr} {sl13 : Array (Option Value)} {oc13 kV13 dc13 pm13 cd13 ct13 : Value} {f14 : Addr} {od14 an14 : Option Addr} {sl14 : Array (Option Value)} {oc14 kV14 dc14 pm14 cd14 ct14 : Value} {f15 : Addr} {od15 an15 : Option Addr} {sl15 : Array (Option Value)} {oc15 kV15 dc15 pm15 cd15 ct15 : Value} {f16 : Addr} {od16 an16 : Option Addr} {sl16 : Array (Option Value)} {oc16 kV16 dc16 pm16 cd16 ct16 : Value} (X : K.In h) (G : h.Ns mainGlobals mg) (hfa : mg "law" = some (.ref fa))
    (a0 : PySem.W.nsIn K mainGlobals "row_turned" = some (some (.ref f0))) (l0 : K.lookup f0 = some ⟨oc0, od0, .func (PySem.W.fnOf "row_turned" "row_turned" (defArgs s_row_turned) (defBody s_row_turned) (defScope s_row_turned) .none kV0 dc0 pm0 an0 cd0 ct0), sl0⟩) (c0 : PySem.W.codeIn K cd0 "row_turned" = true) (k0 : PySem.W.keepIn K (.ref f0) = true)
    (a1 : PySem.W.nsIn K mainGlobals "leaving" = some (some (.ref f1))) (l1 : K.lookup f1 = some ⟨oc1, od1, .func (PySem.W.fnOf "leaving" "leaving" (defArgs s_leaving) (defBody s_leaving) (defScope s_leaving) .none kV1 dc1 pm1 an1 cd1 ct1), sl1⟩) (c1 : PySem.W.codeIn K cd1 "leaving" = true) (k1 : PySem.W.keepIn K (.ref f1) = true)
    (a2 : PySem.W.nsIn K mainGlobals "reached" = some (some (.ref f2))) (l2 : K.lookup f2 = some ⟨oc2, od2, .func (PySem.W.fnOf "reached" "reached" (defArgs s_reached) (defBody s_reached) (defScope s_reached) .none kV2 dc2 pm2 an2 cd2 ct2), sl2⟩) (c2 : PySem.W.codeIn K cd2 "reached" = true) (k2 : PySem.W.keepIn K (.ref f2) = true)
    (a3 : PySem.W.nsIn K mainGlobals "way_along" = some (some (.ref f3))) (l3 : K.lookup f3 = some ⟨oc3, od3, .func (PySem.W.fnOf "way_along" "way_along" (defArgs s_way_along) (defBody s_way_along) (defScope s_way_along) .none kV3 dc3 pm3 an3 cd3 ct3), sl3⟩) (c3 : PySem.W.codeIn K cd3 "way_along" = true) (k3 : PySem.W.keepIn K (.ref f3) = true)
    (a4 : PySem.W.nsIn K mainGlobals "_law_cell_at" = some (some (.ref f4))) (l4 : K.lookup f4 = some ⟨oc4, od4, .func (PySem.W.fnOf "_law_cell_at" "_law_cell_at" (defArgs s__law_cell_at) (defBody s__law_cell_at) (defScope s__law_cell_at) .none kV4 dc4 pm4 an4 cd4 ct4), sl4⟩) (c4 : PySem.W.codeIn K cd4 "_law_cell_at" = true) (k4 : PySem.W.keepIn K (.ref f4) = true)
    (a5 : PySem.W.nsIn K mainGlobals "_law_mixed" = some (some (.ref f5))) (l5 : K.lookup f5 = some ⟨oc5, od5, .func (PySem.W.fnOf "_law_mixed" "_law_mixed" (defArgs s__law_mixed) (defBody s__law_mixed) (defScope s__law_mixed) .none kV5 dc5 pm5 an5 cd5 ct5), sl5⟩) (c5 : PySem.W.codeIn K cd5 "_law_mixed" = true) (k5 : PySem.W.keepIn K (.ref f5) = true)
    (a6 : PySem.W.nsIn K mainGlobals "_law_word" = some (some (.ref f6))) (l6 : K.lookup f6 = some ⟨oc6, od6, .func (PySem.W.fnOf "_law_word" "_law_word" (defArgs s__law_word) (defBody s__law_word) (defScope s__law_word) .none kV6 dc6 pm6 an6 cd6 ct6), sl6⟩) (c6 : PySem.W.codeIn K cd6 "_law_word" = true) (k6 : PySem.W.keepIn K (.ref f6) = true)
    (a7 : PySem.W.nsIn K mainGlobals "_law_pool" = some (some (.ref f7))) (l7 : K.lookup f7 = some ⟨oc7, od7, .func (PySem.W.fnOf "_law_pool" "_law_pool" (defArgs s__law_pool) (defBody s__law_pool) (defScope s__law_pool) .none kV7 dc7 pm7 an7 cd7 ct7), sl7⟩) (c7 : PySem.W.codeIn K cd7 "_law_pool" = true) (k7 : PySem.W.keepIn K (.ref f7) = true)
    (a8 : PySem.W.nsIn K mainGlobals "_law_rise" = some (some (.ref f8))) (l8 : K.lookup f8 = some ⟨oc8, od8, .func (PySem.W.fnOf "_law_rise" "_law_rise" (defArgs s__law_rise) (defBody s__law_rise) (defScope s__law_rise) .none kV8 dc8 pm8 an8 cd8 ct8), sl8⟩) (c8 : PySem.W.codeIn K cd8 "_law_rise" = true) (k8 : PySem.W.keepIn K (.ref f8) = true)
    (a9 : PySem.W.nsIn K mainGlobals "_law_rows" = some (some (.ref f9))) (l9 : K.lookup f9 = some ⟨oc9, od9, .func (PySem.W.fnOf "_law_rows" "_law_rows" (defArgs s__law_rows) (defBody s__law_rows) (defScope s__law_rows) .none kV9 dc9 pm9 an9 cd9 ct9), sl9⟩) (c9 : PySem.W.codeIn K cd9 "_law_rows" = true) (k9 : PySem.W.keepIn K (.ref f9) = true)
    (a10 : PySem.W.nsIn K mainGlobals "_law_peg" = some (some (.ref f10))) (l10 : K.lookup f10 = some ⟨oc10, od10, .func (PySem.W.fnOf "_law_peg" "_law_peg" (defArgs s__law_peg) (defBody s__law_peg) (defScope s__law_peg) .none kV10 dc10 pm10 an10 cd10 ct10), sl10⟩) (c10 : PySem.W.codeIn K cd10 "_law_peg" = true) (k10 : PySem.W.keepIn K (.ref f10) = true)
    (a11 : PySem.W.nsIn K mainGlobals "_law_come" = some (some (.ref f11))) (l11 : K.lookup f11 = some ⟨oc11, od11, .func (PySem.W.fnOf "_law_come" "_law_come" (defArgs s__law_come) (defBody s__law_come) (defScope s__law_come) .none kV11 dc11 pm11 an11 cd11 ct11), sl11⟩) (c11 : PySem.W.codeIn K cd11 "_law_come" = true) (k11 : PySem.W.keepIn K (.ref f11) = true)
    (a12 : PySem.W.nsIn K mainGlobals "_law_whole" = some (some (.ref f12))) (l12 : K.lookup f12 = some ⟨oc12, od12, .func (PySem.W.fnOf "_law_whole" "_law_whole" (defArgs s__law_whole) (defBody s__law_whole) (defScope s__law_whole) .none kV12 dc12 pm12 an12 cd12 ct12), sl12⟩) (c12 : PySem.W.codeIn K cd12 "_law_whole" = true) (k12 : PySem.W.keepIn K (.ref f12) = true)
    (a13 : PySem.W.nsIn K mainGlobals "_law_is_step" = some (some (.ref f13))) (l13 : K.lookup f13 = some ⟨oc13, od13, .func (PySem.W.fnOf "_law_is_step" "_law_is_step" (defArgs s__law_is_step) (defBody s__law_is_step) (defScope s__law_is_step) .none kV13 dc13 pm13 an13 cd13 ct13), sl13⟩) (c13 : PySem.W.codeIn K cd13 "_law_is_step" = true) (k13 : PySem.W.keepIn K (.ref f13) = true)
    (a14 : PySem.W.nsIn K mainGlobals "_law_walked" = some (some (.ref f14))) (l14 : K.lookup f14 = some ⟨oc14, od14, .func (PySem.W.fnOf "_law_walked" "_law_walked" (defArgs s__law_walked) (defBody s__law_walked) (defScope s__law_walked) .none kV14 dc14 pm14 an14 cd14 ct14), sl14⟩) (c14 : PySem.W.codeIn K cd14 "_law_walked" = true) (k14 : PySem.W.keepIn K (.ref f14) = true)
    (a15 : PySem.W.nsIn K mainGlobals "_law_way_holds" = some (some (.ref f15))) (l15 : K.lookup f15 = some ⟨oc15, od15, .func (PySem.W.fnOf "_law_way_holds" "_law_way_holds" (defArgs s__law_way_holds) (defBody s__law_way_holds) (defScope s__law_way_holds) .none kV15 dc15 pm15 an15 cd15 ct15), sl15⟩) (c15 : PySem.W.codeIn K cd15 "_law_way_holds" = true) (k15 : PySem.W.keepIn K (.ref f15) = true)
    (a16 : PySem.W.nsIn K mainGlobals "law" = some (some (.ref f16))) (l16 : K.lookup f16 = some ⟨oc16, od16, .func (PySem.W.fnOf "law" "law" (defArgs s_law) (defBody s_law) (defScope s_law) .none kV16 dc16 pm16 an16 cd16 ct16), sl16⟩) (c16 : PySem.W.codeIn K cd16 "law" = true) (k16 : PySem.W.keepIn K (.ref f16) = true)
    (z_len : PySem.W.nsIn K mainGlobals "len" = some none)
    (z_list : PySem.W.nsIn K mainGlobals "list" = some none)
    (z_reversed : PySem.W.nsIn K mainGlobals "reversed" = some none)
    (z_range : PySem.W.nsIn K mainGlobals "range" = some none)
    (z_min : PySem.W.nsIn K mainGlobals "min" = some none)
    (z_int : PySem.W.nsIn K mainGlobals "int" = some none)
    (z_isinstance : PySem.W.nsIn K mainGlobals "isinstance" = some none)
    (z_bool : PySem.W.nsIn K mainGlobals "bool" = some none)
    (z_tuple : PySem.W.nsIn K mainGlobals "tuple" = some none)
    (z_str : PySem.W.nsIn K mainGlobals "str" = some none) :
    ∃ fd : FuncData, (∀ (s : Shared) (v : Value), BindsTo s fd ⟨[v], []⟩ [("_law_script", v)]) ∧ ∀ base : Heap, K.In base → base.Ns mainGlobals mg → FnOk l.prog w K mg base CX0 5 fa fd ["_law_script"] (sp_law K) := by
  have e := hfa.symm.trans (PySem.W.mg_of X G a16)
  cases e
  have M : Mg mg := ⟨PySem.W.mg_none_of X G z_len, PySem.W.mg_none_of X G z_list, PySem.W.mg_none_of X G z_reversed, PySem.W.mg_none_of X G z_range, PySem.W.mg_none_of X G z_min, PySem.W.mg_none_of X G z_int, PySem.W.mg_none_of X G z_isinstance, PySem.W.mg_none_of X G z_bool, PySem.W.mg_none_of X G z_tuple, PySem.W.mg_none_of X G z_str⟩
  have F0 := fun_mk (st := s_row_turned) l0 c0 k0
  have b0 := F0.binds (ps := ["row"]) fun _ _ _ _ _ _ us hl => match us, hl with | [_], _ => rfl
  have F1 := fun_mk (st := s_leaving) l1 c1 k1
  have b1 := F1.binds (ps := ["rows"]) fun _ _ _ _ _ _ us hl => match us, hl with | [_], _ => rfl
  have F2 := fun_mk (st := s_reached) l2 c2 k2
  have b2 := F2.binds (ps := ["links", "one"]) fun _ _ _ _ _ _ us hl => match us, hl with | [_, _], _ => rfl
  have F3 := fun_mk (st := s_way_along) l3 c3 k3
  have b3 := F3.binds (ps := ["rows", "one", "other"]) fun _ _ _ _ _ _ us hl => match us, hl with | [_, _, _], _ => rfl
  have F4 := fun_mk (st := s__law_cell_at) l4 c4 k4
  have b4 := F4.binds (ps := ["_law_script", "_law_k"]) fun _ _ _ _ _ _ us hl => match us, hl with | [_, _], _ => rfl
  have F5 := fun_mk (st := s__law_mixed) l5 c5 k5
  have b5 := F5.binds (ps := ["_law_cell"]) fun _ _ _ _ _ _ us hl => match us, hl with | [_], _ => rfl
  have F6 := fun_mk (st := s__law_word) l6 c6 k6
  have b6 := F6.binds (ps := ["_law_number", "_law_size"]) fun _ _ _ _ _ _ us hl => match us, hl with | [_, _], _ => rfl
  have F7 := fun_mk (st := s__law_pool) l7 c7 k7
  have b7 := F7.binds (ps := ["_law_cell", "_law_many"]) fun _ _ _ _ _ _ us hl => match us, hl with | [_, _], _ => rfl
  have F8 := fun_mk (st := s__law_rise) l8 c8 k8
  have b8 := F8.binds (ps := ["_law_cell"]) fun _ _ _ _ _ _ us hl => match us, hl with | [_], _ => rfl
  have F9 := fun_mk (st := s__law_rows) l9 c9 k9
  have b9 := F9.binds (ps := ["_law_script", "_law_pool_here"]) fun _ _ _ _ _ _ us hl => match us, hl with | [_, _], _ => rfl
  have F10 := fun_mk (st := s__law_peg) l10 c10 k10
  have b10 := F10.binds (ps := ["_law_cell", "_law_pool_here"]) fun _ _ _ _ _ _ us hl => match us, hl with | [_, _], _ => rfl
  have F11 := fun_mk (st := s__law_come) l11 c11 k11
  have b11 := F11.binds (ps := ["_law_rows_here", "_law_one"]) fun _ _ _ _ _ _ us hl => match us, hl with | [_, _], _ => rfl
  have F12 := fun_mk (st := s__law_whole) l12 c12 k12
  have b12 := F12.binds (ps := ["_law_found"]) fun _ _ _ _ _ _ us hl => match us, hl with | [_], _ => rfl
  have F13 := fun_mk (st := s__law_is_step) l13 c13 k13
  have b13 := F13.binds (ps := ["_law_step", "_law_rows_here"]) fun _ _ _ _ _ _ us hl => match us, hl with | [_, _], _ => rfl
  have F14 := fun_mk (st := s__law_walked) l14 c14 k14
  have b14 := F14.binds (ps := ["_law_found", "_law_rows_here", "_law_one", "_law_other"]) fun _ _ _ _ _ _ us hl => match us, hl with | [_, _, _, _], _ => rfl
  have F15 := fun_mk (st := s__law_way_holds) l15 c15 k15
  have b15 := F15.binds (ps := ["_law_rows_here", "_law_one", "_law_other"]) fun _ _ _ _ _ _ us hl => match us, hl with | [_, _, _], _ => rfl
  have F16 := fun_mk (st := s_law) l16 c16 k16
  have b16 := F16.binds (ps := ["_law_script"]) fun _ _ _ _ _ _ us hl => match us, hl with | [_], _ => rfl
  refine ⟨PySem.W.fnOf "law" "law" (defArgs s_law) (defBody s_law) (defScope s_law) .none kV16 dc16 pm16 an16 cd16 ct16, fun s v => .of_eq rfl, fun base _ _ => ?_⟩
  have C_row_turned := ok_row_turned (P := l.prog) (w := w) (base := base) F0 (PySem.W.mg_of X G a0) b0 M 
  have C_leaving := ok_leaving (P := l.prog) (w := w) (base := base) F1 (PySem.W.mg_of X G a1) b1 M C_row_turned
  have C_reached := ok_reached (P := l.prog) (w := w) (base := base) F2 (PySem.W.mg_of X G a2) b2 M 
  have C_way_along := ok_way_along (P := l.prog) (w := w) (base := base) F3 (PySem.W.mg_of X G a3) b3 M C_reached C_leaving
  have C__law_cell_at := ok__law_cell_at (P := l.prog) (w := w) (base := base) F4 (PySem.W.mg_of X G a4) b4 M 
  have C__law_mixed := ok__law_mixed (P := l.prog) (w := w) (base := base) F5 (PySem.W.mg_of X G a5) b5 M 
  have C__law_word := ok__law_word (P := l.prog) (w := w) (base := base) F6 (PySem.W.mg_of X G a6) b6 M 
  have C__law_pool := ok__law_pool (P := l.prog) (w := w) (base := base) F7 (PySem.W.mg_of X G a7) b7 M C__law_word
  have C__law_rise := ok__law_rise (P := l.prog) (w := w) (base := base) F8 (PySem.W.mg_of X G a8) b8 M C__law_mixed
  have C__law_rows := ok__law_rows (P := l.prog) (w := w) (base := base) F9 (PySem.W.mg_of X G a9) b9 M C__law_cell_at C__law_mixed C__law_rise
  have C__law_peg := ok__law_peg (P := l.prog) (w := w) (base := base) F10 (PySem.W.mg_of X G a10) b10 M C__law_mixed C__law_word
  have C__law_come := ok__law_come (P := l.prog) (w := w) (base := base) F11 (PySem.W.mg_of X G a11) b11 M 
  have C__law_whole := ok__law_whole (P := l.prog) (w := w) (base := base) F12 (PySem.W.mg_of X G a12) b12 M 
  have C__law_is_step := ok__law_is_step (P := l.prog) (w := w) (base := base) F13 (PySem.W.mg_of X G a13) b13 M C__law_whole
  have C__law_walked := ok__law_walked (P := l.prog) (w := w) (base := base) F14 (PySem.W.mg_of X G a14) b14 M C__law_is_step
  have C__law_way_holds := ok__law_way_holds (P := l.prog) (w := w) (base := base) F15 (PySem.W.mg_of X G a15) b15 M C_way_along C__law_come C__law_walked
  exact fn_law F16 M C__law_mixed C__law_cell_at C__law_pool C__law_rows C__law_peg C__law_way_holds
theorem walk {l : PySem.W.OpenLaw} {q : Program} {loose : List Str} {XP : (Str → Option Value) → Heap → Prop} {YP : World → Heap → Prop} {d : DefRec} {K : Params → PySem.W.Frag} (hn : l.most = some 63) (hdf : d.params.defaults = [])
    (hY : ∀ (w : World) (h : Heap), YP w h → (K w.params).In h)
    (F : ∀ (w : World) (mg : Str → Option Value) (fa : Addr) (h : Heap), (K w.params).In h → h.Ns mainGlobals mg → mg d.name = some (.ref fa) →
      ∃ fd : FuncData, (∀ (s : Shared) (u : Value), BindsTo s fd ⟨[u], []⟩ [("_law_script", u)]) ∧ ∀ base : Heap, (K w.params).In base → base.Ns mainGlobals mg → FnOk l.prog w (K w.params) mg base CX0 5 fa fd ["_law_script"] (sp_law (K w.params))) :
    PySem.W.WalkO q loose XP YP l.row.toRowW d [] (fun f vs => PySem.call f vs) :=
  L2.walk_of (n := 63) (k := 5) (x := "_law_script") (CX := fun _ => CX0) (sp := fun w => sp_law (K w.params)) hn (by decide) hdf ⟨rfl, by decide, by decide⟩ hY F (fun _ _ a ns hl _ hS => ⟨a, ns, rfl, hS, hl, fun _ => rfl⟩) fun _ _ _ _ _ z => z
end Peg
open PySem PySem.W PyProof.Rows
set_option maxRecDepth 100000 in
set_option maxHeartbeats 0 in
theorem PySem.Challenge.cw_pegrise_k04_way_along_holds : PySem.Challenge.rw_pegrise_k04_way_along.Holds := by
  w_on; o_law; k_head; (case hw => w_witness2)
  k_fill
  refine Peg.walk (l := PySem.Challenge.rw_pegrise_k04_way_along) rfl rfl (fun w h Y => PySem.W.kIn_of Y) ?F
  case F =>
    intro w mg fa h KX G hmg
    refine' Peg.all_mk KX G hmg ?a0 ?l0 ?c0 ?k0 ?a1 ?l1 ?c1 ?k1 ?a2 ?l2 ?c2 ?k2 ?a3 ?l3 ?c3 ?k3 ?a4 ?l4 ?c4 ?k4 ?a5 ?l5 ?c5 ?k5 ?a6 ?l6 ?c6 ?k6 ?a7 ?l7 ?c7 ?k7 ?a8 ?l8 ?c8 ?k8 ?a9 ?l9 ?c9 ?k9 ?a10 ?l10 ?c10 ?k10 ?a11 ?l11 ?c11 ?k11 ?a12 ?l12 ?c12 ?k12 ?a13 ?l13 ?c13 ?k13 ?a14 ?l14 ?c14 ?k14 ?a15 ?l15 ?c15 ?k15 ?a16 ?l16 ?c16 ?k16 ?z_len ?z_list ?z_reversed ?z_range ?z_min ?z_int ?z_isinstance ?z_bool ?z_tuple ?z_str
    (case a0 => k_is)
    (case l0 => k_is)
    (case c0 => k_is)
    (case k0 => k_is)
    (case a1 => k_is)
    (case l1 => k_is)
    (case c1 => k_is)
    (case k1 => k_is)
    (case a2 => k_is)
    (case l2 => k_is)
    (case c2 => k_is)
    (case k2 => k_is)
    (case a3 => k_is)
    (case l3 => k_is)
    (case c3 => k_is)
    (case k3 => k_is)
    (case a4 => k_is)
    (case l4 => k_is)
    (case c4 => k_is)
    (case k4 => k_is)
    (case a5 => k_is)
    (case l5 => k_is)
    (case c5 => k_is)
    (case k5 => k_is)
    (case a6 => k_is)
    (case l6 => k_is)
    (case c6 => k_is)
    (case k6 => k_is)
    (case a7 => k_is)
    (case l7 => k_is)
    (case c7 => k_is)
    (case k7 => k_is)
    (case a8 => k_is)
    (case l8 => k_is)
    (case c8 => k_is)
    (case k8 => k_is)
    (case a9 => k_is)
    (case l9 => k_is)
    (case c9 => k_is)
    (case k9 => k_is)
    (case a10 => k_is)
    (case l10 => k_is)
    (case c10 => k_is)
    (case k10 => k_is)
    (case a11 => k_is)
    (case l11 => k_is)
    (case c11 => k_is)
    (case k11 => k_is)
    (case a12 => k_is)
    (case l12 => k_is)
    (case c12 => k_is)
    (case k12 => k_is)
    (case a13 => k_is)
    (case l13 => k_is)
    (case c13 => k_is)
    (case k13 => k_is)
    (case a14 => k_is)
    (case l14 => k_is)
    (case c14 => k_is)
    (case k14 => k_is)
    (case a15 => k_is)
    (case l15 => k_is)
    (case c15 => k_is)
    (case k15 => k_is)
    (case a16 => k_is)
    (case l16 => k_is)
    (case c16 => k_is)
    (case k16 => k_is)
    (case z_len => k_is)
    (case z_list => k_is)
    (case z_reversed => k_is)
    (case z_range => k_is)
    (case z_min => k_is)
    (case z_int => k_is)
    (case z_isinstance => k_is)
    (case z_bool => k_is)
    (case z_tuple => k_is)
    (case z_str => k_is)

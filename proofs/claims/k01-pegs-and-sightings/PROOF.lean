import PyProof.Rows.All
import Wide.All
import OpenK.AllK
import Wide.FinOn
import HandS.ForMost
import HandS.IsInst
import HandS.SetKeys
import HandS.Deep
import HandS.More
import HandS.Wide
import HandS.Style
import HandS.Defaults
import HandS.Evl
import PySem.Challenge.RW_pegrise_k01_pegs_and_sightings
set_option Elab.async false
set_option linter.all false
set_option maxRecDepth 100000
set_option maxHeartbeats 4000000
/-! PegU: readings that compute. -/
namespace U
open PySem PySem.Spec PyProof.Rows L2

/-! ### weaker readings -/
theorem pe_imp {X : Cx} {e : Expr} {t t' : TE} (h : PE X e t) (w : ∀ σ H Q, t' σ H Q → t σ H Q) : PE X e t' := ⟨fun pins s σ H Q I q => h.run pins s σ H Q I (w σ H Q q)⟩
theorem pt_imp {X : Cx} {e : Expr} {t t' : TT} (h : PT X e t) (w : ∀ σ H Q, t' σ H Q → t σ H Q) : PT X e t' := ⟨fun pins s σ H Q I q => h.run pins s σ H Q I (w σ H Q q)⟩
theorem op_imp {X : Cx} {f : Value → Value → Sem Value} {r r' : R2} (h : OpR X f r) (w : ∀ x y H Q, r' x y H Q → r x y H Q) : OpR X f r' := fun pins s σ H x y v u Q I rx ry q => h pins s σ H x y v u Q I rx ry (w x y H Q q)
theorem un_imp {X : Cx} {f : Value → Sem Value} {r r' : V → Hp → VK → Prop} (h : UnR X f r) (w : ∀ x H Q, r' x H Q → r x H Q) : UnR X f r' := fun pins s σ H x v Q I rx q => h pins s σ H x v Q I rx (w x H Q q)
theorem ix_imp {X : Cx} {r r' : R2} (h : IxR X r) (w : ∀ x y H Q, r' x y H Q → r x y H Q) : IxR X r' := fun value slice pins s σ H x y v u Q I rx ry q hs => h value slice pins s σ H x y v u Q I rx ry (w x y H Q q) hs
theorem call_imp {X : Cx} {f : Value} {r r' : List V → Hp → VK → Prop} (h : CallR X f r) (w : ∀ xs H Q, r' xs H Q → r xs H Q) : CallR X f r' := fun pins s σ H xs us Q I rx q => h pins s σ H xs us Q I rx (w xs H Q q)
theorem mt_imp {X : Cx} {id : String} {r r' : V → List V → Hp → VK → Prop} (h : MtR X id r) (w : ∀ x xs H Q, r' x xs H Q → r x xs H Q) : MtR X id r' := fun pins s σ H x xs v us Q I rx rxs q => h pins s σ H x xs v us Q I rx rxs (w x xs H Q q)
theorem sl_imp {X : Cx} {r r' : V → Option Int → Option Int → Hp → VK → Prop} (h : SlR X r) (w : ∀ x l u H Q, r' x l u H Q → r x l u H Q) : SlR X r' := fun pins s σ H x v vl vu lo hi sl Q I rx a b c q => h pins s σ H x v vl vu lo hi sl Q I rx a b c (w x lo hi H Q q)

/-! ### what is new, what is changed: the heap behind is a letter -/
def Chd (p : Addr) (H H' : Hp) : Prop := ∀ b o, b ≠ p → H b = some o → H' b = some o
abbrev New (H : Hp) (o : HO) (k : Addr → Hp → Prop) : Prop := ∀ (p : Addr) (H2 : Hp), H p = none → Same H H2 → H2 p = some o → k p H2
abbrev Chg (p : Addr) (H : Hp) (o : HO) (k : Hp → Prop) : Prop := ∀ (H2 : Hp), Chd p H H2 → H2 p = some o → k H2
theorem same_upd {H : Hp} {p : Addr} {o : HO} (h : H p = none) : Same H (upd H p o) := fun a u e => by
  rw [upd_ne (ne_of_none e h)]
  exact e
theorem chd_upd {H : Hp} {p : Addr} {o : HO} : Chd p H (upd H p o) := fun a u ne e => by
  rw [upd_ne ne]
  exact e
theorem New.at {H : Hp} {o : HO} {k : Addr → Hp → Prop} (h : New H o k) : ∀ p, H p = none → k p (upd H p o) := fun p hp => h p _ hp (same_upd hp) upd_same
theorem Chg.at {H : Hp} {p : Addr} {o : HO} {k : Hp → Prop} (h : Chg p H o k) : k (upd H p o) := h _ chd_upd upd_same

/-! ### slots -/
def uVar (i : Nat) : TE := fun σ H Q => match σ[i]? with
  | some (some v) => Q v H
  | _ => False
theorem var_imp {i : Nat} {σ : L2.St} {H : Hp} {Q : VK} (h : uVar i σ H Q) : tVar i σ H Q := by
  unfold uVar at h
  split at h
  · exact ⟨_, by assumption, h⟩
  · exact h.elim
theorem uv {X : Cx} (i : Nat) {x : Str} {pos : Pos} (hN : X.N[i]? = some x := by rfl) (hv : Vis X.env.scope x := by first | exact Or.inl rfl | exact Or.inr (Or.inl rfl) | exact Or.inr (Or.inr rfl)) (hd : (x == ("__debug__" : Str)) = false := by decide)
    (hcd : (x == ("__classdict__" : Str)) = false := by decide) : PE X (.Name x pos) (uVar i) := pe_imp (pe_var hN hv hd hcd) fun _ _ _ => var_imp

/-! ### two ints, two texts, two truths -/
def cII (g : Int → Int → V) : R2 := fun x y H Q => match x, y with
  | .int i, .int j => Q (g i j) H
  | _, _ => False
def cIIc (C : Int → Int → Prop) (g : Int → Int → V) : R2 := fun x y H Q => match x, y with
  | .int i, .int j => C i j ∧ Q (g i j) H
  | _, _ => False
/-- a bound on the second one alone -/
def cIJ (C : Int → Prop) (g : Int → Int → V) : R2 := fun x y H Q => match x, y with
  | .int i, .int j => C j ∧ Q (g i j) H
  | _, _ => False
def cSS (g : Str → Str → V) : R2 := fun x y H Q => match x, y with
  | .str i, .str j => Q (g i j) H
  | _, _ => False
def cBB (g : Bool → Bool → V) : R2 := fun x y H Q => match x, y with
  | .bl i, .bl j => Q (g i j) H
  | _, _ => False
theorem cII_ok {X : Cx} {f : Value → Value → Sem Value} {g : Int → Int → V} (h : OpR X f (rI0 g)) : OpR X f (cII g) := op_imp h fun x y H Q q => by
  cases x <;> cases y <;> first | exact ⟨_, _, rfl, rfl, q⟩ | exact False.elim q
theorem cIIc_ok {X : Cx} {f : Value → Value → Sem Value} {C : Int → Int → Prop} {g : Int → Int → V} (h : OpR X f (rI C g)) : OpR X f (cIIc C g) := op_imp h fun x y H Q q => by
  cases x <;> cases y <;> first | exact ⟨_, _, rfl, rfl, q⟩ | exact False.elim q
def kAdd : R2 := fun x y H Q => match x, y with
  | .int i, .int j => Q (.int (i + j)) H
  | _, _ => False
def kSub : R2 := fun x y H Q => match x, y with
  | .int i, .int j => Q (.int (i - j)) H
  | _, _ => False
def kMul : R2 := fun x y H Q => match x, y with
  | .int i, .int j => CMul i j ∧ Q (.int (i * j)) H
  | _, _ => False
def kMulW : R2 := fun x y H Q => match x, y with
  | .int i, .int j => CMulW i j ∧ Q (.int (i * j)) H
  | _, _ => False
def kMod : R2 := fun x y H Q => match x, y with
  | .int i, .int j => (0 < j) ∧ Q (.int (i % j)) H
  | _, _ => False
def kDiv : R2 := fun x y H Q => match x, y with
  | .int i, .int j => (0 < j ∧ j < 1073741824) ∧ Q (.int (i / j)) H
  | _, _ => False
def kPow : R2 := fun x y H Q => match x, y with
  | .int i, .int j => CPow i j ∧ Q (.int (i ^ j.toNat)) H
  | _, _ => False
def kLt : R2 := fun x y H Q => match x, y with
  | .int i, .int j => Q (.bl (decide (i < j))) H
  | _, _ => False
def kLe : R2 := fun x y H Q => match x, y with
  | .int i, .int j => Q (.bl (decide (i ≤ j))) H
  | _, _ => False
def kGt : R2 := fun x y H Q => match x, y with
  | .int i, .int j => Q (.bl (decide (j < i))) H
  | _, _ => False
def kGe : R2 := fun x y H Q => match x, y with
  | .int i, .int j => Q (.bl (decide (j ≤ i))) H
  | _, _ => False
def kEqI : R2 := fun x y H Q => match x, y with
  | .int i, .int j => Q (.bl (decide (i = j))) H
  | _, _ => False
def kNeI : R2 := fun x y H Q => match x, y with
  | .int i, .int j => Q (.bl (!decide (i = j))) H
  | _, _ => False
def kEqS : R2 := fun x y H Q => match x, y with
  | .str i, .str j => Q (.bl (decide (i = j))) H
  | _, _ => False
def kNeS : R2 := fun x y H Q => match x, y with
  | .str i, .str j => Q (.bl (!decide (i = j))) H
  | _, _ => False
def kEqB : R2 := fun x y H Q => match x, y with
  | .bl i, .bl j => Q (.bl (decide (i = j))) H
  | _, _ => False
def kNeB : R2 := fun x y H Q => match x, y with
  | .bl i, .bl j => Q (.bl (!decide (i = j))) H
  | _, _ => False
def kLtS : R2 := fun x y H Q => match x, y with
  | .str i, .str j => Q (.bl (decide (i.cps.toList < j.cps.toList))) H
  | _, _ => False
theorem cIJ_ok {X : Cx} {f : Value → Value → Sem Value} {C : Int → Int → Prop} {C' : Int → Prop} {g : Int → Int → V} (h : OpR X f (rI C g)) (w : ∀ i j, C' j → C i j) : OpR X f (cIJ C' g) := op_imp h fun x y H Q q => by
  cases x <;> cases y <;> first | exact ⟨_, _, rfl, rfl, w _ _ q.1, q.2⟩ | exact False.elim q
section
variable {X : Cx}
theorem o_add : OpR X (binaryOp .Add) kAdd := op_imp op_add fun x y H Q q => by
  cases x <;> cases y <;> first | exact ⟨_, _, rfl, rfl, q⟩ | exact False.elim q
theorem o_sub : OpR X (binaryOp .Sub) kSub := op_imp op_sub fun x y H Q q => by
  cases x <;> cases y <;> first | exact ⟨_, _, rfl, rfl, q⟩ | exact False.elim q
theorem o_mul : OpR X (binaryOp .Mult) kMul := op_imp op_mul fun x y H Q q => by
  cases x <;> cases y <;> first | exact ⟨_, _, rfl, rfl, q⟩ | exact False.elim q
theorem o_mulW : OpR X (binaryOp .Mult) kMulW := op_imp op_mulW fun x y H Q q => by
  cases x <;> cases y <;> first | exact ⟨_, _, rfl, rfl, q⟩ | exact False.elim q
theorem o_mod : OpR X (binaryOp .Mod) kMod := op_imp op_mod fun x y H Q q => by
  cases x <;> cases y <;> first | exact ⟨_, _, rfl, rfl, q⟩ | exact False.elim q
theorem o_div : OpR X (binaryOp .FloorDiv) kDiv := op_imp op_fdiv fun x y H Q q => by
  cases x <;> cases y <;> first | exact ⟨_, _, rfl, rfl, q⟩ | exact False.elim q
def kDivW : R2 := fun x y H Q => match x, y with
  | .int i, .int j => CDivW i j ∧ Q (.int (i / j)) H
  | _, _ => False
theorem o_divW : OpR X (binaryOp .FloorDiv) kDivW := op_imp op_fdivW fun x y H Q q => by
  cases x <;> cases y <;> first | exact ⟨_, _, rfl, rfl, q⟩ | exact False.elim q
theorem o_pow : OpR X (binaryOp .Pow) kPow := op_imp op_pow fun x y H Q q => by
  cases x <;> cases y <;> first | exact ⟨_, _, rfl, rfl, q⟩ | exact False.elim q
theorem o_lt : OpR X (compareOp .Lt) kLt := op_imp op_lt fun x y H Q q => by
  cases x <;> cases y <;> first | exact ⟨_, _, rfl, rfl, q⟩ | exact False.elim q
theorem o_le : OpR X (compareOp .LtE) kLe := op_imp op_le fun x y H Q q => by
  cases x <;> cases y <;> first | exact ⟨_, _, rfl, rfl, q⟩ | exact False.elim q
theorem o_gt : OpR X (compareOp .Gt) kGt := op_imp op_gt fun x y H Q q => by
  cases x <;> cases y <;> first | exact ⟨_, _, rfl, rfl, q⟩ | exact False.elim q
theorem o_ge : OpR X (compareOp .GtE) kGe := op_imp op_ge fun x y H Q q => by
  cases x <;> cases y <;> first | exact ⟨_, _, rfl, rfl, q⟩ | exact False.elim q
theorem o_eqI : OpR X (compareOp .Eq) kEqI := op_imp op_eq fun x y H Q q => by
  cases x <;> cases y <;> first
    | (refine ⟨rfl, ?_⟩; rw [dec_int, Bool.beq_eq_decide_eq]; exact q)
    | exact False.elim q
theorem o_neI : OpR X (compareOp .NotEq) kNeI := op_imp op_ne fun x y H Q q => by
  cases x <;> cases y <;> first
    | (refine ⟨rfl, ?_⟩; rw [dec_int, Bool.beq_eq_decide_eq]; exact q)
    | exact False.elim q
theorem o_eqS : OpR X (compareOp .Eq) kEqS := op_imp op_eq fun x y H Q q => by
  cases x <;> cases y <;> first
    | (refine ⟨rfl, ?_⟩; rw [dec_str, Bool.beq_eq_decide_eq]; exact q)
    | exact False.elim q
theorem o_neS : OpR X (compareOp .NotEq) kNeS := op_imp op_ne fun x y H Q q => by
  cases x <;> cases y <;> first
    | (refine ⟨rfl, ?_⟩; rw [dec_str, Bool.beq_eq_decide_eq]; exact q)
    | exact False.elim q
theorem o_eqB : OpR X (compareOp .Eq) kEqB := op_imp op_eq fun x y H Q q => by
  cases x <;> cases y <;> first
    | (refine ⟨rfl, ?_⟩; rw [dec_bl, Bool.beq_eq_decide_eq]; exact q)
    | exact False.elim q
theorem o_neB : OpR X (compareOp .NotEq) kNeB := op_imp op_ne fun x y H Q q => by
  cases x <;> cases y <;> first
    | (refine ⟨rfl, ?_⟩; rw [dec_bl, Bool.beq_eq_decide_eq]; exact q)
    | exact False.elim q
theorem o_ltS : OpR X (compareOp .Lt) kLtS := op_imp op_lt_str fun x y H Q q => by
  cases x <;> cases y <;> first | exact ⟨_, _, rfl, rfl, q⟩ | exact False.elim q
def cAddS : R2 := fun x y H Q => match x, y with
  | .str i, .str j => i.length + j.length ≤ sizeLine ∧ Q (.str (i ++ j)) H
  | _, _ => False
theorem o_addS : OpR X (binaryOp .Add) cAddS := op_imp op_add_str fun x y H Q q => by
  cases x <;> cases y <;> first | exact ⟨_, _, rfl, rfl, q⟩ | exact False.elim q
def cNon (b : Bool) : R2 := fun x y H Q => match y with
  | .non => Q (.bl (match x with | .non => b | _ => !b)) H
  | _ => False
theorem o_isN : OpR X (compareOp .Is) (cNon true) := op_imp op_isN fun x y H Q q => by
  cases y <;> first
    | (refine ⟨rfl, ?_⟩; cases x <;> exact q)
    | exact False.elim q
theorem o_notN : OpR X (compareOp .IsNot) (cNon false) := op_imp op_notN fun x y H Q q => by
  cases y <;> first
    | (refine ⟨rfl, ?_⟩; cases x <;> exact q)
    | exact False.elim q
/-- one sign in a text -/
def cSign (b : Bool) : R2 := fun x y H Q => match x, y with
  | .str i, .str z => ∃ c, i = ⟨#[c]⟩ ∧ Q (.bl (if b then decide (c ∈ z.cps.toList) else !decide (c ∈ z.cps.toList))) H
  | _, _ => False
theorem o_inSign : OpR X (compareOp .In) (cSign true) := op_imp op_in_sign fun x y H Q q => by
  cases x <;> cases y <;> first
    | (obtain ⟨c, e, q⟩ := q; subst e; exact ⟨_, _, rfl, rfl, q⟩)
    | exact False.elim q
theorem o_notInSign : OpR X (compareOp .NotIn) (cSign false) := op_imp op_notIn_sign fun x y H Q q => by
  cases x <;> cases y <;> first
    | (obtain ⟨c, e, q⟩ := q; subst e; exact ⟨_, _, rfl, rfl, q⟩)
    | exact False.elim q
def cI (g : Int → V) : V → Hp → VK → Prop := fun x H Q => match x with
  | .int i => Q (g i) H
  | _ => False
def kNeg : V → Hp → VK → Prop := fun x H Q => match x with
  | .int i => Q (.int (-i)) H
  | _ => False
theorem n_neg : UnR X (unaryOp .USub) kNeg := un_imp un_neg fun x H Q q => by
  cases x <;> first | exact ⟨_, rfl, q⟩ | exact False.elim q

/-! ### subscripts -/
def cIxL (K : PySem.W.Frag) : R2 := fun x y H Q => match x, y with
  | .ref p, .int i => ∃ xs v, SqL K H p xs ∧ atI xs i = some v ∧ Q v H
  | _, _ => False
def cIxT (K : PySem.W.Frag) : R2 := fun x y H Q => match x, y with
  | .ref p, .int i => ∃ xs v, SqT K H p xs ∧ atI xs i = some v ∧ Q v H
  | _, _ => False
def cIxS : R2 := fun x y H Q => match x, y with
  | .str z, .int i => ∃ c, z.length ≤ sizeLine ∧ atI z.cps.toList i = some c ∧ Q (.str ⟨#[c]⟩) H
  | _, _ => False
theorem x_list : IxR X (cIxL X.K) := ix_imp ix_list fun x y H Q q => by
  cases x <;> cases y <;> first
    | (obtain ⟨xs, v, a, b, q⟩ := q; exact ⟨_, _, _, _, rfl, rfl, a, b, q⟩)
    | exact False.elim q
theorem x_tup : IxR X (cIxT X.K) := ix_imp ix_tup fun x y H Q q => by
  cases x <;> cases y <;> first
    | (obtain ⟨xs, v, a, b, q⟩ := q; exact ⟨_, _, _, _, rfl, rfl, a, b, q⟩)
    | exact False.elim q
theorem x_str : IxR X cIxS := ix_imp ix_str fun x y H Q q => by
  cases x <;> cases y <;> first
    | (obtain ⟨c, a, b, q⟩ := q; exact ⟨_, _, _, rfl, rfl, a, b, q⟩)
    | exact False.elim q
theorem plainIx {b : Expr} (h : ∀ o i, subscripted b false o i = operate [o, i] (getItem o i) := by intro _ _; rfl) : PlainIx b := h
/-- a dict's item -/
def uDGet (td ty : TE) : TE := fun σ H Q => td σ H fun x H1 => ty σ H1 fun y H2 => match x with
  | .ref a => ∃ v, DGet H2 a y (some v) ∧ Q v H2
  | _ => False
theorem u_dget {o i : Expr} {td ty : TE} {pos : Pos} (hu : X.A.units + 1 < cLine) (ho : PE X o td) (hi : PE X i ty) (hs : NoSl i := by intro _ _; rfl) : PE X (.Subscript o i pos) (uDGet td ty) := by
  refine ⟨fun pins s σ H Q I h => ?_⟩
  refine subD_of PySem.F.slot_dict_getitem.lookup hs (thn (ho.run pins s σ H _ I h) fun u s1 ⟨x, H1, I1, rx, q1⟩ => thn (hi.run pins s1 σ H1 _ I1 q1) fun iv s2 ⟨y, H2, I2, ry, q2⟩ => ?_)
  cases x with
  | ref a =>
    obtain ⟨v, g, q2⟩ := q2
    obtain rfl : u = Value.ref a := rx
    exact ⟨dict_typeIs I2 g, d_getItem hu I2 g ry fun w' s3 I3 rw' => ⟨v, H2, I3, rw', q2⟩⟩
  | _ => exact False.elim q2
/-! ### comparisons -/
theorem c_op {a b : Expr} {op : CmpOp} {r : R2} {ta tb : TE} (ho : OpR X (compareOp op) r) (ha : PE X a ta) (hb : PE X b tb) : PC X op a b (tOp r ta tb) :=
  ⟨fun pins s σ H Q I h => binT ha hb I h fun v u s2 x y H2 I2 rx ry q => ho pins s2 σ H2 x y v u Q I2 rx ry q⟩
/-- a key in a dict -/
def uDIn (b : Bool) (ty td : TE) : TE := fun σ H Q => ty σ H fun y H1 => td σ H1 fun x H2 => match x with
  | .ref a => ∃ o, DGet H2 a y o ∧ Q (.bl (if b then o.isSome else !o.isSome)) H2
  | _ => False
theorem c_din {o i : Expr} {td ty : TE} (hu : X.A.units + 1 < cLine) (hi : PE X i ty) (ho : PE X o td) : PC X .In i o (uDIn true ty td) := by
  refine ⟨fun pins s σ H Q I h => ?_⟩
  refine thn (hi.run pins s σ H _ I h) fun iv s1 ⟨y, H1, I1, ry, q1⟩ => thn (ho.run pins s1 σ H1 _ I1 q1) fun u s2 ⟨x, H2, I2, rx, q2⟩ => ?_
  cases x with
  | ref a =>
    obtain ⟨o, g, q2⟩ := q2
    obtain rfl : u = Value.ref a := rx
    exact d_in hu I2 g ry fun s3 I3 => ⟨.bl o.isSome, H2, I3, rfl, q2⟩
  | _ => exact False.elim q2
theorem c_dnotin {o i : Expr} {td ty : TE} (hu : X.A.units + 1 < cLine) (hi : PE X i ty) (ho : PE X o td) : PC X .NotIn i o (uDIn false ty td) := by
  refine ⟨fun pins s σ H Q I h => ?_⟩
  refine thn (hi.run pins s σ H _ I h) fun iv s1 ⟨y, H1, I1, ry, q1⟩ => thn (ho.run pins s1 σ H1 _ I1 q1) fun u s2 ⟨x, H2, I2, rx, q2⟩ => ?_
  cases x with
  | ref a =>
    obtain ⟨o, g, q2⟩ := q2
    obtain rfl : u = Value.ref a := rx
    exact d_notIn hu I2 g ry fun s3 I3 => ⟨.bl (!o.isSome), H2, I3, rfl, q2⟩
  | _ => exact False.elim q2
/-- as a value -/
theorem e_cmp {a b : Expr} {op : CmpOp} {t : TE} {pos : Pos} (h : PC X op a b t) (hm : behindInMarks op b = false := by first | exact nobehind _ (by decide) (by decide) | rfl) : PE X (.Compare a [op] [b] pos) t := pe_cmp h hm

/-! ### tests -/
structure Br (b : Bool) (A B : Prop) : Prop where
  tt : b = true → A
  ff : b = false → B
theorem br_t {A B : Prop} (h : A) : Br true A B := ⟨fun _ => h, fun z => nomatch z⟩
theorem br_f {A B : Prop} (h : B) : Br false A B := ⟨(fun z => nomatch z), fun _ => h⟩
/-- the answer is known -/
theorem br_tt {b : Bool} {A B : Prop} (e : b = true) (h : A) : Br b A B := by subst e; exact br_t h
theorem br_ff {b : Bool} {A B : Prop} (e : b = false) (h : B) : Br b A B := by subst e; exact br_f h
def uT (t : TE) : TT := fun σ H Q => t σ H fun x H1 => match x with
  | .bl k => Q k H1
  | _ => False
/-- an expression with a truth for a value, as a test: any one but a comparison, and, or, not -/
theorem t_val {e : Expr} {t : TE} (h : PE X e t) (he : ∀ whole, isTrue e X.env whole = (do let v ← whole; standAt e.pos; holding [v] (truthy v)) := by intro _; rfl) : PT X e (uT t) := by
  refine ⟨fun pins s σ H Q I hw => ?_⟩
  refine isTrue_plain (thn (h.run pins s σ H _ I hw) fun v s1 ⟨x, H1, I1, r1, q1⟩ => ?_) (he _)
  cases x with
  | bl k =>
    cases r1
    exact wpAny_truthy_bool ⟨H1, I1, q1⟩
  | _ => exact False.elim q1
/-- a comparison as a test -/
theorem t_cmp {a b : Expr} {op : CmpOp} {t : TE} {pos : Pos} (h : PC X op a b t) (h1 : behindInMarks op b = false := by first | exact nobehind _ (by decide) (by decide) | rfl) : PT X (.Compare a [op] [b] pos) (uT t) := by
  refine ⟨fun pins s σ H Q I hw => ?_⟩
  refine wpAny_isTrue_Compare1 (thn (h.run pins s σ H _ I hw) fun v s1 h1 => thn h1 fun u s2 h2 => thn h2 fun c s3 ⟨x, H1, I1, r1, q1⟩ => ?_) h1
  cases x with
  | bl k =>
    cases r1
    exact wpAny_truthy_bool ⟨H1, I1, q1⟩
  | _ => exact False.elim q1
def uAnd (t u : TT) : TT := fun σ H Q => t σ H fun c H1 => Br c (u σ H1 Q) (Q false H1)
def uOr (t u : TT) : TT := fun σ H Q => t σ H fun c H1 => Br c (Q true H1) (u σ H1 Q)
def uNot (t : TT) : TT := fun σ H Q => t σ H fun c H1 => Q (!c) H1
section
variable {a b : Expr} {rest : List Expr} {tA tB' : TT} {ta tb : TE} {pos : Pos}
theorem w_and (ha : PT X a tA) (hb : PW X (.BoolOp .And (b :: rest) pos) tB') : PW X (.BoolOp .And (a :: b :: rest) pos) (uAnd tA tB') := by
  refine ⟨fun wh pins s σ H Q I h => ?_⟩
  refine isTrue_and (thn (ha.run pins s σ H _ I h) fun c s1 ⟨H1, I1, q1⟩ => ?_)
  cases c with
  | true => exact hb.run wh pins s1 σ H1 Q I1 (q1.tt rfl)
  | false => exact ⟨H1, I1, q1.ff rfl⟩
theorem w_or (ha : PT X a tA) (hb : PW X (.BoolOp .Or (b :: rest) pos) tB') : PW X (.BoolOp .Or (a :: b :: rest) pos) (uOr tA tB') := by
  refine ⟨fun wh pins s σ H Q I h => ?_⟩
  refine isTrue_or (thn (ha.run pins s σ H _ I h) fun c s1 ⟨H1, I1, q1⟩ => ?_)
  cases c with
  | true => exact ⟨H1, I1, q1.tt rfl⟩
  | false => exact hb.run wh pins s1 σ H1 Q I1 (q1.ff rfl)
theorem t_not (ha : PT X a tA) : PT X (.UnaryOp .Not a pos) (uNot tA) := pt_not ha
def uAndV (ta tb : TE) : TE := fun σ H Q => ta σ H fun x H1 => match x with
  | .bl c => Br c (tb σ H1 Q) (Q (.bl false) H1)
  | _ => False
def uOrV (ta tb : TE) : TE := fun σ H Q => ta σ H fun x H1 => match x with
  | .bl c => Br c (Q (.bl true) H1) (tb σ H1 Q)
  | _ => False
def uNotV (ta : TE) : TE := fun σ H Q => ta σ H fun x H1 => match x with
  | .bl c => Q (.bl (!c)) H1
  | _ => False
theorem v_and (ha : PE X a ta) (hb : PE X (.BoolOp .And (b :: rest) pos) tb) : PE X (.BoolOp .And (a :: b :: rest) pos) (uAndV ta tb) := by
  refine ⟨fun pins s σ H Q I h => ?_⟩
  refine BoolOp_and (thn (ha.run pins s σ H _ I h) fun v s1 ⟨x, H1, I1, r1, q1⟩ => ?_)
  cases x with
  | bl c =>
    cases r1
    refine wpAny_truthy_bool ?_
    cases c with
    | true => exact hb.run pins s1 σ H1 Q I1 (q1.tt rfl)
    | false => exact ⟨.bl false, H1, I1, rfl, q1.ff rfl⟩
  | _ => exact False.elim q1
theorem v_or (ha : PE X a ta) (hb : PE X (.BoolOp .Or (b :: rest) pos) tb) : PE X (.BoolOp .Or (a :: b :: rest) pos) (uOrV ta tb) := by
  refine ⟨fun pins s σ H Q I h => ?_⟩
  refine BoolOp_or (thn (ha.run pins s σ H _ I h) fun v s1 ⟨x, H1, I1, r1, q1⟩ => ?_)
  cases x with
  | bl c =>
    cases r1
    refine wpAny_truthy_bool ?_
    cases c with
    | false => exact hb.run pins s1 σ H1 Q I1 (q1.ff rfl)
    | true => exact ⟨.bl true, H1, I1, rfl, q1.tt rfl⟩
  | _ => exact False.elim q1
theorem v_not (ha : PE X a ta) : PE X (.UnaryOp .Not a pos) (uNotV ta) := by
  refine ⟨fun pins s σ H Q I h => ?_⟩
  refine UnaryOp_ (thn (ha.run pins s σ H _ I h) fun v s1 ⟨x, H1, I1, r1, q1⟩ => ?_)
  cases x with
  | bl c =>
    cases r1
    exact not_of (wpAny_truthy_bool ⟨.bl (!c), H1, I1, rfl, q1⟩)
  | _ => exact False.elim q1
def uIf (t : TT) (ta tb : TE) : TE := fun σ H Q => t σ H fun c H1 => Br c (ta σ H1 Q) (tb σ H1 Q)
theorem v_if {c : Expr} (hc : PT X c tA) (ha : PE X a ta) (hb : PE X b tb) : PE X (.IfExp c a b pos) (uIf tA ta tb) := by
  refine ⟨fun pins s σ H Q I h => ?_⟩
  refine wpAny_IfExp (thn (hc.run pins s σ H _ I h) fun d s1 ⟨H1, I1, q1⟩ => ?_)
  cases d with
  | true => exact ha.run pins s1 σ H1 Q I1 (q1.tt rfl)
  | false => exact hb.run pins s1 σ H1 Q I1 (q1.ff rfl)
def uIfS (c : TT) (t u : TS) : TS := fun D σ H => c σ H fun b H1 => Br b (t D σ H1) (u D σ H1)
theorem s_if {c : Expr} {sa sb : List Stmt} {tc : TT} {t u : TS} (hc : PT X c tc) (ha : PSs X sa t) (hb : PSs X sb u) : PS X (.If c sa sb pos) (uIfS tc t u) := by
  refine ⟨fun pins s σ H D I h => ?_⟩
  refine wpAny_If (thn (hc.run pins s σ H _ I h) fun d s1 ⟨H1, I1, q1⟩ => ?_)
  cases d with
  | true => exact ha.run pins s1 σ H1 D I1 (q1.tt rfl)
  | false => exact hb.run pins s1 σ H1 D I1 (q1.ff rfl)
end

/-! ### readings closed upward -/
def upE (t : TE) : TE := fun σ H R => ∃ S : VK, t σ H S ∧ ∀ v H1, S v H1 → R v H1
def upA (t : TA) : TA := fun σ H R => ∃ S : List V → Hp → Prop, t σ H S ∧ ∀ v H1, S v H1 → R v H1
theorem pe_up {e : Expr} {t : TE} (h : PE X e t) : PE X e (upE t) := ⟨fun pins s σ H Q I ⟨S, q, w⟩ => thn (h.run pins s σ H S I q) fun u s1 ⟨v, H1, I1, r1, q1⟩ => ⟨v, H1, I1, r1, w v H1 q1⟩⟩
theorem pa_up {es : List Expr} {t : TA} (h : PA X es t) : PA X es (upA t) := ⟨fun pos pins s σ H Q I ⟨S, q, w⟩ => thn (h.run pos pins s σ H S I q) fun u s1 ⟨v, H1, I1, r1, q1⟩ => ⟨v, H1, I1, r1, w v H1 q1⟩⟩
theorem ps_imp {st : Stmt} {t t' : TS} (h : PS X st t) (w : ∀ D σ H, t' D σ H → t D σ H) : PS X st t' := ⟨fun pins s σ H D I q => h.run pins s σ H D I (w D σ H q)⟩
theorem upE.of {t : TE} {σ : L2.St} {H : Hp} {S R : VK} (q : t σ H S) (w : ∀ v H1, S v H1 → R v H1) : upE t σ H R := ⟨S, q, w⟩

/-! ### displays -/
def uTup (t : TA) : TE := fun σ H Q => t σ H fun xs H1 => xs.length ≤ sizeLine ∧ New H1 (.tup xs) fun p H2 => Q (.ref p) H2
def uLst (t : TA) : TE := fun σ H Q => t σ H fun xs H1 => xs.length ≤ sizeLine ∧ New H1 (.lst xs) fun p H2 => Q (.ref p) H2
theorem e_tup {es : List Expr} {t : TA} {x1} {pos : Pos} (h : PA X es t) : PE X (.Tuple es x1 pos) (uTup t) := pe_imp (pe_tup (pa_up h)) fun σ H Q q => ⟨_, q, fun xs H1 k => ⟨k.1, New.at k.2⟩⟩
theorem e_lst {es : List Expr} {t : TA} {pos : Pos} (h : PA X es t) : PE X (.List es pos) (uLst t) := pe_imp (pe_lst (pa_up h)) fun σ H Q q => ⟨_, q, fun xs H1 k => ⟨k.1, New.at k.2⟩⟩
def uDNew : TE := fun _ H Q => New H (.dK []) fun p H2 => Q (.ref p) H2
theorem e_dnew {pos : Pos} : PE X (.Dict [] [] pos) uDNew := pe_imp pe_dnewK fun σ H Q q => New.at q
/-- a dict of one pair, its key a text or a number -/
def uDisp1 (tk tv : TE) : TE := fun σ H Q => ∀ (p : Addr) (H1 : Hp), H p = none → Same H H1 → tk σ H1 fun k H2 => tv σ H2 fun v H3 => ∃ key : Key, k = kV key ∧ H3 p = some (.dK []) ∧ Chg p H3 (.dK [(key, v)]) fun H4 => Q (.ref p) H4
theorem e_disp1 {k v : Expr} {tk tv : TE} {pos : Pos} (hk : PE X k tk) (hv : PE X v tv) : PE X (.Dict [some k] [v] pos) (uDisp1 tk tv) :=
  pe_imp (pe_disp (pps_cons (pe_up hk) (pe_up hv) pps_nil) (by rfl) (by rfl) (fun z => by cases z) (show 1 ≤ 15 by decide)) fun σ H Q q p hp =>
    ⟨_, q p _ hp (same_upd hp), fun kv H2 q2 => ⟨_, q2, fun vv H3 q3 => by
      obtain ⟨key, e1, e2, q4⟩ := q3
      exact ⟨e2, [(key, vv)], by rw [e1]; rfl, show 1 ≤ 15 by decide, q4.at⟩⟩⟩

/-! ### dicts changed -/
def uDPut (td ty tv : TE) : TS := fun D σ H => tv σ H fun v H1 => td σ H1 fun x H2 => ty σ H2 fun y H3 => match x with
  | .ref a => ∃ kvs k, H3 a = some (.dK kvs) ∧ y = kV k ∧ kvs.length < sizeLine ∧ Chg a H3 (.dK (putK kvs k v)) fun H4 => D.nx σ H4
  | _ => False
theorem s_dput {o i value : Expr} {td ty tv : TE} {pos pos' : Pos} (hu : X.A.units + 1 < cLine) (ho : PE X o td) (hi : PE X i ty) (hv : PE X value tv) (hs : swapsWith value (some (.Subscript o i pos')) pos.line X.env = pure false) : PS X (.Assign [.Subscript o i pos'] value pos) (uDPut td ty tv) :=
  ps_imp (ps_dput hu (pe_up ho) (pe_up hi) (pe_up hv) hs) fun D σ H q => ⟨_, q, fun v H1 q1 => ⟨_, q1, fun x H2 q2 => ⟨_, q2, fun y H3 q3 => by
    cases x with
    | ref a =>
      obtain ⟨kvs, k, h1, h2, h3, q4⟩ := q3
      subst h2
      exact ⟨a, _, rfl, DPut.k h1 h3, q4.at⟩
    | _ => exact False.elim q3⟩⟩⟩
def uDSetd (td ty tx : TE) : TE := fun σ H Q => td σ H fun x H1 => match x with
  | .ref a => (∃ kvs, H1 a = some (.dK kvs)) ∧ ty σ H1 fun y H2 => tx σ H2 fun z H3 => ∃ (kvs : List (Key × V)) (k : Key), H3 a = some (.dK kvs) ∧ y = kV k ∧ kvs.length < sizeLine ∧
      (∀ v, valV kvs k = some v → Q v H3) ∧ (valV kvs k = none → Chg a H3 (.dK (putK kvs k z)) fun H4 => Q z H4)
  | _ => False
theorem e_dsetd {o e f : Expr} {td ty tx : TE} {apos cpos : Pos} (ho : PE X o td) (he : PE X e ty) (hf : PE X f tx) (m : M2 X o "setdefault" apos e f cpos) : PE X (.Call (.Attribute o "setdefault" apos) [e, f] [] cpos) (uDSetd td ty tx) :=
  pe_imp (pe_dsetd (pe_up ho) (pe_up he) (pe_up hf) m) fun σ H Q q => ⟨_, q, fun x H1 q1 => by
    cases x with
    | ref a =>
      obtain ⟨⟨kv0, h0⟩, q1⟩ := q1
      exact ⟨a, rfl, .inl ⟨kv0, .inl h0⟩, _, q1, fun y H2 q2 => ⟨_, q2, fun z H3 ⟨kvs, k, h1, h2, h3, q3, q4⟩ => ⟨kvs, k, h1, h2, h3, q3, fun n => (q4 n).at⟩⟩⟩
    | _ => exact False.elim q1⟩
def uDGet2 (td ty tx : TE) : TE := fun σ H Q => td σ H fun x H1 => match x with
  | .ref a => (∃ kvs, H1 a = some (.dK kvs)) ∧ ty σ H1 fun y H2 => tx σ H2 fun z H3 => ∃ (kvs : List (Key × V)) (k : Key), H3 a = some (.dK kvs) ∧ y = kV k ∧ Q ((valV kvs k).getD z) H3
  | _ => False
theorem e_dget2 {o e f : Expr} {td ty tx : TE} {apos cpos : Pos} (hu : X.A.units + 1 < cLine) (ho : PE X o td) (he : PE X e ty) (hf : PE X f tx) (m : M2 X o "get" apos e f cpos) : PE X (.Call (.Attribute o "get" apos) [e, f] [] cpos) (uDGet2 td ty tx) :=
  pe_imp (pe_dget2 hu (pe_up ho) (pe_up he) (pe_up hf) m) fun σ H Q q => ⟨_, q, fun x H1 q1 => by
    cases x with
    | ref a =>
      obtain ⟨⟨kv0, h0⟩, q1⟩ := q1
      exact ⟨a, rfl, .inl ⟨kv0, .inl h0⟩, _, q1, fun y H2 q2 => ⟨_, q2, fun z H3 ⟨kvs, k, h1, h2, q3⟩ => ⟨_, by rw [h2]; exact DGet.k h1, q3⟩⟩⟩
    | _ => exact False.elim q1⟩
def uDPop1 (td ty : TE) : TE := fun σ H Q => td σ H fun x H1 => match x with
  | .ref a => (∃ kvs, H1 a = some (.dK kvs)) ∧ ty σ H1 fun y H2 => ∃ (kvs : List (Key × V)) (k : Key) (v : V), H2 a = some (.dK kvs) ∧ y = kV k ∧ valV kvs k = some v ∧ Chg a H2 (.dK (dropK kvs k)) fun H3 => Q v H3
  | _ => False
theorem e_dpop1 {o e : Expr} {td ty : TE} {apos cpos : Pos} (ho : PE X o td) (he : PE X e ty) (m : M1 X o "pop" apos e cpos) : PE X (.Call (.Attribute o "pop" apos) [e] [] cpos) (uDPop1 td ty) :=
  pe_imp (pe_dpop1 (pe_up ho) (pe_up he) m) fun σ H Q q => ⟨_, q, fun x H1 q1 => by
    cases x with
    | ref a =>
      obtain ⟨⟨kv0, h0⟩, q1⟩ := q1
      exact ⟨a, rfl, .inl ⟨kv0, .inl h0⟩, _, q1, fun y H2 ⟨kvs, k, v, h1, h2, h3, q3⟩ => ⟨kvs, k, v, h1, h2, h3, q3.at⟩⟩
    | _ => exact False.elim q1⟩

/-! ### lists changed, fields -/
def cApp : V → List V → Hp → VK → Prop := fun x xs H Q => match x, xs with
  | .ref l, [y] => ∃ zs, H l = some (.lst zs) ∧ zs.length < sizeLine ∧ Chg l H (.lst (zs ++ [y])) fun H2 => Q .non H2
  | _, _ => False
theorem m_append : MtR X "list.append" cApp := mt_imp mt_append fun x xs H Q q => by
  match x, xs, q with
  | .ref l, [y], q =>
    obtain ⟨zs, h1, h2, q⟩ := q
    exact ⟨l, zs, y, rfl, rfl, h1, h2, q.at⟩
def cClear : V → List V → Hp → VK → Prop := fun x xs H Q => match x, xs with
  | .ref l, [] => ∃ zs, H l = some (.lst zs) ∧ Chg l H (.lst []) fun H2 => Q .non H2
  | _, _ => False
theorem m_clear : MtR X "list.clear" cClear := mt_imp mt_clear fun x xs H Q q => by
  match x, xs, q with
  | .ref l, [], q =>
    obtain ⟨zs, h1, q⟩ := q
    exact ⟨l, zs, rfl, rfl, h1, q.at⟩
def cSetL : TSet := fun o i v H Q => match o, i with
  | .ref p, .int k => ∃ xs j, H p = some (.lst xs) ∧ ixN xs.length k = some j ∧ Chg p H (.lst (xs.set j v)) fun H2 => Q H2
  | _, _ => False
theorem p_setL : PSet X cSetL := fun pins s σ H o i v ov iv u Q I ro ri rv h => set_list pins s σ H o i v ov iv u Q I ro ri rv (by
  cases o <;> cases i <;> first
    | (obtain ⟨xs, j, h1, h2, q⟩ := h; exact ⟨_, xs, _, j, rfl, rfl, h1, h2, q.at⟩)
    | exact False.elim h)
def uFldS (K : PySem.W.Frag) (ta tv : TE) (f : Str) : TS := fun D σ H => tv σ H fun y H1 => ta σ H1 fun x H2 => match x with
  | .ref a => ∃ C dx fs, H2 a = some (.ins C dx fs) ∧ Cls K C ∧ NoAttr K C f ∧ fs.length < 1000 ∧ Chg a H2 (.ins C dx (putF f y fs)) fun H3 => D.nx σ H3
  | _ => False
theorem s_fld {o value : Expr} {ta tv : TE} {f : Str} {pos pos' : Pos} (ha : PE X o ta) (hv : PE X value tv) (hs : swapsWith value (some (.Attribute o f pos')) pos.line X.env = pure false) : PS X (.Assign [.Attribute o f pos'] value pos) (uFldS X.K ta tv f) :=
  ps_imp (ps_fld (pe_up ha) (pe_up hv) hs) fun D σ H q => ⟨_, q, fun y H1 q1 => ⟨_, q1, fun x H2 q2 => by
    cases x with
    | ref a =>
      obtain ⟨C, dx, fs, h1, h2, h3, h4, q⟩ := q2
      exact ⟨a, C, dx, fs, rfl, h1, h2, h3, h4, q.at⟩
    | _ => exact False.elim q2⟩⟩
def uFld (K : PySem.W.Frag) (ta : TE) (f : Str) : TE := fun σ H Q => ta σ H fun x H1 => match x with
  | .ref a => ∃ C dx fs v, H1 a = some (.ins C dx fs) ∧ Cls K C ∧ NoAttr K C f ∧ fs.lookup f = some v ∧ Q v H1
  | _ => False
theorem e_fld {e : Expr} {ta : TE} {f : Str} {pos : Pos} (he : PE X e ta) (hb : attributeBase e f X.env (eval e X.env) = eval e X.env) : PE X (.Attribute e f pos) (uFld X.K ta f) :=
  pe_imp (pe_fld (pe_up he) hb) fun σ H Q q => ⟨_, q, fun x H1 q1 => by
    cases x with
    | ref a =>
      obtain ⟨C, dx, fs, v, h1, h2, h3, h4, q⟩ := q1
      exact ⟨a, C, dx, fs, v, rfl, h1, h2, h3, h4, q⟩
    | _ => exact False.elim q1⟩
/-! ### calls of built-ins -/
def cLenS : List V → Hp → VK → Prop := fun xs H Q => match xs with
  | [.str z] => z.length ≤ sizeLine ∧ Q (.int z.length) H
  | _ => False
theorem l_str : CallR X (.builtin "len") cLenS := call_imp call_len_str fun xs H Q q => by
  match xs, q with
  | [.str z], q => exact ⟨z, rfl, q⟩
def cLenQ (K : PySem.W.Frag) : List V → Hp → VK → Prop := fun xs H Q => match xs with
  | [.ref p] => ∃ ys, (SqL K H p ys ∨ SqT K H p ys) ∧ Q (.int ys.length) H
  | _ => False
theorem l_seq : CallR X (.builtin "len") (cLenQ X.K) := call_imp call_len_seq fun xs H Q q => by
  match xs, q with
  | [.ref p], q =>
    obtain ⟨ys, h, q⟩ := q
    exact ⟨p, ys, rfl, h, q⟩
def cLenD : List V → Hp → VK → Prop := fun xs H Q => match xs with
  | [.ref p] => ∃ kvs, H p = some (.dK kvs) ∧ Q (.int kvs.length) H
  | _ => False
theorem l_dict : CallR X (.builtin "len") cLenD := call_imp call_lenD fun xs H Q q => by
  match xs, q with
  | [.ref p], q =>
    obtain ⟨ys, h, q⟩ := q
    exact ⟨p, ys, rfl, h, q⟩
def cAbs : List V → Hp → VK → Prop := fun xs H Q => match xs with
  | [.int i] => Q (.int (if i < 0 then -i else i)) H
  | _ => False
theorem b_abs : CallR X (.builtin "abs") cAbs := call_imp call_abs fun xs H Q q => by
  match xs, q with
  | [.int i], q => exact ⟨i, rfl, q⟩
def cMin : List V → Hp → VK → Prop := fun xs H Q => match xs with
  | [.int i, .int j] => Q (.int (if j < i then j else i)) H
  | _ => False
theorem b_min (hc : X.calm = true) : CallR X (.builtin "min") cMin := call_imp (call_min2 hc) fun xs H Q q => by
  match xs, q with
  | [.int i, .int j], q => exact ⟨i, j, rfl, q⟩
def cStrI : List V → Hp → VK → Prop := fun xs H Q => match xs with
  | [.int i] => i.natAbs.log2 < 1920 ∧ Q (.str (toString i)) H
  | _ => False
theorem b_str : CallR X (.type "str") cStrI := call_imp call_str_int fun xs H Q q => by
  match xs, q with
  | [.int i], q => exact ⟨i, rfl, q⟩
def cIntB : List V → Hp → VK → Prop := fun xs H Q => match xs with
  | [.bl k] => Q (.int (if k then 1 else 0)) H
  | _ => False
theorem b_intB : CallR X (.type "int") cIntB := call_imp call_int1 fun xs H Q q => by
  match xs, q with
  | [.bl k], q => exact .inr ⟨k, rfl, q⟩
def cIntS : List V → Hp → VK → Prop := fun xs H Q => match xs with
  | [.str a] => ∃ n, PySem.intText? a = some n ∧ a.length ≤ 640 ∧ Q (.int n) H
  | _ => False
theorem b_intS : CallR X (.type "int") cIntS := call_imp call_int_str fun xs H Q q => by
  match xs, q with
  | [.str a], q =>
    obtain ⟨n, h1, h2, q⟩ := q
    exact ⟨a, n, rfl, h1, h2, q⟩
/-- isinstance of a built-in class -/
def cIsi (K : PySem.W.Frag) : List V → Hp → VK → Prop := fun xs H Q => match xs with
  | [x, .ty n] => ∃ t b, TyX K H x (.type t) ∧ kitB t n = some b ∧ Q (.bl b) H
  | _ => False
theorem b_isi : CallR X (.builtin "isinstance") (cIsi X.K) := call_imp call_isi fun xs H Q q => by
  match xs, q with
  | [x, .ty n], q =>
    obtain ⟨t, b, h1, h2, q⟩ := q
    exact ⟨x, .ty n, .type t, .type n, b, rfl, .ty n, h1, kit_ty h2, q⟩

/-! ### more built-ins -/
def cList (K : PySem.W.Frag) : List V → Hp → VK → Prop := fun xs H Q => match xs with
  | [.ref p] => ∃ ys, (SqL K H p ys ∨ SqT K H p ys) ∧ New H (.lst ys) fun l H2 => Q (.ref l) H2
  | _ => False
theorem b_list : CallR X (.type "list") (cList X.K) := call_imp call_list_of fun xs H Q q => by
  match xs, q with
  | [.ref p], q =>
    obtain ⟨ys, h, q⟩ := q
    exact ⟨p, ys, rfl, h, New.at q⟩
def cListD : List V → Hp → VK → Prop := fun xs H Q => match xs with
  | [.ref p] => ∃ kvs, Rd H p (.dK kvs) ∧ New H (.lst (kvs.map fun kv => kV kv.1)) fun l H2 => Q (.ref l) H2
  | _ => False
theorem b_listD (hc : X.calm = true) : CallR X (.type "list") cListD := call_imp (call_listD hc) fun xs H Q q => by
  match xs, q with
  | [.ref p], q =>
    obtain ⟨ys, h, q⟩ := q
    exact ⟨p, ys, rfl, h, New.at q⟩
def cSum (K : PySem.W.Frag) : List V → Hp → VK → Prop := fun xs H Q => match xs with
  | [.ref p] => ∃ ns : List Int, SqL K H p (ns.map V.int) ∧ Q (.int ns.sum) H
  | _ => False
theorem b_sum (hc : X.calm = true) : CallR X (.builtin "sum") (cSum X.K) := call_imp (cr_sum hc) fun xs H Q q => by
  match xs, q with
  | [.ref p], q =>
    obtain ⟨ys, h, q⟩ := q
    exact ⟨p, ys, rfl, h, q⟩
def cSortedS (K : PySem.W.Frag) : List V → Hp → VK → Prop := fun xs H Q => match xs with
  | [.ref p] => ∃ ss : List Str, SqL K H p (ss.map V.str) ∧ ss.length < 64 ∧ ∀ (ys : List Str), ys.Perm ss → sortedS ys = true → New H (.lst (ys.map V.str)) fun p H2 => Q (.ref p) H2
  | _ => False
theorem b_sortedS : CallR X (.builtin "sorted") (cSortedS X.K) := call_imp cr_sortedS fun xs H Q q => by
  match xs, q with
  | [.ref p], q =>
    obtain ⟨ss, h, h2, q⟩ := q
    exact ⟨p, ss, rfl, h, h2, fun ys p h3 h4 => New.at (q ys h3 h4) p⟩
def cSortedD : List V → Hp → VK → Prop := fun xs H Q => match xs with
  | [.ref p] => ∃ (kvs : List (Key × V)) (ks : List Str), Rd H p (.dK kvs) ∧ kvs.map (·.1) = ks.map Sum.inr ∧ ks.length < 64 ∧ ∀ (ys : List Str), ys.Perm ks → sortedS ys = true → New H (.lst (ys.map V.str)) fun p H2 => Q (.ref p) H2
  | _ => False
theorem b_sortedD (hc : X.calm = true) : CallR X (.builtin "sorted") cSortedD := call_imp (call_sortedD hc) fun xs H Q q => by
  match xs, q with
  | [.ref p], q =>
    obtain ⟨kvs, ks, h, h1, h2, q⟩ := q
    exact ⟨p, kvs, ks, rfl, h, h1, h2, fun ys p h3 h4 => New.at (q ys h3 h4) p⟩
def uRev (K : PySem.W.Frag) (te : TE) : TE := fun σ H Q => te σ H fun x H1 => match x with
  | .ref a => ∃ xs, SqL K H1 a xs ∧ New H1 (.lst xs.reverse) fun p H2 => Q (.ref p) H2
  | _ => False
theorem e_rev {e : Expr} {te : TE} {k : Nat} {p1 p2 p3 pos : Pos} (he : PE X e te) : PE X (.Subscript e (.Slice none none (some (.UnaryOp .USub (.Constant (.int 1) k p1) p2)) p3) pos) (uRev X.K te) :=
  pe_imp (pe_revL (pe_up he)) fun σ H Q q => ⟨_, q, fun x H1 q1 => by
    cases x with
    | ref a =>
      obtain ⟨xs, h1, q⟩ := q1
      exact ⟨a, xs, rfl, h1, New.at q⟩
    | _ => exact False.elim q1⟩
def cCat : R2 := fun x y H Q => match x, y with
  | .ref a, .ref b => ∃ xs zs, H a = some (.lst xs) ∧ H b = some (.lst zs) ∧ xs.length + zs.length ≤ sizeLine ∧ New H (.lst (xs ++ zs)) fun p H2 => Q (.ref p) H2
  | _, _ => False
theorem o_cat : OpR X (binaryOp .Add) cCat := op_imp op_cat fun x y H Q q => by
  cases x <;> cases y <;> first
    | (obtain ⟨xs, zs, a, b, c, q⟩ := q; exact ⟨_, _, _, _, rfl, rfl, a, b, c, New.at q⟩)
    | exact False.elim q

/-! ### slices -/
def uPart (t : TE) : TO := fun σ H Q => t σ H fun x H1 => match x with
  | .int i => Q (some i) H1
  | _ => False
theorem p_some {e : Expr} {te : TE} (h : PE X e te) : PO X (some e) (uPart te) := by
  refine ⟨fun pins s σ H Q I hw => ?_⟩
  rw [evalPart_some]
  refine thn (h.run pins s σ H _ I hw) fun u s1 ⟨x, H1, I1, r1, q1⟩ => ?_
  cases x with
  | int i =>
    obtain ⟨t, rfl⟩ := r1
    exact ⟨some i, H1, I1, .int i t, q1⟩
  | _ => exact False.elim q1
def cSlS : V → Option Int → Option Int → Hp → VK → Prop := fun x lo hi H Q => match x with
  | .str z => z.length ≤ sizeLine ∧ Q (.str (cutS z lo hi)) H
  | _ => False
theorem s_str : SlR X cSlS := sl_imp sl_str fun x l u H Q q => by
  cases x <;> first
    | exact ⟨_, rfl, q⟩
    | exact False.elim q
def cSlL (K : PySem.W.Frag) : V → Option Int → Option Int → Hp → VK → Prop := fun x lo hi H Q => match x with
  | .ref a => ∃ xs, SqL K H a xs ∧ New H (.lst (cutV xs lo hi)) fun p H2 => Q (.ref p) H2
  | _ => False
theorem s_list : SlR X (cSlL X.K) := sl_imp sl_list fun x l u H Q q => by
  cases x <;> first
    | (obtain ⟨xs, h, q⟩ := q; exact ⟨_, _, rfl, h, New.at q⟩)
    | exact False.elim q

/-! ### comprehensions -/
@[irreducible] def uLc (wi : TI) (g : TG) (tt : TT) (te : TE) (vs : List Nat) : TE := tLc wi g tt te vs
theorem uLc_of {wi : TI} {g : TG} {tt : TT} {te : TE} {vs : List Nat} {σ : L2.St} {H : Hp} {Q : VK} (h : tLc wi g tt te vs σ H Q) : uLc wi g tt te vs σ H Q := by
  unfold uLc
  exact h
theorem u_lc {elt tg iter : Expr} {ifs : List Expr} {scope : Scope} {own : List (Str × Nat)} {pos : Pos} {wi : TI} {g : TG} {tt : TT} {te : TE} (hc : X.calm = true) (hN : X.N.Nodup) (hi : PI X tg iter wi) (ok : BlkOk X.N X.env.scope scope own)
    (hg : ∀ (s : Shared) (H : Hp) (C : Addr) (cl : List (Str × Addr)) (fp : List Addr), PG (X.blk s H scope (compEnvC scope cl C X.env) fp) tg g) (ht : ∀ (s : Shared) (H : Hp) (C : Addr) (cl : List (Str × Addr)) (fp : List Addr), PTs (X.blk s H scope (compEnvC scope cl C X.env) fp) ifs tt)
    (he : ∀ (s : Shared) (H : Hp) (C : Addr) (cl : List (Str × Addr)) (fp : List Addr), PE (X.blk s H scope (compEnvC scope cl C X.env) fp) elt te) (hs : ∀ x, foldedSetIterable iter X.env x = pure x := by intro _; rfl) :
    PE X (.ListComp elt [⟨tg, iter, ifs, 0⟩] scope pos) (uLc wi g tt te (own.map (·.2))) := by
  unfold uLc
  exact pe_lc hc hN hi ok hg ht he hs
theorem u_setLc {i : Nat} {y : Str} {py : Pos} {elt tg iter : Expr} {ifs : List Expr} {scope : Scope} {own : List (Str × Nat)} {pos spos : Pos} {wi : TI} {g : TG} {tt : TT} {te : TE} (hc : X.calm = true) (hN : X.N.Nodup) (hy : X.N[i]? = some y) (hyl : X.env.scope.names.lookup y = some .local)
    (hsw : swapsWith (.ListComp elt [⟨tg, iter, ifs, 0⟩] scope pos) (some (.Name y py)) spos.line X.env = pure true) (hi : PI X tg iter wi) (ok : BlkOk X.N X.env.scope scope own)
    (hg : ∀ (s : Shared) (H : Hp) (C : Addr) (cl : List (Str × Addr)) (fp : List Addr), PG (X.blk s H scope (compEnvC scope cl C X.env) fp) tg g) (ht : ∀ (s : Shared) (H : Hp) (C : Addr) (cl : List (Str × Addr)) (fp : List Addr), PTs (X.blk s H scope (compEnvC scope cl C X.env) fp) ifs tt)
    (he : ∀ (s : Shared) (H : Hp) (C : Addr) (cl : List (Str × Addr)) (fp : List Addr), PE (X.blk s H scope (compEnvC scope cl C X.env) fp) elt te) (hs : ∀ x, foldedSetIterable iter X.env x = pure x := by intro _; rfl) :
    PS X (.Assign [.Name y py] (.ListComp elt [⟨tg, iter, ifs, 0⟩] scope pos) spos) (tAsg (uLc wi g tt te (own.map (·.2))) (gName i)) := by
  unfold uLc
  exact ps_setLc hc hN hy hyl hsw hi ok hg ht he hs

/-! ### while -/
def uWhile (c : TT) (tb : TS) : TS := fun D σ H => ∃ W : Nat → L2.St → Hp → Prop, (∃ m, W m σ H) ∧ ∀ m σ H, W m σ H →
  c σ H fun b H1 => Br b (∃ N : L2.St → Hp → Prop, (∀ σ' H', N σ' H' → ∃ m', m' < m ∧ W m' σ' H') ∧ tb { D with nx := N, ct := N, bk := D.nx } σ H1) (D.nx σ H1)
theorem s_while {c : Expr} {body : List Stmt} {tc : TT} {tb : TS} {pos : Pos} (hp : PassesOwn (model X.prog X.w) X.A X.env X.xe) (hc : PT X c tc) (hb : PSs X body tb) : PS X (.While c body [] pos) (uWhile tc tb) := by
  refine ⟨fun pins s σ H D I h => ?_⟩
  obtain ⟨W, ⟨m0, w0⟩, turn⟩ := h
  refine wpAny_While (codeAny_whileLoop (fun n s' => ∃ σ' H', Inv X pins σ' H' s' ∧ W n σ' H') ?_ m0 ⟨σ, H, I, w0⟩)
  rintro n s1 ⟨σ1, H1, I1, w1⟩
  refine wpAny_passesOwn hp (thn (hc.run pins s1 σ1 H1 _ I1 (turn n σ1 H1 w1)) fun b s2 ⟨H2, I2, q2⟩ => ?_)
  cases b with
  | true =>
    obtain ⟨N, hN, q2⟩ := q2.tt rfl
    rw [if_pos rfl]
    refine wpAny_passesOwn hp (thn (hb.run pins s2 σ1 H2 _ I2 q2) fun f s3 q3 => ?_)
    cases f with
    | next =>
      obtain ⟨σ3, H3, I3, n3⟩ := q3
      obtain ⟨m', hm, w3⟩ := hN σ3 H3 n3
      exact ⟨m', hm, σ3, H3, I3, w3⟩
    | cont =>
      obtain ⟨σ3, H3, I3, n3⟩ := q3
      obtain ⟨m', hm, w3⟩ := hN σ3 H3 n3
      exact ⟨m', hm, σ3, H3, I3, w3⟩
    | brk => exact q3
    | ret v => exact q3
  | false =>
    have q2 := q2.ff rfl
    rw [if_neg Bool.false_ne_true]
    exact wpAny_execs_nil ⟨σ1, H2, I2, q2⟩
/-- while, by a word and a measure of the state -/
theorem wh_by {c : TT} {tb : TS} {D : Ends} {σ : L2.St} {H : Hp} (Pv : Nat → L2.St → Hp → Prop) (m : Nat) (h0 : Pv m σ H)
    (hs : ∀ m σ H, Pv m σ H → c σ H fun b H1 => Br b (tb { D with nx := fun σ' H' => ∃ m', m' < m ∧ Pv m' σ' H', ct := fun σ' H' => ∃ m', m' < m ∧ Pv m' σ' H', bk := D.nx } σ H1) (D.nx σ H1))
    (mono : ∀ σ H Q Q', (∀ b H1, Q b H1 → Q' b H1) → c σ H Q → c σ H Q') : uWhile c tb D σ H := by
  refine ⟨Pv, ⟨m, h0⟩, fun m σ H p => mono σ H _ _ (fun b H1 q => ⟨fun e => ⟨_, fun σ' H' h => h, q.tt e⟩, q.ff⟩) (hs m σ H p)⟩
theorem pnever {M : Model} {A : Around} {env : Env} : PassesOwn M A env (fun _ _ => False) := PassesOwn.never
end

theorem _root_.L2.Room.u65 {k : Nat} {A : Around} (r : Room k A) : A.units + 65 < cLine := by have := r.un; omega
/-! ### a def that may be called -/
structure Cal (P : Program) (w : World) (K : PySem.W.Frag) (mg : Str → Option Value) (base : Heap) (CX : CXT) (k : Nat) (x : Str) (ps : List Str) (sp : Sp) : Prop where
  ex : ∃ (f : Addr) (fd : FuncData), FnOk P w K mg base CX k f fd ps sp ∧ mg x = some (.ref f) ∧ PySem.W.keepIn K (.ref f) = true ∧ Binds K fd ps []
theorem Cal.pe {X : Cx} {CX : CXT} {k : Nat} {x : Str} {ps : List Str} {sp : Sp} {E : XK} {e : Expr} {es : List Expr} {t : TA} {p pos : Pos} (c : Cal X.prog X.w X.K X.mg X.base CX k x ps sp) (hr : Room k X.A) (hx : Passes CX X E)
    (ha : PA X (e :: es) t) (hg : Gl X x := by rfl) (hdb : (x == ("__debug__" : Str)) = false := by decide) (he : starEach (e :: es) X.env = (false, eval e X.env) :: starEach es X.env := by rfl) (hpl : (backTo pos (starEach es X.env)).any (·.1) = false := by rfl) :
    PE X (.Call (.Name x p) (e :: es) [] pos) (tCall sp [] E t) := by
  obtain ⟨f, fd, F, m, kp, b⟩ := c.ex
  exact pe_call F hr hg m kp b .nil hx ha hdb he hpl
theorem Cal.pe0 {X : Cx} {CX : CXT} {k : Nat} {x : Str} {ps : List Str} {sp : Sp} {E : XK} {p pos : Pos} (c : Cal X.prog X.w X.K X.mg X.base CX k x ps sp) (hr : Room k X.A) (hx : Passes CX X E)
    (hg : Gl X x := by rfl) (hdb : (x == ("__debug__" : Str)) = false := by decide) : PE X (.Call (.Name x p) [] [] pos) (tCall sp [] E tNil) := by
  obtain ⟨f, fd, F, m, kp, b⟩ := c.ex
  exact pe_call0 F hr hg m kp b .nil hx hdb
end U

/-! PegD: data of any depth, rows. -/
namespace Peg
open PySem PySem.Spec PyProof.Rows L2 U
section
variable {K : PySem.W.Frag} {H H' : Hp}
theorem same_rd {a : Addr} {u : HO} (e : Same H H') (h : Rd H a u) : Rd H' a u := by
  rcases h with h | ⟨o, h⟩
  · exact .inl (e _ _ h)
  · exact .inr ⟨o, e _ _ h⟩
theorem same_l {a : Addr} {xs : List V} (e : Same H H') (h : SqL K H a xs) : SqL K H' a xs := e.seq h
theorem same_t {a : Addr} {xs : List V} (e : Same H H') (h : SqT K H a xs) : SqT K H' a xs := by
  rcases h with h | h
  · exact .inl (same_rd e h)
  · exact .inr h
theorem same_new {p : Addr} {o : HO} (h : H p = none) : Same H (upd H p o) := fun a u e => by
  rw [upd_ne (ne_of_none e h)]
  exact e
theorem same_chd {H1 : Hp} {p : Addr} (e : Same H H1) (c : Chd p H1 H') (h : H p = none) : Same H H' := fun a u ha => c a u (ne_of_none ha h) (e a u ha)
theorem chd_trans {H1 : Hp} {p : Addr} (a : Chd p H H1) (b : Chd p H1 H') : Chd p H H' := fun c o n h => b c o n (a c o n h)
theorem chd_same {H1 : Hp} {p : Addr} (a : Chd p H H1) (b : Same H1 H') : Chd p H H' := fun c o n h => b c o (a c o n h)
theorem same_chd2 {H1 : Hp} {p : Addr} (a : Same H H1) (b : Chd p H1 H') : Chd p H H' := fun c o n h => b c o n (a c o h)
/-- an object that H does not know may change -/
theorem same_mut {p : Addr} {o : HO} (e : Same H H') (h : H p = none) : Same H (upd H' p o) := fun a u ha => by
  rw [upd_ne (ne_of_none ha h)]
  exact e a u ha
mutual
theorem dp_mono (e : Same H H') : ∀ {d : PyData} {v : V}, Dp K H v d → Dp K H' v d
  | _, _, .non => .non
  | _, _, .bl b => .bl b
  | _, _, .int i => .int i
  | _, _, .str x => .str x
  | _, _, .lst h a => .lst (same_l e h) (dpAll_mono e a)
  | _, _, .tup h a => .tup (same_t e h) (dpAll_mono e a)
theorem dpAll_mono (e : Same H H') : ∀ {ds : List PyData} {vs : List V}, DpAll K H vs ds → DpAll K H' vs ds
  | _, _, .nil => .nil
  | _, _, .cons a b => .cons (dp_mono e a) (dpAll_mono e b)
end
theorem dp_lst {v : V} {ds : List PyData} (h : Dp K H v (.list ds)) : ∃ a xs, v = .ref a ∧ SqL K H a xs ∧ DpAll K H xs ds := by
  cases h with
  | lst h a => exact ⟨_, _, rfl, h, a⟩
theorem dp_tup {v : V} {ds : List PyData} (h : Dp K H v (.tuple ds)) : ∃ a xs, v = .ref a ∧ SqT K H a xs ∧ DpAll K H xs ds := by
  cases h with
  | tup h a => exact ⟨_, _, rfl, h, a⟩
theorem dp_int {v : V} {i : Int} (h : Dp K H v (.int i)) : v = .int i := by cases h; rfl
theorem dp_str {v : V} {z : Str} (h : Dp K H v (.str z)) : v = .str z := by cases h; rfl
theorem dp_bl {v : V} {b : Bool} (h : Dp K H v (.bool b)) : v = .bl b := by cases h; rfl
theorem dpAll_nil {vs : List V} (h : DpAll K H vs []) : vs = [] := by cases h; rfl
theorem dpAll_cons {vs : List V} {d : PyData} {ds : List PyData} (h : DpAll K H vs (d :: ds)) : ∃ v r, vs = v :: r ∧ Dp K H v d ∧ DpAll K H r ds := by
  cases h with
  | cons a b => exact ⟨_, _, rfl, a, b⟩
theorem dpAll_length : ∀ {ds : List PyData} {vs : List V}, DpAll K H vs ds → vs.length = ds.length
  | _, _, .nil => rfl
  | _, _, .cons a b => by rw [List.length_cons, List.length_cons, dpAll_length b]
theorem dpAll_get : ∀ {ds : List PyData} {vs : List V} {i : Nat} {v : V}, DpAll K H vs ds → vs[i]? = some v → ∃ d, ds[i]? = some d ∧ Dp K H v d
  | _, _, _, _, .nil, e => by simp at e
  | _, _, 0, _, .cons a _, e => by
    have e := Option.some.inj e
    subst e
    exact ⟨_, rfl, a⟩
  | _, _, i + 1, v, .cons _ b, e => by
    obtain ⟨d, h1, h2⟩ := dpAll_get (i := i) (v := v) b (by simpa using e)
    exact ⟨d, by simpa using h1, h2⟩
theorem dpAll_get2 : ∀ {ds : List PyData} {vs : List V} {i : Nat} {d : PyData}, DpAll K H vs ds → ds[i]? = some d → ∃ v, vs[i]? = some v ∧ Dp K H v d
  | _, _, _, _, .nil, e => by simp at e
  | _, _, 0, _, .cons a _, e => by
    have e := Option.some.inj e
    subst e
    exact ⟨_, rfl, a⟩
  | _, _, i + 1, v, .cons _ b, e => by
    obtain ⟨d, h1, h2⟩ := dpAll_get2 (i := i) (d := v) b (by simpa using e)
    exact ⟨d, by simpa using h1, h2⟩
theorem dpAll_snoc : ∀ {ds : List PyData} {vs : List V} {v : V} {d : PyData}, DpAll K H vs ds → Dp K H v d → DpAll K H (vs ++ [v]) (ds ++ [d])
  | _, _, _, _, .nil, e => .cons e .nil
  | _, _, _, _, .cons a b, e => .cons a (dpAll_snoc b e)
theorem dpAll_append : ∀ {ds es : List PyData} {vs ws : List V}, DpAll K H vs ds → DpAll K H ws es → DpAll K H (vs ++ ws) (ds ++ es)
  | _, _, _, _, .nil, e => e
  | _, _, _, _, .cons a b, e => .cons a (dpAll_append b e)
theorem dpAll_take : ∀ {ds : List PyData} {vs : List V} (n : Nat), DpAll K H vs ds → DpAll K H (vs.take n) (ds.take n)
  | _, _, 0, _ => .nil
  | _, _, _ + 1, .nil => .nil
  | _, _, n + 1, .cons a b => .cons a (dpAll_take n b)
theorem dpAll_drop : ∀ {ds : List PyData} {vs : List V} (n : Nat), DpAll K H vs ds → DpAll K H (vs.drop n) (ds.drop n)
  | _, _, 0, h => h
  | _, _, _ + 1, .nil => .nil
  | _, _, n + 1, .cons a b => dpAll_drop n b
theorem dpAll_reverse : ∀ {ds : List PyData} {vs : List V}, DpAll K H vs ds → DpAll K H vs.reverse ds.reverse
  | _, _, .nil => .nil
  | _, _, .cons a b => by
    rw [List.reverse_cons, List.reverse_cons]
    exact dpAll_snoc (dpAll_reverse b) a
theorem dpAll_set : ∀ {ds : List PyData} {vs : List V} (n : Nat) {v : V} {d : PyData}, DpAll K H vs ds → Dp K H v d → DpAll K H (vs.set n v) (ds.set n d)
  | _, _, _, _, _, .nil, _ => .nil
  | _, _, 0, _, _, .cons a b, e => .cons e b
  | _, _, n + 1, _, _, .cons a b, e => .cons a (dpAll_set n b e)
end
/-- an item of a list, of a tuple, by a place that is not negative -/
theorem at_nat {α : Type} {xs : List α} {j : Nat} {v : α} {z : Int} (e : z = (j : Int)) (h : xs[j]? = some v) : atI xs z = some v := by
  rw [e]
  exact atI_nat h

theorem at_ex {α : Type} {xs : List α} {i : Int} (h0 : 0 ≤ i) (h : i < xs.length) : ∃ c, atI xs i = some c := by
  have e : xs[i.toNat]? = some (xs[i.toNat]'(by omega)) := List.getElem?_eq_getElem (by omega)
  exact ⟨_, at_nat (by omega) e⟩
theorem sz {n : Nat} (h : n ≤ 100000) : n ≤ sizeLine := Nat.le_trans h (by decide)
theorem szl {n : Nat} (h : n < 100000) : n < sizeLine := Nat.lt_of_lt_of_le h (by decide)

theorem szr {n : Nat} (h : Nat.ble n 100000 = true) : n ≤ sizeLine := sz (Nat.le_of_ble_eq_true h)

/-! ### tuples stay, whatever else is changed -/
def Tups (H H' : Hp) : Prop := ∀ b xs, Rd H b (.tup xs) → Rd H' b (.tup xs)
theorem Tups.refl (H : Hp) : Tups H H := fun _ _ h => h
theorem Tups.trans {H H1 H2 : Hp} (a : Tups H H1) (b : Tups H1 H2) : Tups H H2 := fun c xs h => b c xs (a c xs h)
theorem tups_of {H H' : Hp} (e : Same H H') : Tups H H' := fun b xs h => same_rd e h
def Plain (u : HO) : Prop := match u with
  | .tup _ => False
  | .frz _ _ => False
  | _ => True
theorem Tups.mut {H H' : Hp} {p : Addr} {u o : HO} (a : Tups H H') (h : H' p = some u) (k : Plain u) : Tups H (upd H' p o) := fun b xs q => by
  have q := a b xs q
  have e : b ≠ p := fun e => by
    subst e
    rcases q with q | ⟨o, q⟩
    · rw [h] at q; cases q; exact k
    · rw [h] at q; cases q; exact k
  rcases q with q | ⟨o, q⟩
  · exact .inl (by rw [upd_ne e]; exact q)
  · exact .inr ⟨o, by rw [upd_ne e]; exact q⟩
theorem tups_chd {H H' : Hp} {p : Addr} {u : HO} (c : Chd p H H') (h : H p = some u) (k : Plain u) : Tups H H' := fun b xs q => by
  have e : b ≠ p := fun e => by
    subst e
    rcases q with q | ⟨o, q⟩
    · rw [h] at q; cases q; exact k
    · rw [h] at q; cases q; exact k
  rcases q with q | ⟨o, q⟩
  · exact .inl (c _ _ e q)
  · exact .inr ⟨o, c _ _ e q⟩
theorem tups_t {K : PySem.W.Frag} {H H' : Hp} {a : Addr} {xs : List V} (e : Tups H H') (h : SqT K H a xs) : SqT K H' a xs := by
  rcases h with h | h
  · exact .inl (e _ _ h)
  · exact .inr h

/-! ### what kind a thing is -/
inductive Knd (K : PySem.W.Frag) (H : Hp) : V → String → Prop where
  | non : Knd K H .non "NoneType"
  | bl (b : Bool) : Knd K H (.bl b) "bool"
  | int (i : Int) : Knd K H (.int i) "int"
  | str (z : Str) (h : z.length ≤ 100000) : Knd K H (.str z) "str"
  | lst {a : Addr} {xs : List V} (h : SqL K H a xs) : Knd K H (.ref a) "list"
  | tup {a : Addr} {xs : List V} (h : SqT K H a xs) : Knd K H (.ref a) "tuple"
  | dict {a : Addr} {kvs : List (Key × V)} (h : H a = some (.dK kvs)) : Knd K H (.ref a) "dict"
theorem ty_lst {K : PySem.W.Frag} {H : Hp} {a : Addr} {xs : List V} (h : SqL K H a xs) : TyX K H (.ref a) (.type "list") := by
  rcases h with (h | ⟨o, h⟩) | ⟨o, its, n, hk, hc, _⟩
  · exact .base (.lst h)
  · exact .base (.frz h)
  · exact .kList hk hc
theorem ty_tup {K : PySem.W.Frag} {H : Hp} {a : Addr} {xs : List V} (h : SqT K H a xs) : TyX K H (.ref a) (.type "tuple") := by
  rcases h with (h | ⟨o, h⟩) | ⟨o, its, n, hk, hc, _⟩
  · exact .base (.tup h)
  · exact .fTuple h
  · exact .kTuple hk hc
theorem Knd.ty {K : PySem.W.Frag} {H : Hp} {v : V} {n : String} (k : Knd K H v n) : TyX K H v (.type n) := by
  cases k with
  | non => exact .base .non
  | bl b => exact .base (.bl b)
  | int i => exact .base (.int i)
  | str z _ => exact .base (.str z)
  | lst h => exact ty_lst h
  | tup h => exact ty_tup h
  | dict h => exact .base (.dK h)
theorem Knd.mono {K : PySem.W.Frag} {H H' : Hp} {v : V} {n : String} (e : Same H H') (k : Knd K H v n) : Knd K H' v n := by
  cases k with
  | non => exact .non
  | bl b => exact .bl b
  | int i => exact .int i
  | str z h => exact .str z h
  | lst h => exact .lst (same_l e h)
  | tup h => exact .tup (same_t e h)
  | dict h => exact .dict (e _ _ h)
theorem Knd.str_inv {K : PySem.W.Frag} {H : Hp} {v : V} {n : String} (k : Knd K H v n) (e : n = "str") : ∃ z, v = .str z ∧ z.length ≤ 100000 := by
  cases k <;> first | exact ⟨_, rfl, by assumption⟩ | exact absurd e (by decide)
theorem Knd.isStr {K : PySem.W.Frag} {H : Hp} {v : V} {n : String} (k : Knd K H v n) : kitB n "str" = some (n == "str") := by
  cases k <;> decide +kernel
theorem Knd.isTup {K : PySem.W.Frag} {H : Hp} {v : V} {n : String} (k : Knd K H v n) : kitB n "tuple" = some (n == "tuple") := by
  cases k <;> decide +kernel
theorem Knd.isList {K : PySem.W.Frag} {H : Hp} {v : V} {n : String} (k : Knd K H v n) : kitB n "list" = some (n == "list") := by
  cases k <;> decide +kernel
theorem Knd.isBool {K : PySem.W.Frag} {H : Hp} {v : V} {n : String} (k : Knd K H v n) : kitB n "bool" = some (n == "bool") := by
  cases k <;> decide +kernel
theorem Knd.isInt {K : PySem.W.Frag} {H : Hp} {v : V} {n : String} (k : Knd K H v n) : kitB n "int" = some (n == "int" || n == "bool") := by
  cases k <;> decide +kernel

/-! ### a walk over a text -/
theorem for_str {x : Str} {g : TG} {tb : TS} {D : Ends} {σ : L2.St} {H : Hp} (Pv : Nat → L2.St → Hp → Prop) (h0 : Pv 0 σ H)
    (hs : ∀ (i c : Nat) (σ : L2.St) (H : Hp), x.cps.toList[i]? = some c → Pv i σ H → g (.str ⟨#[c]⟩) σ H fun σ2 H2 => tb { D with nx := Pv (i + 1), ct := Pv (i + 1), bk := D.nx } σ2 H2) (hd : ∀ σ H, Pv x.cps.toList.length σ H → D.nx σ H) :
    ∃ W : Nat → Nat → L2.St → Hp → Prop, (∃ m, W 0 m σ H) ∧ ∀ i m σ H, W i m σ H →
      ((Its x).stop i H ∧ D.nx σ H) ∨ ((Its x).go i H ∧ ∃ N : L2.St → Hp → Prop, (∀ σ' H', N σ' H' → ∃ m', m' < m ∧ W (i + 1) m' σ' H') ∧ ∀ y H', (Its x).yld i H y H' → g y σ H' fun σ2 H2 => tb { D with nx := N, ct := N, bk := D.nx } σ2 H2) := by
  have hsz : x.cps.toList.length = x.cps.size := by simp
  refine ⟨fun i m σ H => m = x.cps.size - i ∧ i ≤ x.cps.size ∧ Pv i σ H, ⟨x.cps.size, by simp, Nat.zero_le _, h0⟩, ?_⟩
  rintro i m σ H ⟨rfl, hi, p⟩
  by_cases hlt : i < x.cps.size
  · refine .inr ⟨hlt, Pv (i + 1), fun σ' H' p' => ⟨x.cps.size - (i + 1), by omega, rfl, hlt, p'⟩, fun y H' q => ?_⟩
    obtain ⟨e, c, hc, ey⟩ := q
    subst e ey
    exact hs i c σ _ (by rw [Array.getElem?_toList]; exact hc) p
  · have e : i = x.cps.size := by omega
    subst e
    exact .inl ⟨Nat.le_refl _, hd σ H (by rw [hsz]; exact p)⟩

/-! ### small letters -/
abbrev az : Str := "abcdefghijklmnopqrstuvwxyz"
theorem az_codes : az.cps.toList = (List.range 26).map (· + 97) := by decide +kernel
theorem az_len : az.cps.toList.length = 26 := by rw [az_codes]; rfl
theorem az_sz : az.length ≤ sizeLine := by
  have e : az.length = 26 := by rw [← az_len]; simp [Str.length]
  rw [e]; decide
theorem az_at {i : Int} (h0 : 0 ≤ i) (h : i < 26) : atI az.cps.toList i = some (i.toNat + 97) := by
  refine at_nat (j := i.toNat) (by omega) ?_
  rw [az_codes, List.getElem?_map, List.getElem?_range (by omega)]
  rfl
theorem az_mem {c : Nat} : c ∈ az.cps.toList ↔ 97 ≤ c ∧ c ≤ 122 := by
  rw [az_codes, List.mem_map]
  constructor
  · rintro ⟨a, h, rfl⟩
    have := List.mem_range.mp h
    omega
  · rintro ⟨h1, h2⟩
    exact ⟨c - 97, List.mem_range.mpr (by omega), by omega⟩
/-- a text of n small letters -/
structure Az (z : Str) (n : Nat) : Prop where
  all : ∀ c ∈ z.cps.toList, 97 ≤ c ∧ c ≤ 122
  len : z.length = n
theorem str_len (z : Str) : z.length = z.cps.toList.length := by simp [Str.length]
theorem str_app_len (a b : Str) : (a ++ b).length = a.length + b.length := Str.length_append a b
theorem str_app_codes (a b : Str) : (a ++ b).cps.toList = a.cps.toList ++ b.cps.toList := by
  show (a.cps ++ b.cps).toList = _
  simp
theorem Az.one {c : Nat} (h : 97 ≤ c ∧ c ≤ 122) : Az ⟨#[c]⟩ 1 where
  all := fun d hd => by
    have e : d = c := by simpa using hd
    rw [e]
    exact h
  len := rfl
theorem Az.app {a b : Str} {n m : Nat} (h : Az a n) (k : Az b m) : Az (a ++ b) (n + m) where
  all := fun c hc => by
    rw [str_app_codes] at hc
    rcases List.mem_append.mp hc with q | q
    · exact h.all c q
    · exact k.all c q
  len := by rw [str_app_len, h.len, k.len]
theorem Az.nil : Az "" 0 where
  all := fun c hc => by
    have e : ("" : Str).cps.toList = [] := by decide +kernel
    rw [e] at hc
    cases hc
  len := by decide +kernel
theorem Az.ok {z : Str} {n : Nat} (h : Az z n) : PyData.strOk z = true := by
  unfold PyData.strOk
  rw [Array.all_eq_true']
  intro c hc
  have := h.all c (Array.mem_toList_iff.mpr hc)
  exact decide_eq_true (by omega)

theorem cutV_map {α : Type} (f : α → V) (ns : List α) (lo hi : Option Int) : ∃ ms : List α, cutV (ns.map f) lo hi = ms.map f ∧ ms.length ≤ ns.length := by
  refine ⟨(ns.drop (HT.sIx (ns.map f).length 0 lo)).take (HT.sIx (ns.map f).length (ns.map f).length hi - HT.sIx (ns.map f).length 0 lo), ?_, ?_⟩
  · unfold cutV
    rw [List.map_take, List.map_drop]
  · rw [List.length_take, List.length_drop]
    omega
theorem cut_dp {α : Type} {K : PySem.W.Frag} {H : Hp} (f : α → PyData) {ns : List α} {xs : List V} (h : DpAll K H xs (ns.map f)) (lo hi : Option Int) : ∃ ms : List α, DpAll K H (cutV xs lo hi) (ms.map f) ∧ ∀ m ∈ ms, m ∈ ns := by
  unfold cutV
  generalize HT.sIx xs.length 0 lo = d
  generalize HT.sIx xs.length xs.length hi - d = e
  refine ⟨(ns.drop d).take e, ?_, fun m hm => List.mem_of_mem_drop (List.mem_of_mem_take hm)⟩
  rw [List.map_take, List.map_drop]
  exact dpAll_take _ (dpAll_drop _ h)
/-! ### comprehensions over a list -/
section
variable {K : PySem.W.Frag} {H : Hp}
/-- [e for x in xs], each e a value that leaves what stood -/
theorem lc_map {a : Addr} {xs : List V} {tl te : TE} {j : Nat} {σ : L2.St} {Q : VK} (f : Nat → V) (hl : SqL K H a xs) (htl : ∀ R, R (.ref a) H → tl σ H R) (hz : xs.length < 100000) (hw : ∀ x, wipe ((wipe σ [j]).set j (some x)) [j] = wipe σ [j])
    (he : ∀ (i : Nat) (x : V) (H1 : Hp) (R : VK), xs[i]? = some x → Same H H1 → (∀ H2, Same H1 H2 → R (f i) H2) → te ((wipe σ [j]).set j (some x)) H1 R)
    (q : ∀ (p : Addr) (H2 : Hp), H p = none → Same H H2 → H2 p = some (.lst ((List.range xs.length).map f)) → Q (.ref p) H2) : uLc (iList K tl) (gName j) tYes te [j] σ H Q := by
  refine uLc_of (htl _ ⟨a, rfl, ⟨xs, hl⟩, fun D hD => lc_list (K := K) (a := a) (xs := xs) (fun i H' => Same H H' ∧ H' D = some (.lst ((List.range i).map f))) ⟨same_new hD, upd_same⟩ (fun i H' _ h => same_l h.1 hl) ?_ ?_⟩)
  · rintro i x H' e ⟨s, hd⟩
    have hi : i < xs.length := (List.getElem?_eq_some_iff.mp e).1
    refine ⟨hw x, ?_⟩
    unfold tYes
    dsimp only
    rw [if_pos rfl]
    refine he i x H' _ e s fun H2 s2 => ⟨_, s2 _ _ hd, szl (by simp; omega), same_mut (s.trans s2) hD, ?_⟩
    rw [upd_same, List.range_succ, List.map_append]
    rfl
  · rintro H' ⟨s, hd⟩
    exact q D H' hD s hd
end

/-! ### rows -/
structure Row where
  n : Int
  one : Str
  other : Str
  rise : Int
deriving DecidableEq
def rowV (r : Row) : List V := [.int r.n, .str r.one, .str r.other, .int r.rise]
def rowD (r : Row) : PyData := .tuple [.int r.n, .str r.one, .str r.other, .int r.rise]
def rowsD (rows : List Row) : PyData := .list (rows.map rowD)
section
variable {K : PySem.W.Frag} {H H' : Hp}
theorem row_at {v : V} {r : Row} (h : Dp K H v (rowD r)) : ∃ a, v = .ref a ∧ SqT K H a (rowV r) := by
  obtain ⟨a, xs, rfl, h, al⟩ := dp_tup h
  obtain ⟨_, _, rfl, h1, al⟩ := dpAll_cons al
  obtain ⟨_, _, rfl, h2, al⟩ := dpAll_cons al
  obtain ⟨_, _, rfl, h3, al⟩ := dpAll_cons al
  obtain ⟨_, _, rfl, h4, al⟩ := dpAll_cons al
  obtain rfl := dpAll_nil al
  obtain rfl := dp_int h1
  obtain rfl := dp_str h2
  obtain rfl := dp_str h3
  obtain rfl := dp_int h4
  exact ⟨a, rfl, h⟩
theorem row_mk {a : Addr} {r : Row} (h : SqT K H a (rowV r)) : Dp K H (.ref a) (rowD r) := .tup h (.cons (.int _) (.cons (.str _) (.cons (.str _) (.cons (.int _) .nil))))
theorem rows_at {v : V} {rows : List Row} (h : Dp K H v (rowsD rows)) : ∃ a xs, v = .ref a ∧ SqL K H a xs ∧ xs.length = rows.length ∧ (∀ (i : Nat) x, xs[i]? = some x → ∃ r t, rows[i]? = some r ∧ x = .ref t ∧ SqT K H t (rowV r)) := by
  obtain ⟨a, xs, rfl, h, al⟩ := dp_lst h
  refine ⟨a, xs, rfl, h, by rw [dpAll_length al, List.length_map], fun i x e => ?_⟩
  obtain ⟨d, hd, h1⟩ := dpAll_get al e
  rw [List.getElem?_map] at hd
  cases er : rows[i]? with
  | none => rw [er] at hd; cases hd
  | some r =>
    rw [er] at hd
    have e : rowD r = d := Option.some.inj hd
    subst e
    obtain ⟨t, rfl, h2⟩ := row_at h1
    exact ⟨r, t, rfl, rfl, h2⟩
theorem row_tups {v : V} {r : Row} (e : Tups H H') (h : Dp K H v (rowD r)) : Dp K H' v (rowD r) := by
  obtain ⟨a, rfl, h2⟩ := row_at h
  exact row_mk (tups_t e h2)
theorem prows_tups (e : Tups H H') : ∀ {rows : List Row} {xs : List V}, DpAll K H xs (rows.map rowD) → DpAll K H' xs (rows.map rowD)
  | [], _, .nil => .nil
  | r :: rows, _, .cons a b => .cons (row_tups e a) (prows_tups e b)
theorem rowD_eqv (r s : Row) : PyData.eqv (rowD r) (rowD s) = decide (r = s) := by
  obtain ⟨a, b, c, d⟩ := r
  obtain ⟨a', b', c', d'⟩ := s
  have e : PyData.eqv (rowD ⟨a, b, c, d⟩) (rowD ⟨a', b', c', d'⟩) = ((a == a') && ((b == b') && ((c == c') && ((d == d') && true)))) := by simp only [rowD, PyData.eqv, PyData.eqvAll]
  rw [e]
  by_cases h : (⟨a, b, c, d⟩ : Row) = ⟨a', b', c', d'⟩
  · cases h; simp
  · rw [decide_eq_false h]
    by_cases h1 : a = a'
    · by_cases h2 : b = b'
      · by_cases h3 : c = c'
        · by_cases h4 : d = d'
          · exact absurd (by rw [h1, h2, h3, h4]) h
          · simp [h4]
        · simp [h3]
      · simp [h2]
    · simp [h1]
theorem rowsD_eqv : ∀ (a b : List Row), PyData.eqvAll (a.map rowD) (b.map rowD) = decide (a = b)
  | [], [] => by simp [PyData.eqvAll]
  | [], _ :: _ => by simp [PyData.eqvAll]
  | _ :: _, [] => by simp [PyData.eqvAll]
  | r :: a, s :: b => by
    rw [List.map_cons, List.map_cons, PyData.eqvAll, rowD_eqv, rowsD_eqv a b]
    by_cases h1 : r = s
    · by_cases h2 : a = b
      · simp [h1, h2]
      · simp [h1, h2]
    · simp [h1]
/-- a row's texts are texts -/
def Row.Ok (r : Row) : Prop := PyData.strOk r.one = true ∧ PyData.strOk r.other = true
theorem rowD_lay {r : Row} (h : r.Ok) : (rowD r).canLay0 = true := by simp [rowD, PyData.canLay0, PyData.canLayAll0, h.1, h.2]
theorem rowD_depth (r : Row) : (rowD r).depth = 1 := by simp [rowD, PyData.depth, PyData.depthAll]
theorem rowD_shaped {r : Row} (h : r.Ok) : SeqAt.shaped (rowD r) = true := by
  show ((rowD r).canLay0 && decide ((rowD r).depth ≤ 64)) = true
  rw [Bool.and_eq_true, rowD_depth]
  exact ⟨rowD_lay h, by decide⟩
theorem rowsD_lay : ∀ {rows : List Row}, (∀ r ∈ rows, r.Ok) → PyData.canLayAll0 (rows.map rowD) = true
  | [], _ => by simp [PyData.canLayAll0]
  | r :: rows, h => by simp [PyData.canLayAll0, rowD_lay (h r (List.mem_cons_self ..)), rowsD_lay fun s hs => h s (List.mem_cons_of_mem _ hs)]
theorem rowsD_depth : ∀ rows : List Row, PyData.depthAll (rows.map rowD) ≤ 1
  | [] => by simp [PyData.depthAll]
  | r :: rows => by
    have h1 := rowsD_depth rows
    have h2 := rowD_depth r
    simp only [List.map_cons, PyData.depthAll]
    omega
theorem rowsD_shaped {rows : List Row} (h : ∀ r ∈ rows, r.Ok) : SeqAt.shaped (rowsD rows) = true := by
  have h1 := rowsD_depth rows
  have h2 : PyData.depth (rowsD rows) ≤ 64 := by
    simp only [rowsD, PyData.depth]
    omega
  show (PyData.canLay0 (rowsD rows) && decide (PyData.depth (rowsD rows) ≤ 64)) = true
  rw [Bool.and_eq_true]
  exact ⟨by simp only [rowsD, PyData.canLay0]; exact rowsD_lay h, decide_eq_true h2⟩
end
end Peg

namespace Peg
open PySem PySem.Spec PyProof.Rows L2 U
/-! ### is_whole -/
abbrev N_is_whole : List Str := ["thing"]
/-- a whole number -/
def wholeB : V → Bool
  | .int _ => true
  | _ => false
theorem Knd.whole {K : PySem.W.Frag} {H : Hp} {v : V} {n : String} (k : Knd K H v n) : ((n == "int" || n == "bool") && !(n == "bool")) = wholeB v := by
  cases k <;> simp [wholeB]
def sp_is_whole (K : PySem.W.Frag) : Sp := fun vs H Q _ => ∃ (v : V) (n : String), vs = [v] ∧ Knd K H v n ∧ Q (.bl (wholeB v)) H
def t_is_whole (K : PySem.W.Frag) : TS :=
  (tRet (uAndV (tCB (cIsi K) (tCons (uVar 0) (tCons (tC (.ty "int")) tNil))) (uNotV (tCB (cIsi K) (tCons (uVar 0) (tCons (tC (.ty "bool")) tNil))))))
theorem rd_is_whole {K : PySem.W.Frag} {vs : List V} {H : Hp} {Q : VK} {E : XK} (h : sp_is_whole K vs H Q E) : t_is_whole K { nx := fun _ H' => Q .non H', rt := Q } (start N_is_whole vs) H := by
  obtain ⟨v, n, rfl, k, q⟩ := h
  rw [← k.whole] at q
  refine ⟨_, _, k.ty, k.isInt, ⟨fun e => ⟨_, _, k.ty, k.isBool, ?_⟩, fun e => ?_⟩⟩
  · rw [e, Bool.true_and] at q
    exact q
  · rw [e, Bool.false_and] at q
    exact q
/-! ### is_peg -/
abbrev N_is_peg : List Str := ["thing", "letter"]
/-- small letters alone -/
def azB (z : Str) : Bool := z.cps.toList.all fun c => decide (c ∈ az.cps.toList)
def pegS (z : Str) : Bool := decide (1 ≤ z.length) && decide (z.length ≤ 8) && azB z
def pegB : V → Bool
  | .str z => pegS z
  | _ => false
theorem pegB_not {K : PySem.W.Frag} {H : Hp} {v : V} {n : String} (k : Knd K H v n) (e : (n == "str") = false) : pegB v = false := by
  cases k <;> first | rfl | exact absurd e (by decide)
def sp_is_peg (K : PySem.W.Frag) : Sp := fun vs H Q _ => ∃ (v : V) (n : String), vs = [v] ∧ Knd K H v n ∧ Q (.bl (pegB v)) H
def lp1_is_peg (K : PySem.W.Frag) : TS :=
  (tFor (iStr (uVar 0)) (gName 1)
  (uIfS (uT (tOp (cSign false) (uVar 1) (tC (.str "abcdefghijklmnopqrstuvwxyz"))))
  (tRet (tC (.bl false)))
  tNext))
def t_is_peg (K : PySem.W.Frag) : TS :=
  (tSeq (uIfS (uOr (uNot (uT (tCB (cIsi K) (tCons (uVar 0) (tCons (tC (.ty "str")) tNil))))) (uOr (uT (tOp kLt (tCB cLenS (tCons (uVar 0) tNil)) (tC (.int 1)))) (uT (tOp kGt (tCB cLenS (tCons (uVar 0) tNil)) (tC (.int 8))))))
  (tRet (tC (.bl false)))
  tNext)
  (tSeq (lp1_is_peg K)
  (tRet (tC (.bl true)))))
theorem rd_is_peg {K : PySem.W.Frag} {vs : List V} {H : Hp} {Q : VK} {E : XK} (h : sp_is_peg K vs H Q E) : t_is_peg K { nx := fun _ H' => Q .non H', rt := Q } (start N_is_peg vs) H := by
  obtain ⟨v, n, rfl, k, q⟩ := h
  refine ⟨_, _, k.ty, k.isStr, ⟨fun e => ?_, fun e => ?_⟩⟩
  · have e : (n == "str") = false := by simpa using e
    rw [pegB_not k e] at q
    exact br_t q
  have e : n = "str" := by simpa using e
  obtain ⟨z, rfl, hz⟩ := k.str_inv e
  have hz' := sz hz
  refine ⟨hz', ⟨fun e => ?_, fun e => ⟨hz', ⟨fun e2 => ?_, fun e2 => ?_⟩⟩⟩⟩
  · have e := of_decide_eq_true e
    have e1 : pegB (.str z) = false := by
      show (decide (1 ≤ z.length) && decide (z.length ≤ 8) && azB z) = false
      rw [decide_eq_false (by omega)]
      rfl
    rw [e1] at q
    exact br_t q
  · have e2 := of_decide_eq_true e2
    have e1 : pegB (.str z) = false := by
      show (decide (1 ≤ z.length) && decide (z.length ≤ 8) && azB z) = false
      rw [decide_eq_false (p := z.length ≤ 8) (by omega), Bool.and_false]
      rfl
    rw [e1] at q
    exact q
  have e := of_decide_eq_false e
  have e2 := of_decide_eq_false e2
  have ep : pegB (.str z) = azB z := by
    show (decide (1 ≤ z.length) && decide (z.length ≤ 8) && azB z) = azB z
    rw [decide_eq_true (by omega), decide_eq_true (by omega)]
    rfl
  rw [ep] at q
  refine ⟨z, rfl, for_str (x := z) (fun i σ H' => H' = H ∧ (∀ c ∈ z.cps.toList.take i, c ∈ az.cps.toList) ∧ ∃ w, σ = [some (.str z), w]) ⟨rfl, (fun c h => by simp at h), _, rfl⟩ ?_ ?_⟩
  · rintro i c σ H' hc ⟨rfl, al, w, rfl⟩
    refine ⟨c, rfl, ⟨fun e => ?_, fun e => ⟨rfl, ?_, some (.str ⟨#[c]⟩), rfl⟩⟩⟩
    · have e : ¬ c ∈ az.cps.toList := by simpa using e
      have e1 : azB z = false := by
        unfold azB
        rw [List.all_eq_false]
        exact ⟨c, List.mem_of_getElem? hc, by simpa using e⟩
      rw [e1] at q
      exact q
    · have e : c ∈ az.cps.toList := by simpa using e
      intro d hd
      rw [List.take_add_one, hc] at hd
      rcases List.mem_append.mp hd with h | h
      · exact al d h
      · have h : d = c := by simpa using h
        rw [h]
        exact e
  · rintro σ H' ⟨rfl, al, w, rfl⟩
    have e1 : azB z = true := by
      unfold azB
      rw [List.all_eq_true]
      intro c hc
      exact decide_eq_true (al c (by rw [List.take_length]; exact hc))
    rw [e1] at q
    exact q
/-! ### is_sighting -/
abbrev N_is_sighting : List Str := ["thing"]
def riseB : V → Bool
  | .int i => decide (-(10 ^ 60) < i ∧ i < 10 ^ 60)
  | _ => false
/-- three things that are a sighting's -/
def sigB : List V → Bool
  | [x, y, z] => pegB x && pegB y && riseB z
  | _ => false
theorem abs_rise (i : Int) : decide ((if i < 0 then -i else i) < 10 ^ 60) = riseB (.int i) := by
  show _ = decide (-(10 ^ 60) < i ∧ i < 10 ^ 60)
  by_cases h : i < 0
  · rw [if_pos h]
    exact decide_eq_decide.mpr ⟨fun q => ⟨by omega, by omega⟩, fun q => by omega⟩
  · rw [if_neg h]
    exact decide_eq_decide.mpr ⟨fun q => ⟨by omega, by omega⟩, fun q => by omega⟩
/-- a thing: of a known kind -/
def Some7 (K : PySem.W.Frag) (H : Hp) (v : V) : Prop := ∃ n, Knd K H v n
def sp_is_sighting (K : PySem.W.Frag) : Sp := fun vs H Q _ => ∃ (v : V), vs = [v] ∧
  ((∃ n, Knd K H v n ∧ n ≠ "tuple" ∧ Q (.bl false) H) ∨ ∃ (a : Addr) (xs : List V), v = .ref a ∧ SqT K H a xs ∧ (∀ x ∈ xs, Some7 K H x) ∧ Q (.bl (sigB xs)) H)
def t_is_sighting (K : PySem.W.Frag) : TS :=
  (tSeq (uIfS (uOr (uNot (uT (tCB (cIsi K) (tCons (uVar 0) (tCons (tC (.ty "tuple")) tNil))))) (uT (tOp kNeI (tCB (cLenQ K) (tCons (uVar 0) tNil)) (tC (.int 3)))))
  (tRet (tC (.bl false)))
  tNext)
  (tSeq (uIfS (uOr (uNot (uT (tCall (sp_is_peg K) [] E0 (tCons (tOp (cIxT K) (uVar 0) (tC (.int 0))) tNil)))) (uNot (uT (tCall (sp_is_peg K) [] E0 (tCons (tOp (cIxT K) (uVar 0) (tC (.int 1))) tNil)))))
  (tRet (tC (.bl false)))
  tNext)
  (tRet (uAndV (tCall (sp_is_whole K) [] E0 (tCons (tOp (cIxT K) (uVar 0) (tC (.int 2))) tNil)) (tOp kLt (tCB cAbs (tCons (tOp (cIxT K) (uVar 0) (tC (.int 2))) tNil)) (tC (.int (10 ^ 60))))))))
theorem rd_is_sighting {K : PySem.W.Frag} {vs : List V} {H : Hp} {Q : VK} {E : XK} (h : sp_is_sighting K vs H Q E) : t_is_sighting K { nx := fun _ H' => Q .non H', rt := Q } (start N_is_sighting vs) H := by
  obtain ⟨v, rfl, q⟩ := h
  rcases q with ⟨n, k, hn, q⟩ | ⟨a, xs, rfl, hx, all, q⟩
  · have e : (n == "tuple") = false := by simpa using hn
    exact ⟨_, _, k.ty, k.isTup, br_tt (by rw [e]; rfl) (br_t q)⟩
  refine ⟨_, _, ty_tup hx, (by decide +kernel : kitB "tuple" "tuple" = some true), br_f ⟨xs, .inr hx, ?_⟩⟩
  match xs, hx, all, q with
  | [], _, _, q => exact br_t q
  | [_], _, _, q => exact br_t q
  | [_, _], _, _, q => exact br_t q
  | a :: b :: c :: d :: r, _, _, q =>
    refine br_tt ?_ q
    have e : ((a :: b :: c :: d :: r).length : Int) ≠ 3 := by simp only [List.length_cons]; omega
    rw [decide_eq_false e]
    rfl
  | [x, y, z], hx, all, q =>
    obtain ⟨nx, kx⟩ := all x (by simp)
    obtain ⟨ny, ky⟩ := all y (by simp)
    obtain ⟨nz, kz⟩ := all z (by simp)
    refine br_f ⟨_, x, hx, rfl, x, nx, rfl, kx, ⟨fun e => ?_, fun e => ⟨_, y, hx, rfl, y, ny, rfl, ky, ⟨fun e2 => ?_, fun e2 => ?_⟩⟩⟩⟩
    · have e : pegB x = false := by simpa using e
      have e1 : sigB [x, y, z] = false := by
        show (pegB x && pegB y && riseB z) = false
        rw [e]
        rfl
      rw [e1] at q
      exact br_t q
    · have e2 : pegB y = false := by simpa using e2
      have e1 : sigB [x, y, z] = false := by
        show (pegB x && pegB y && riseB z) = false
        rw [e2, Bool.and_false]
        rfl
      rw [e1] at q
      exact q
    · have e : pegB x = true := by simpa using e
      have e2 : pegB y = true := by simpa using e2
      have e1 : sigB [x, y, z] = riseB z := by
        show (pegB x && pegB y && riseB z) = riseB z
        rw [e, e2]
        rfl
      rw [e1] at q
      refine ⟨_, z, hx, rfl, z, nz, rfl, kz, ⟨fun e3 => ?_, fun e3 => ?_⟩⟩
      · cases z with
        | int i =>
          refine ⟨_, _, hx, rfl, ?_⟩
          rw [← abs_rise] at q
          exact q
        | _ => exact absurd (show false = true from e3) (by decide)
      · have e4 : riseB z = false := by
          cases z with
          | int i => exact absurd (show true = false from e3) (by decide)
          | _ => rfl
        rw [e4] at q
        exact q
/-! ### turned -/
abbrev N_turned : List Str := ["sighting"]
def sp_turned (K : PySem.W.Frag) : Sp := fun vs H Q _ => ∃ (a : Addr) (x y : Str) (z : Int), vs = [.ref a] ∧ SqT K H a [.str x, .str y, .int z] ∧ New H (.tup [.str y, .str x, .int (0 - z)]) fun p H2 => Q (.ref p) H2
def t_turned (K : PySem.W.Frag) : TS :=
  (tRet (uTup (tCons (tOp (cIxT K) (uVar 0) (tC (.int 1))) (tCons (tOp (cIxT K) (uVar 0) (tC (.int 0))) (tCons (tOp kSub (tC (.int 0)) (tOp (cIxT K) (uVar 0) (tC (.int 2)))) tNil)))))
theorem rd_turned {K : PySem.W.Frag} {vs : List V} {H : Hp} {Q : VK} {E : XK} (h : sp_turned K vs H Q E) : t_turned K { nx := fun _ H' => Q .non H', rt := Q } (start N_turned vs) H := by
  obtain ⟨a, x, y, z, rfl, hx, q⟩ := h
  exact ⟨_, _, hx, rfl, _, _, hx, rfl, _, _, hx, rfl, szr rfl, q⟩
/-! ### _law_text -/
abbrev N__law_text : List Str := ["_law_number", "_law_letters", "_law_odds", "_law_size", "_law_rest", "_law_odd", "_law_signs", "_law_good", "_law_k"]
abbrev odds : Str := " !\"#$&'()*+,-./0123456789:;<=>?@ABCDEFGHIJKLMNOPQRSTUVWXYZ[\\]^_`{|}~\n\t"
theorem odds_len : odds.cps.toList.length = 70 := by decide +kernel
theorem odds_no : odds.cps.toList.all (fun c => !decide (c ∈ az.cps.toList) && decide (c < 0x110000)) = true := by decide +kernel
theorem odds_sz : odds.length ≤ sizeLine := by rw [str_len, odds_len]; exact szr rfl
theorem odd_at {i : Int} (h0 : 0 ≤ i) (h : i < 70) : ∃ c, atI odds.cps.toList i = some c ∧ ¬ c ∈ az.cps.toList ∧ c < 0x110000 := by
  have hl : i.toNat < odds.cps.toList.length := by rw [odds_len]; omega
  have e : odds.cps.toList[i.toNat]? = some (odds.cps.toList[i.toNat]) := List.getElem?_eq_getElem hl
  have a := List.all_eq_true.mp odds_no _ (List.mem_of_getElem? e)
  simp only [Bool.and_eq_true, Bool.not_eq_true', decide_eq_false_iff_not, decide_eq_true_eq] at a
  exact ⟨_, at_nat (by omega) e, a.1, a.2⟩
theorem azB_app (a b : Str) : azB (a ++ b) = (azB a && azB b) := by
  unfold azB
  rw [str_app_codes, List.all_append]
theorem azB_one (c : Nat) : azB ⟨#[c]⟩ = decide (c ∈ az.cps.toList) := by
  unfold azB
  simp
def sp__law_text (K : PySem.W.Frag) : Sp := fun vs H Q _ => ∃ (n : Int), vs = [.int n] ∧ 0 ≤ n ∧ ∀ (z : Str), z.length ≤ 9 → PyData.strOk z = true → New H (.tup [.str z, .bl (pegS z)]) fun p H2 => Q (.ref p) H2
def lp1__law_text (K : PySem.W.Frag) : TS :=
  (tFor (iRng1 (tCons (uVar 3) tNil)) (gName 8)
  (Evl.tCut (uIfS (uT (tOp kEqI (tOp kMod (uVar 4) (tC (.int 27))) (tC (.int 26))))
  (tSeq (tAsg (tOp cAddS (uVar 6) (uVar 5)) (gName 6))
  (tAsg (tC (.bl false)) (gName 7)))
  (tAsg (tOp cAddS (uVar 6) (tOp cIxS (uVar 1) (tOp kMod (uVar 4) (tC (.int 27))))) (gName 6)))
  (tAsg (tOp kDiv (uVar 4) (tC (.int 27))) (gName 4))))
def t__law_text (K : PySem.W.Frag) : TS :=
  (tSeq (tAsg (tC (.str "abcdefghijklmnopqrstuvwxyz")) (gName 1))
  (tSeq (tAsg (tC (.str " !\"#$&'()*+,-./0123456789:;<=>?@ABCDEFGHIJKLMNOPQRSTUVWXYZ[\\]^_`{|}~\n\t")) (gName 2))
  (tSeq (tAsg (tOp kMod (uVar 0) (tC (.int 10))) (gName 3))
  (tSeq (tAsg (tOp kDiv (uVar 0) (tC (.int 10))) (gName 4))
  (tSeq (tAsg (tOp cIxS (uVar 2) (tOp kMod (tOp kDivW (uVar 4) (tOp kPow (tC (.int 27)) (tC (.int 9)))) (tC (.int 70)))) (gName 5))
  (tSeq (tAsg (tC (.str "")) (gName 6))
  (tSeq (tAsg (uAndV (tOp kLt (tC (.int 0)) (uVar 3)) (tOp kLt (uVar 3) (tC (.int 9)))) (gName 7))
  (tSeq (lp1__law_text K)
  (tRet (uTup (tCons (uVar 6) (tCons (uVar 7) tNil))))))))))))
theorem strOk_app {a b : Str} (h : PyData.strOk a = true) (k : PyData.strOk b = true) : PyData.strOk (a ++ b) = true := by
  unfold PyData.strOk at *
  rw [Array.all_eq_true'] at *
  intro c hc
  have hc : c ∈ a.cps ++ b.cps := hc
  rcases Array.mem_append.mp hc with q | q
  · exact h c q
  · exact k c q
theorem strOk_one {c : Nat} (h : c < 0x110000) : PyData.strOk ⟨#[c]⟩ = true := by
  unfold PyData.strOk
  simp [h]
theorem rd__law_text {K : PySem.W.Frag} {vs : List V} {H : Hp} {Q : VK} {E : XK} (h : sp__law_text K vs H Q E) : t__law_text K { nx := fun _ H' => Q .non H', rt := Q } (start N__law_text vs) H := by
  obtain ⟨n, rfl, n0, q⟩ := h
  have r0 : 0 ≤ n / 10 := by omega
  have s0 : 0 ≤ n % 10 := by omega
  have s1 : n % 10 < 10 := by omega
  have e27 : (27 : Int) ^ (9 : Int).toNat = 7625597484987 := by decide
  obtain ⟨c, hc, nc, kc⟩ := odd_at (i := n / 10 / 7625597484987 % 70) (by omega) (by omega)
  refine ⟨by decide, by decide, ⟨by decide, by decide, by decide⟩, ?_, by decide, c, odds_sz, ?_, ?_⟩
  · rw [e27]
    exact ⟨by decide, by decide⟩
  · rw [e27]
    exact hc
  -- what stands in good, ahead of the loop
  have go : ∀ (g : Bool), g = (decide (0 < n % 10) && decide (n % 10 < 9)) → ∀ (D : Ends), (∀ (z : Str) (v1 v2 : Option V), z.length = (n % 10).toNat → PyData.strOk z = true → D.nx [some (.int n), some (.str az), some (.str odds), some (.int (n % 10)), v1, some (.str ⟨#[c]⟩), some (.str z), some (.bl (g && azB z)), v2] H) →
      lp1__law_text K D [some (.int n), some (.str az), some (.str odds), some (.int (n % 10)), some (.int (n / 10)), some (.str ⟨#[c]⟩), some (.str ""), some (.bl g), none] H := fun g hg D nx => by
    refine ⟨n % 10, rfl, by omega, by omega, for_range (lo := 0) (n := (n % 10).toNat) (fun i σ H' => H' = H ∧ ∃ (r : Int) (z : Str) (v : Option V), 0 ≤ r ∧ z.length = i ∧ PyData.strOk z = true ∧ σ = [some (.int n), some (.str az), some (.str odds), some (.int (n % 10)), some (.int r), some (.str ⟨#[c]⟩), some (.str z), some (.bl (g && azB z)), v]) ⟨rfl, n / 10, "", none, r0, by decide +kernel, by decide +kernel, ?_⟩ ?_ ?_⟩
    · have e : azB "" = true := by decide +kernel
      rw [e, Bool.and_true]
    · rintro i σ H' hi ⟨rfl, r, z, v, hr, hz, oz, rfl⟩
      have l1 : ∀ d, (z ++ ⟨#[d]⟩ : Str).length = i + 1 := fun d => by rw [str_app_len, hz]; rfl
      have l2 : ∀ d, z.length + (⟨#[d]⟩ : Str).length ≤ sizeLine := fun d => by
        have e : (⟨#[d]⟩ : Str).length = 1 := rfl
        rw [hz, e]
        exact sz (by omega)
      refine ⟨fun σ' H1 => H1 = H' ∧ ∃ (z' : Str), z'.length = i + 1 ∧ PyData.strOk z' = true ∧ σ' = [some (.int n), some (.str az), some (.str odds), some (.int (n % 10)), some (.int r), some (.str ⟨#[c]⟩), some (.str z'), some (.bl (g && azB z')), some (.int (0 + i))], ?_, ?_⟩
      · refine ⟨by decide, ⟨fun _ => ⟨l2 _, ?_⟩, fun e => ?_⟩⟩
        · refine ⟨rfl, _, l1 c, strOk_app oz (strOk_one kc), ?_⟩
          rw [azB_app, azB_one, decide_eq_false nc, Bool.and_false, Bool.and_false]
          rfl
        · have e := of_decide_eq_false e
          refine ⟨by decide, _, az_sz, az_at (by omega) (by omega), l2 _, ?_⟩
          have m : (r % 27).toNat + 97 ∈ az.cps.toList := az_mem.mpr (by omega)
          refine ⟨rfl, z ++ ⟨#[(r % 27).toNat + 97]⟩, l1 _, strOk_app oz (strOk_one (by omega)), ?_⟩
          rw [azB_app, azB_one, decide_eq_true m, Bool.and_true]
          rfl
      · rintro σ' H1 ⟨rfl, z', hz', oz', rfl⟩
        exact ⟨by decide, rfl, r / 27, z', _, by omega, hz', oz', rfl⟩
    · rintro σ H' ⟨rfl, r, z, v, hr, hz, oz, rfl⟩
      exact nx z _ _ hz oz
  -- the end
  have fin : ∀ (g : Bool), g = (decide (0 < n % 10) && decide (n % 10 < 9)) → ∀ (z : Str) (v1 v2 : Option V), z.length = (n % 10).toNat → PyData.strOk z = true →
      tRet (uTup (tCons (uVar 6) (tCons (uVar 7) tNil))) { nx := fun _ H' => Q .non H', rt := Q } [some (.int n), some (.str az), some (.str odds), some (.int (n % 10)), v1, some (.str ⟨#[c]⟩), some (.str z), some (.bl (g && azB z)), v2] H := fun g hg z v1 v2 hz oz => by
    refine ⟨szr rfl, ?_⟩
    have e : (g && azB z) = pegS z := by
      unfold pegS
      rw [hg, hz]
      congr 1
      congr 1
      · exact decide_eq_decide.mpr ⟨fun _ => by omega, fun _ => by omega⟩
      · exact decide_eq_decide.mpr ⟨fun _ => by omega, fun _ => by omega⟩
    rw [e]
    exact q z (by omega) oz
  refine ⟨fun e => ?_, fun e => ?_⟩
  · exact go _ (by rw [e, Bool.true_and]) _ (fin _ (by rw [e, Bool.true_and]))
  · exact go _ (by rw [e, Bool.false_and]) _ (fin _ (by rw [e, Bool.false_and]))
/-! ### _law_spoiled -/
abbrev N__law_spoiled : List Str := ["_law_one", "_law_other", "_law_rise", "_law_way", "_law_some"]
def sp__law_spoiled (K : PySem.W.Frag) : Sp := fun vs H Q _ => ∃ (x y : Str) (r w : Int), vs = [.str x, .str y, .int r, .int w] ∧ x.length ≤ 100 ∧ y.length ≤ 100 ∧ -(10 ^ 60) < r ∧ r < 10 ^ 60 ∧ 0 ≤ w ∧ w < 11 ∧
  ∀ (v : V) (H' : Hp), Same H H' → ((∃ n, Knd K H' v n ∧ n ≠ "tuple") ∨ ∃ (a : Addr) (xs : List V), v = .ref a ∧ SqT K H' a xs ∧ (∀ x ∈ xs, Some7 K H' x) ∧ sigB xs = false) → Q v H'
def t__law_spoiled (K : PySem.W.Frag) : TS :=
  (tSeq (tAsg (uLst (tCons (uTup (tCons (uVar 0) (tCons (uVar 1) (tCons (tOp kPow (tC (.int 10)) (tC (.int 60))) tNil)))) (tCons (uTup (tCons (uVar 0) (tCons (uVar 1) (tCons (tOp kSub (tC (.int 0)) (tOp kPow (tC (.int 10)) (tC (.int 60)))) tNil)))) (tCons (uTup (tCons (uVar 0) (tCons (uVar 1) (tCons (tOp kGt (uVar 2) (tC (.int 0))) tNil)))) (tCons (uTup (tCons (uVar 0) (tCons (uVar 1) (tCons (tCB cStrI (tCons (uVar 2) tNil)) tNil)))) tNil))))) (gName 4))
  (tSeq (tAsg (tOp cCat (uVar 4) (uLst (tCons (uTup (tCons (uVar 0) (tCons (uVar 1) (tCons (tC .non) tNil)))) (tCons (uLst (tCons (uVar 0) (tCons (uVar 1) (tCons (uVar 2) tNil)))) (tCons (uTup (tCons (uVar 0) (tCons (uVar 1) tNil))) (tCons (uTup (tCons (uVar 0) (tCons (uVar 1) (tCons (uVar 2) (tCons (uVar 2) tNil))))) (tCons (uVar 0) tNil))))))) (gName 4))
  (tSeq (tAsg (tOp cCat (uVar 4) (uLst (tCons (uTup (tCons (tC .non) (tCons (uVar 1) (tCons (uVar 2) tNil)))) (tCons (uTup (tCons (uVar 0) (tCons (uVar 2) (tCons (uVar 2) tNil)))) tNil)))) (gName 4))
  (tRet (tOp (cIxL K) (uVar 4) (uVar 3))))))
theorem log_rise {r : Int} (h1 : -(10 ^ 60) < r) (h2 : r < 10 ^ 60) : r.natAbs.log2 < 1920 := by
  have h : r.natAbs < 2 ^ 200 := by omega
  by_cases h0 : r.natAbs = 0
  · rw [h0]; decide
  · exact Nat.lt_trans ((Nat.log2_lt h0).mpr h) (by decide)
theorem rd__law_spoiled {K : PySem.W.Frag} {vs : List V} {H : Hp} {Q : VK} {E : XK} (h : sp__law_spoiled K vs H Q E) : t__law_spoiled K { nx := fun _ H' => Q .non H', rt := Q } (start N__law_spoiled vs) H := by
  obtain ⟨x, y, r, w, rfl, hx, hy, r1, r2, w0, w1, q⟩ := h
  have p60 : CPow 10 60 := ⟨by decide, by decide, by decide⟩
  refine ⟨p60, szr rfl, fun a1 H1 n1 s1 t1 => ⟨p60, szr rfl, fun a2 H2 n2 s2 t2 => ⟨szr rfl, fun a3 H3 n3 s3 t3 => ⟨log_rise r1 r2, szr rfl, fun a4 H4 n4 s4 t4 => ⟨szr rfl, fun b1 H5 m1 s5 l1 => ?_⟩⟩⟩⟩⟩
  refine ⟨szr rfl, fun a5 H6 n6 s6 t6 => ⟨szr rfl, fun a6 H7 n7 s7 t7 => ⟨szr rfl, fun a7 H8 n8 s8 t8 => ⟨szr rfl, fun a8 H9 n9 s9 t9 => ⟨szr rfl, fun b2 Ha ma sa l2 => ?_⟩⟩⟩⟩⟩
  have s6a := (((s6.trans s7).trans s8).trans s9).trans sa
  refine ⟨_, _, s6a _ _ l1, l2, szr rfl, fun b3 Hb mb sb l3 => ⟨szr rfl, fun a9 Hc nc sc tc => ⟨szr rfl, fun aa Hd nd sd td => ⟨szr rfl, fun b4 He me se l4 => ?_⟩⟩⟩⟩
  have sce := (sc.trans sd).trans se
  refine ⟨_, _, sce _ _ l3, l4, szr rfl, fun b5 Hf mf sf l5 => ?_⟩
  have z9 := (sb.trans sce).trans sf
  have z5 := s6a.trans z9
  have ok : Same H Hf := ((((s1.trans s2).trans s3).trans s4).trans s5).trans z5
  have kx : Some7 K Hf (.str x) := ⟨_, .str _ (by omega)⟩
  have ky : Some7 K Hf (.str y) := ⟨_, .str _ (by omega)⟩
  have kr : Some7 K Hf (.int r) := ⟨_, .int _⟩
  have hlen : (toString r : Str).length ≤ 100000 := Nat.le_trans (int_text_len_1921 (log_rise r1 r2)) (by decide)
  have fin : ∀ (a : Addr) (xs : List V), Hf a = some (.tup xs) → (∀ x ∈ xs, Some7 K Hf x) → sigB xs = false → Q (.ref a) Hf := fun a xs h1 h2 h3 => q _ _ ok (.inr ⟨a, xs, rfl, SqT.of h1, h2, h3⟩)
  have three : ∀ (u : V), Some7 K Hf u → ∀ x' ∈ [.str x, .str y, u], Some7 K Hf x' := fun u hu x' h => by
    rcases List.mem_cons.mp h with rfl | h
    · exact kx
    rcases List.mem_cons.mp h with rfl | h
    · exact ky
    rcases List.mem_cons.mp h with rfl | h
    · exact hu
    · cases h
  have no3 : ∀ u : V, riseB u = false → sigB [.str x, .str y, u] = false := fun u hu => by
    show (_ && _ && riseB u) = false
    rw [hu, Bool.and_false]
  have hw : w = 0 ∨ w = 1 ∨ w = 2 ∨ w = 3 ∨ w = 4 ∨ w = 5 ∨ w = 6 ∨ w = 7 ∨ w = 8 ∨ w = 9 ∨ w = 10 := by omega
  rcases hw with rfl | rfl | rfl | rfl | rfl | rfl | rfl | rfl | rfl | rfl | rfl
  · exact ⟨_, _, SqL.of l5, at_nat (j := 0) rfl rfl, fin _ _ (z5 _ _ (s5 _ _ (s4 _ _ (s3 _ _ (s2 _ _ t1))))) (three _ ⟨_, .int _⟩) (no3 _ (by decide))⟩
  · exact ⟨_, _, SqL.of l5, at_nat (j := 1) rfl rfl, fin _ _ (z5 _ _ (s5 _ _ (s4 _ _ (s3 _ _ t2)))) (three _ ⟨_, .int _⟩) (no3 _ (by decide))⟩
  · exact ⟨_, _, SqL.of l5, at_nat (j := 2) rfl rfl, fin _ _ (z5 _ _ (s5 _ _ (s4 _ _ t3))) (three _ ⟨_, .bl _⟩) (no3 _ rfl)⟩
  · exact ⟨_, _, SqL.of l5, at_nat (j := 3) rfl rfl, fin _ _ (z5 _ _ (s5 _ _ t4)) (three _ ⟨_, .str _ hlen⟩) (no3 _ rfl)⟩
  · exact ⟨_, _, SqL.of l5, at_nat (j := 4) rfl rfl, fin _ _ (z9 _ _ (sa _ _ (s9 _ _ (s8 _ _ (s7 _ _ t6))))) (three _ ⟨_, .non⟩) (no3 _ rfl)⟩
  · exact ⟨_, _, SqL.of l5, at_nat (j := 5) rfl rfl, q _ _ ok (.inl ⟨_, .lst (SqL.of (z9 _ _ (sa _ _ (s9 _ _ (s8 _ _ t7))))), by decide⟩)⟩
  · exact ⟨_, _, SqL.of l5, at_nat (j := 6) rfl rfl, fin _ _ (z9 _ _ (sa _ _ (s9 _ _ t8))) (fun u hu => three (.int r) kr u (by rcases List.mem_cons.mp hu with rfl | h; simp; rcases List.mem_cons.mp h with rfl | h; simp; cases h)) rfl⟩
  · refine ⟨_, _, SqL.of l5, at_nat (j := 7) rfl rfl, fin _ _ (z9 _ _ (sa _ _ t9)) (fun u hu => ?_) rfl⟩
    rcases List.mem_cons.mp hu with rfl | h
    · exact kx
    rcases List.mem_cons.mp h with rfl | h
    · exact ky
    rcases List.mem_cons.mp h with rfl | h
    · exact kr
    rcases List.mem_cons.mp h with rfl | h
    · exact kr
    · cases h
  · exact ⟨_, _, SqL.of l5, at_nat (j := 8) rfl rfl, q _ _ ok (.inl ⟨_, .str x (by omega), by decide⟩)⟩
  · refine ⟨_, _, SqL.of l5, at_nat (j := 9) rfl rfl, fin _ _ (sf _ _ (se _ _ (sd _ _ tc))) (fun u hu => ?_) rfl⟩
    rcases List.mem_cons.mp hu with rfl | h
    · exact ⟨_, .non⟩
    rcases List.mem_cons.mp h with rfl | h
    · exact ky
    rcases List.mem_cons.mp h with rfl | h
    · exact kr
    · cases h
  · refine ⟨_, _, SqL.of l5, at_nat (j := 10) rfl rfl, fin _ _ (sf _ _ (se _ _ td)) (fun u hu => ?_) ?_⟩
    · rcases List.mem_cons.mp hu with rfl | h
      · exact kx
      rcases List.mem_cons.mp h with rfl | h
      · exact kr
      rcases List.mem_cons.mp h with rfl | h
      · exact kr
      · cases h
    · show (_ && false && _) = false
      rw [Bool.and_false]
      rfl
/-! ### _law_says -/
abbrev N__law_says : List Str := ["_law_found", "_law_due"]
def sp__law_says (K : PySem.W.Frag) : Sp := fun vs H Q _ => ∃ (b c : Bool), vs = [.bl b, .bl c] ∧ Q (.bl (decide (b = c))) H
def t__law_says (K : PySem.W.Frag) : TS :=
  (tRet (uAndV (tCB (cIsi K) (tCons (uVar 0) (tCons (tC (.ty "bool")) tNil))) (tOp kEqB (uVar 0) (uVar 1))))
theorem rd__law_says {K : PySem.W.Frag} {vs : List V} {H : Hp} {Q : VK} {E : XK} (h : sp__law_says K vs H Q E) : t__law_says K { nx := fun _ H' => Q .non H', rt := Q } (start N__law_says vs) H := by
  obtain ⟨b, c, rfl, q⟩ := h
  exact ⟨_, _, .base (.bl b), (by decide +kernel : kitB "bool" "bool" = some true), br_t q⟩
/-! ### _law_whole -/
abbrev N__law_whole : List Str := ["_law_found"]
def sp__law_whole (K : PySem.W.Frag) : Sp := sp_is_whole K
def t__law_whole (K : PySem.W.Frag) : TS :=
  (tRet (uAndV (tCB (cIsi K) (tCons (uVar 0) (tCons (tC (.ty "int")) tNil))) (uNotV (tCB (cIsi K) (tCons (uVar 0) (tCons (tC (.ty "bool")) tNil))))))
theorem rd__law_whole {K : PySem.W.Frag} {vs : List V} {H : Hp} {Q : VK} {E : XK} (h : sp__law_whole K vs H Q E) : t__law_whole K { nx := fun _ H' => Q .non H', rt := Q } (start N__law_whole vs) H := rd_is_whole (E := E) h
/-! ### _law_alike -/
abbrev N__law_alike : List Str := ["_law_found", "_law_due"]
theorem sig_dp {K : PySem.W.Frag} {H : Hp} {a : Addr} {x y : Str} {z : Int} (h : SqT K H a [.str x, .str y, .int z]) : Dp K H (.ref a) (.tuple [.str x, .str y, .int z]) := .tup h (.cons (.str _) (.cons (.str _) (.cons (.int _) .nil)))
def sp__law_alike (K : PySem.W.Frag) : Sp := fun vs H Q _ => ∃ (a b : Addr) (x y : Str) (z : Int), vs = [.ref a, .ref b] ∧ SqT K H a [.str x, .str y, .int z] ∧ SqT K H b [.str x, .str y, .int z] ∧ PyData.strOk x = true ∧ PyData.strOk y = true ∧ Q (.bl true) H
def t__law_alike (K : PySem.W.Frag) : TS :=
  (tSeq (uIfS (uOr (uNot (uT (tCB (cIsi K) (tCons (uVar 0) (tCons (tC (.ty "tuple")) tNil))))) (uOr (uT (tOp kNeI (tCB (cLenQ K) (tCons (uVar 0) tNil)) (tC (.int 3)))) (uNot (uT (tCall (sp__law_whole K) [] E0 (tCons (tOp (cIxT K) (uVar 0) (tC (.int 2))) tNil))))))
  (tRet (tC (.bl false)))
  tNext)
  (tSeq (uIfS (uOr (uNot (uT (tCB (cIsi K) (tCons (tOp (cIxT K) (uVar 0) (tC (.int 0))) (tCons (tC (.ty "str")) tNil))))) (uNot (uT (tCB (cIsi K) (tCons (tOp (cIxT K) (uVar 0) (tC (.int 1))) (tCons (tC (.ty "str")) tNil))))))
  (tRet (tC (.bl false)))
  tNext)
  (tRet (tOp (rEqD K) (uVar 0) (uVar 1)))))
theorem rd__law_alike {K : PySem.W.Frag} {vs : List V} {H : Hp} {Q : VK} {E : XK} (h : sp__law_alike K vs H Q E) : t__law_alike K { nx := fun _ H' => Q .non H', rt := Q } (start N__law_alike vs) H := by
  obtain ⟨a, b, x, y, z, rfl, ha, hb, ox, oy, q⟩ := h
  refine ⟨_, _, ty_tup ha, (by decide +kernel : kitB "tuple" "tuple" = some true), br_f ⟨_, .inr ha, br_f ⟨_, _, ha, rfl, .int z, _, rfl, .int z, br_f ?_⟩⟩⟩
  refine ⟨_, _, ha, rfl, _, _, .base (.str x), (by decide +kernel : kitB "str" "str" = some true), br_f ⟨_, _, ha, rfl, _, _, .base (.str y), (by decide +kernel : kitB "str" "str" = some true), br_f ?_⟩⟩
  have lay : PyData.canLay0 (.tuple [.str x, .str y, .int z]) = true := by simp [PyData.canLay0, PyData.canLayAll0, ox, oy]
  have shp : SeqAt.shaped (.tuple [.str x, .str y, .int z]) = true := by
    show (PyData.canLay0 (.tuple [.str x, .str y, .int z]) && decide (PyData.depth (.tuple [.str x, .str y, .int z]) ≤ 64)) = true
    rw [lay]
    simp [PyData.depth, PyData.depthAll]
  refine ⟨_, _, sig_dp ha, sig_dp hb, shp, shp, ?_⟩
  have e : PyData.eqv (.tuple [.str x, .str y, .int z]) (.tuple [.str x, .str y, .int z]) = true := by simp [PyData.eqv, PyData.eqvAll]
  rw [e]
  exact q
/-! ### _law_others -/
abbrev N__law_others : List Str := ["_law_thing"]
def sp__law_others (K : PySem.W.Frag) : Sp := fun vs H Q _ => vs = [] ∧ ∀ (H' : Hp), Same H H' → Q (.bl true) H'
def lp1__law_others (K : PySem.W.Frag) : TS :=
  (tFor (iList K (uLst (tCons (tC .non) (tCons (tC (.bl true)) (tCons (tC (.int 0)) (tCons (tC (.int 7)) (tCons (uLst tNil) (tCons (uLst (tCons (tC (.str "a")) tNil)) (tCons (uTup (tCons (tC (.str "a")) tNil)) (tCons uDNew tNil)))))))))) (gName 0)
  (uIfS (uOr (uNot (uT (tCall (sp__law_says K) [] E0 (tCons (tCall (sp_is_peg K) [] E0 (tCons (uVar 0) tNil)) (tCons (tC (.bl false)) tNil))))) (uNot (uT (tCall (sp__law_says K) [] E0 (tCons (tCall (sp_is_sighting K) [] E0 (tCons (uVar 0) tNil)) (tCons (tC (.bl false)) tNil))))))
  (tRet (tC (.bl false)))
  tNext))
def t__law_others (K : PySem.W.Frag) : TS :=
  (tSeq (lp1__law_others K)
  (tRet (tC (.bl true))))
theorem rd__law_others {K : PySem.W.Frag} {vs : List V} {H : Hp} {Q : VK} {E : XK} (h : sp__law_others K vs H Q E) : t__law_others K { nx := fun _ H' => Q .non H', rt := Q } (start N__law_others vs) H := by
  obtain ⟨rfl, q⟩ := h
  refine ⟨szr rfl, fun p1 H1 n1 s1 h1 => ⟨szr rfl, fun p2 H2 n2 s2 h2 => ⟨szr rfl, fun p3 H3 n3 s3 h3 => fun p4 H4 n4 s4 h4 => ⟨szr rfl, fun p5 H5 n5 s5 l5 => ?_⟩⟩⟩⟩
  have h1 := (s5 _ _ (s4 _ _ (s3 _ _ (s2 _ _ h1))))
  have h2 := (s5 _ _ (s4 _ _ (s3 _ _ h2)))
  have h3 := (s5 _ _ (s4 _ _ h3))
  have h4 := (s5 _ _ h4)
  have sH := (((s1.trans s2).trans s3).trans s4).trans s5
  refine ⟨p5, rfl, ⟨_, SqL.of l5⟩, for_list (K := K) (a := p5) (xs := [.non, .bl true, .int 0, .int 7, .ref p1, .ref p2, .ref p3, .ref p4]) (fun i σ H' => H' = H5 ∧ ∃ w, σ = [w]) ⟨rfl, _, rfl⟩ (fun i σ H' _ h => by rw [h.1]; exact SqL.of l5) ?_ ?_⟩
  · have one : ∀ (v : V) (n : String), Knd K H5 v n → pegB v = false → n ≠ "tuple" → ∀ (D : Ends), D.nx [some v] H5 →
        uIfS (uOr (uNot (uT (tCall (sp__law_says K) [] E0 (tCons (tCall (sp_is_peg K) [] E0 (tCons (uVar 0) tNil)) (tCons (tC (.bl false)) tNil))))) (uNot (uT (tCall (sp__law_says K) [] E0 (tCons (tCall (sp_is_sighting K) [] E0 (tCons (uVar 0) tNil)) (tCons (tC (.bl false)) tNil))))))
          (tRet (tC (.bl false))) tNext D [some v] H5 := fun v n k hp hn D nx => by
      refine ⟨v, n, rfl, k, _, false, rfl, ?_⟩
      rw [hp]
      exact br_f ⟨v, rfl, .inl ⟨n, k, hn, false, false, rfl, br_f nx⟩⟩
    rintro i x σ H' e ⟨rfl, w, rfl⟩
    match i, e with
    | 0, e => cases e; exact one _ _ .non rfl (by decide) _ ⟨rfl, _, rfl⟩
    | 1, e => cases e; exact one _ _ (.bl _) rfl (by decide) _ ⟨rfl, _, rfl⟩
    | 2, e => cases e; exact one _ _ (.int _) rfl (by decide) _ ⟨rfl, _, rfl⟩
    | 3, e => cases e; exact one _ _ (.int _) rfl (by decide) _ ⟨rfl, _, rfl⟩
    | 4, e => cases e; exact one _ _ (.lst (SqL.of h1)) rfl (by decide) _ ⟨rfl, _, rfl⟩
    | 5, e => cases e; exact one _ _ (.lst (SqL.of h2)) rfl (by decide) _ ⟨rfl, _, rfl⟩
    | 6, e =>
      cases e
      refine ⟨_, _, rfl, .tup (SqT.of h3), false, false, rfl, br_f ⟨_, rfl, .inr ⟨p3, _, rfl, SqT.of h3, ?_, false, false, rfl, br_f ⟨rfl, _, rfl⟩⟩⟩⟩
      intro x hx
      have e : x = .str "a" := by simpa using hx
      subst e
      exact ⟨_, .str _ (by decide +kernel)⟩
    | 7, e => cases e; exact one _ _ (.dict h4) rfl (by decide) _ ⟨rfl, _, rfl⟩
    | n + 8, e => simp at e
  · rintro σ H' ⟨rfl, w, rfl⟩
    exact q _ sH
/-! ### law -/
abbrev N_law : List Str := ["_law_script", "_law_first", "_law_cell", "_law_second", "_law_rise", "_law_way", "_law_spoiled_here", "_law_one", "_law_other"]
def sp_law (K : PySem.W.Frag) : Sp := fun vs H Q _ => ∃ (a : Addr) (ns : List Int), vs = [.ref a] ∧ SqL K H a (ns.map V.int) ∧ ns.length ≤ 63 ∧ ∀ (H' : Hp), Q (.bl true) H'
def lp1_law (K : PySem.W.Frag) : TS :=
  (tFor (iList K (tSl (cSlL K) (uVar 0) tNoPart (uPart (tC (.int 84))))) (gName 2)
  (tSeq (tAsg (tCall (sp__law_text K) [] E0 (tCons (tOp kMod (tOp kMul (uVar 2) (tC (.int 9007199254740881))) (tOp kPow (tC (.int 10)) (tC (.int 18)))) tNil)) (gName 3))
  (tSeq (tAsg (tOp kSub (tOp kMod (tOp kSub (tOp kAdd (uVar 2) (tOp kPow (tC (.int 10)) (tC (.int 60)))) (tC (.int 1))) (tOp kSub (tOp kMul (tC (.int 2)) (tOp kPow (tC (.int 10)) (tC (.int 60)))) (tC (.int 1)))) (tOp kSub (tOp kPow (tC (.int 10)) (tC (.int 60))) (tC (.int 1)))) (gName 4))
  (tSeq (tAsg (tOp kMod (uVar 2) (tC (.int 17))) (gName 5))
  (Evl.tCut (uIfS (uT (tOp kEqI (uVar 5) (tC (.int 11))))
  (tAsg (tOp (cIxL K) (uLst (tCons (tOp kSub (tOp kPow (tC (.int 10)) (tC (.int 60))) (tC (.int 1))) (tCons (tOp kSub (tC (.int 1)) (tOp kPow (tC (.int 10)) (tC (.int 60)))) tNil))) (tOp kMod (tOp kDiv (uVar 2) (tC (.int 17))) (tC (.int 2)))) (gName 4))
  tNext)
  (tSeq (uIfS (uNot (uT (tCall (sp__law_says K) [] E0 (tCons (tCall (sp_is_peg K) [] E0 (tCons (tOp (cIxT K) (uVar 3) (tC (.int 0))) tNil)) (tCons (tOp (cIxT K) (uVar 3) (tC (.int 1))) tNil)))))
  (tRet (tC (.bl false)))
  tNext)
  (Evl.tCut (uIfS (uT (tOp kLt (uVar 5) (tC (.int 11))))
  (tSeq (tAsg (tCall (sp__law_spoiled K) [] E0 (tCons (tOp (cIxT K) (uVar 1) (tC (.int 0))) (tCons (tOp (cIxT K) (uVar 3) (tC (.int 0))) (tCons (uVar 4) (tCons (uVar 5) tNil))))) (gName 6))
  (uIfS (uNot (uT (tCall (sp__law_says K) [] E0 (tCons (tCall (sp_is_sighting K) [] E0 (tCons (uVar 6) tNil)) (tCons (tC (.bl false)) tNil)))))
  (tRet (tC (.bl false)))
  tNext))
  tNext)
  (tSeq (tAsg (uTup (tCons (tOp (cIxT K) (uVar 1) (tC (.int 0))) (tCons (tOp (cIxT K) (uVar 3) (tC (.int 0))) (tCons (uVar 4) tNil)))) (gName 7))
  (tSeq (uIfS (uNot (uT (tCall (sp__law_says K) [] E0 (tCons (tCall (sp_is_sighting K) [] E0 (tCons (uVar 7) tNil)) (tCons (uAndV (tOp (cIxT K) (uVar 1) (tC (.int 1))) (tOp (cIxT K) (uVar 3) (tC (.int 1)))) tNil)))))
  (tRet (tC (.bl false)))
  tNext)
  (Evl.tCut (uIfS (uAnd (uT (tOp (cIxT K) (uVar 1) (tC (.int 1)))) (uT (tOp (cIxT K) (uVar 3) (tC (.int 1)))))
  (tSeq (tAsg (tCall (sp_turned K) [] E0 (tCons (uVar 7) tNil)) (gName 8))
  (tSeq (uIfS (uNot (uT (tCall (sp__law_alike K) [] E0 (tCons (uVar 8) (tCons (uTup (tCons (tOp (cIxT K) (uVar 3) (tC (.int 0))) (tCons (tOp (cIxT K) (uVar 1) (tC (.int 0))) (tCons (tOp kSub (tC (.int 0)) (uVar 4)) tNil)))) tNil)))))
  (tRet (tC (.bl false)))
  tNext)
  (uIfS (uNot (uT (tCall (sp__law_alike K) [] E0 (tCons (tCall (sp_turned K) [] E0 (tCons (uVar 8) tNil)) (tCons (uVar 7) tNil)))))
  (tRet (tC (.bl false)))
  tNext)))
  tNext)
  (tAsg (uVar 3) (gName 1))))))))))))
def t_law (K : PySem.W.Frag) : TS :=
  (tSeq (tAsg (uTup (tCons (tC (.str "a")) (tCons (tC (.bl true)) tNil))) (gName 1))
  (tSeq (lp1_law K)
  (tRet (tCall (sp__law_others K) [] E0 tNil))))
/-- the text ahead, and whether it is a peg -/
structure Fst (H : Hp) (f : Addr) (x : Str) : Prop where
  t : H f = some (.tup [.str x, .bl (pegS x)])
  len : x.length ≤ 9
  ok : PyData.strOk x = true
theorem Fst.mono {H H' : Hp} {f : Addr} {x : Str} (s : Same H H') (h : Fst H f x) : Fst H' f x := ⟨s _ _ h.t, h.len, h.ok⟩
theorem sig3 {K : PySem.W.Frag} {H : Hp} {a : Addr} {x y : Str} {r : Int} (h : H a = some (.tup [.str x, .str y, .int r])) (hx : x.length ≤ 100) (hy : y.length ≤ 100) : ∀ u ∈ [V.str x, V.str y, V.int r], Some7 K H u := fun u hu => by
  rcases List.mem_cons.mp hu with rfl | h
  · exact ⟨_, .str _ (by omega)⟩
  rcases List.mem_cons.mp h with rfl | h
  · exact ⟨_, .str _ (by omega)⟩
  rcases List.mem_cons.mp h with rfl | h
  · exact ⟨_, .int _⟩
  · cases h
theorem rd_law {K : PySem.W.Frag} {vs : List V} {H : Hp} {Q : VK} {E : XK} (h : sp_law K vs H Q E) : t_law K { nx := fun _ H' => Q .non H', rt := Q } (start N_law vs) H := by
  obtain ⟨a, ns, rfl, hS, hlen, q⟩ := h
  refine ⟨szr rfl, fun f0 H1 n1 s1 t1 => ⟨_, same_l s1 hS, fun p H2 n2 s2 l2 => ?_⟩⟩
  obtain ⟨ms, em, hms⟩ := cutV_map V.int ns none (some 84)
  rw [em] at l2
  have F0 : Fst H2 f0 "a" := ⟨by rw [show pegS "a" = true by decide +kernel]; exact s2 _ _ t1, by decide +kernel, by decide +kernel⟩
  refine ⟨p, rfl, ⟨_, SqL.of l2⟩, for_list (K := K) (a := p) (xs := ms.map V.int) (fun i σ H' => Same H2 H' ∧ ∃ (f : Addr) (x : Str) (v2 v3 v4 v5 v6 v7 v8 : Option V), Fst H' f x ∧ σ = [some (.ref a), some (.ref f), v2, v3, v4, v5, v6, v7, v8]) ⟨Same.refl _, f0, _, none, none, none, none, none, none, none, F0, rfl⟩ (fun i σ H' _ h => same_l h.1 (SqL.of l2)) ?_ ?_⟩
  · rintro i v σ H3 e ⟨s3, f, x, v2, v3, v4, v5, v6, v7, v8, F, rfl⟩
    obtain ⟨n, rfl⟩ : ∃ n, v = .int n := by
      rw [List.getElem?_map] at e
      cases em : ms[i]? with
      | none => rw [em] at e; cases e
      | some z => rw [em] at e; exact ⟨z, (Option.some.inj e).symm⟩
    have p60 : CPow 10 60 := ⟨by decide, by decide, by decide⟩
    have e18 : (10 : Int) ^ (18 : Int).toNat = 1000000000000000000 := by decide
    refine ⟨.inr (by decide), ⟨by decide, by decide, by decide⟩, by decide, _, rfl, by rw [e18]; omega, fun y hy oy g H4 n4 s4 t4 => ?_⟩
    have G : Fst H4 g y := ⟨t4, hy, oy⟩
    have F4 := F.mono s4
    have e60 : (10 : Int) ^ (60 : Int).toNat = 10 ^ 60 := rfl
    refine ⟨p60, p60, .inl (by decide), by decide, p60, ?_⟩
    rw [e60]
    -- the rise
    refine ⟨by decide, fun σ' H' => Same H4 H' ∧ ∃ (r : Int), -(10 ^ 60) < r ∧ r < 10 ^ 60 ∧ σ' = [some (.ref a), some (.ref f), some (.int n), some (.ref g), some (.int r), some (.int (n % 17)), v6, v7, v8], ⟨fun _ => ?_, fun _ => ?_⟩, ?_⟩
    · refine ⟨p60, p60, szr rfl, fun p5 H5 n5 s5 t5 => ⟨by decide, by decide, ?_⟩⟩
      have hd : n / 17 % 2 = 0 ∨ n / 17 % 2 = 1 := by omega
      rcases hd with hd | hd
      · rw [hd]
        exact ⟨_, _, SqL.of t5, at_nat (j := 0) rfl rfl, s5, _, by decide, by decide, rfl⟩
      · rw [hd]
        exact ⟨_, _, SqL.of t5, at_nat (j := 1) rfl rfl, s5, _, by decide, by decide, rfl⟩
    · exact ⟨Same.refl _, _, by omega, by omega, rfl⟩
    rintro σ' H5 ⟨s5, r, r1, r2, rfl⟩
    have F5 := F4.mono s5
    have G5 := G.mono s5
    refine ⟨_, _, SqT.of G5.t, rfl, .str y, _, rfl, .str y (by omega), _, _, SqT.of G5.t, rfl, pegS y, pegS y, rfl, br_ff (by simp) ?_⟩
    have w0 : 0 ≤ n % 17 := by omega
    refine ⟨fun σ' H' => Same H5 H' ∧ ∃ v6, σ' = [some (.ref a), some (.ref f), some (.int n), some (.ref g), some (.int r), some (.int (n % 17)), v6, v7, v8], ⟨fun hw => ?_, fun _ => ⟨Same.refl _, _, rfl⟩⟩, ?_⟩
    · have hw := of_decide_eq_true hw
      refine ⟨_, _, SqT.of F5.t, rfl, _, _, SqT.of G5.t, rfl, x, y, r, n % 17, rfl, by have := F.len; omega, by omega, r1, r2, w0, hw, fun v H6 s6 hv => ?_⟩
      refine ⟨v, rfl, ?_⟩
      rcases hv with ⟨k, kn, nt⟩ | ⟨b, xs, rfl, hb, al, no⟩
      · exact .inl ⟨k, kn, nt, false, false, rfl, br_f ⟨s6, _, rfl⟩⟩
      · refine .inr ⟨b, xs, rfl, hb, al, false, false, ?_, br_f ⟨s6, _, rfl⟩⟩
        rw [no]
        rfl
    rintro σ' H6 ⟨s6, v6, rfl⟩
    have F6 := F5.mono s6
    have G6 := G5.mono s6
    refine ⟨_, _, SqT.of F6.t, rfl, _, _, SqT.of G6.t, rfl, szr rfl, fun o H7 n7 s7 t7 => ?_⟩
    have F7 := F6.mono s7
    have G7 := G6.mono s7
    have rise1 : riseB (.int r) = true := decide_eq_true ⟨r1, r2⟩
    have sg : sigB [.str x, .str y, .int r] = (pegS x && pegS y) := by
      show (pegS x && pegS y && riseB (.int r)) = _
      rw [rise1, Bool.and_true]
    refine ⟨_, rfl, .inr ⟨o, _, rfl, SqT.of t7, sig3 t7 (by have := F.len; omega) (by omega), _, _, SqT.of F7.t, rfl, ?_⟩⟩
    have says : ∀ (c : Bool), c = (pegS x && pegS y) → decide (sigB [.str x, .str y, .int r] = c) = true := fun c hc => by
      rw [sg, hc]
      simp
    -- what is behind the two tests of pegs
    have rest : ∀ (H8 : Hp) (v8 : Option V), Same H7 H8 → Same H2 H8 ∧ ∃ (f' : Addr) (x' : Str) (w2 w3 w4 w5 w6 w7 w8 : Option V), Fst H8 f' x' ∧
        [some (V.ref a), some (.ref g), some (.int n), some (.ref g), some (.int r), some (.int (n % 17)), v6, some (.ref o), v8] = [some (.ref a), some (.ref f'), w2, w3, w4, w5, w6, w7, w8] := fun H8 v8 s8 =>
      ⟨((((s3.trans s4).trans s5).trans s6).trans s7).trans s8, g, y, _, _, _, _, _, _, _, G7.mono s8, rfl⟩
    have go : Evl.tCut (uIfS (uAnd (uT (tOp (cIxT K) (uVar 1) (tC (.int 1)))) (uT (tOp (cIxT K) (uVar 3) (tC (.int 1)))))
        (tSeq (tAsg (tCall (sp_turned K) [] E0 (tCons (uVar 7) tNil)) (gName 8))
        (tSeq (uIfS (uNot (uT (tCall (sp__law_alike K) [] E0 (tCons (uVar 8) (tCons (uTup (tCons (tOp (cIxT K) (uVar 3) (tC (.int 0))) (tCons (tOp (cIxT K) (uVar 1) (tC (.int 0))) (tCons (tOp kSub (tC (.int 0)) (uVar 4)) tNil)))) tNil)))))
        (tRet (tC (.bl false)))
        tNext)
        (uIfS (uNot (uT (tCall (sp__law_alike K) [] E0 (tCons (tCall (sp_turned K) [] E0 (tCons (uVar 8) tNil)) (tCons (uVar 7) tNil)))))
        (tRet (tC (.bl false)))
        tNext)))
        tNext) (tAsg (uVar 3) (gName 1)) { nx := fun σ H' => Same H2 H' ∧ ∃ (f : Addr) (x : Str) (v2 v3 v4 v5 v6 v7 v8 : Option V), Fst H' f x ∧ σ = [some (.ref a), some (.ref f), v2, v3, v4, v5, v6, v7, v8], rt := Q }
        [some (.ref a), some (.ref f), some (.int n), some (.ref g), some (.int r), some (.int (n % 17)), v6, some (.ref o), v8] H7 := by
      refine ⟨fun σ' H' => Same H7 H' ∧ ∃ v8, σ' = [some (.ref a), some (.ref f), some (.int n), some (.ref g), some (.int r), some (.int (n % 17)), v6, some (.ref o), v8], ?_, ?_⟩
      · refine ⟨_, _, SqT.of F7.t, rfl, ⟨fun _ => ⟨_, _, SqT.of G7.t, rfl, ⟨fun _ => ?_, fun _ => ⟨Same.refl _, _, rfl⟩⟩⟩, fun _ => br_f ⟨Same.refl _, _, rfl⟩⟩⟩
        refine ⟨o, x, y, r, rfl, SqT.of t7, fun p8 H8 n8 s8 t8 => ?_⟩
        have F8 := F7.mono s8
        have G8 := G7.mono s8
        refine ⟨_, _, SqT.of G8.t, rfl, _, _, SqT.of F8.t, rfl, szr rfl, fun p9 H9 n9 s9 t9 => ?_⟩
        refine ⟨p8, p9, y, x, 0 - r, rfl, SqT.of (s9 _ _ t8), SqT.of t9, oy, F.ok, br_f ⟨p8, y, x, 0 - r, rfl, SqT.of (s9 _ _ t8), fun pa Ha na sa ta => ?_⟩⟩
        have e : 0 - (0 - r) = r := by omega
        rw [e] at ta
        exact ⟨pa, o, x, y, r, rfl, SqT.of ta, SqT.of (sa _ _ (s9 _ _ (s8 _ _ t7))), F.ok, oy, br_f ⟨(s8.trans s9).trans sa, _, rfl⟩⟩
      · rintro σ' H8 ⟨s8, v8, rfl⟩
        exact rest H8 v8 s8
    have br : ∀ (c : Bool), c = (pegS x && pegS y) → ∀ A B : Prop, B → Br (!decide (sigB [.str x, .str y, .int r] = c)) A B := fun c hc A B h => br_ff (by rw [says c hc]; rfl) h
    refine ⟨fun e1 => ⟨_, _, SqT.of G7.t, rfl, _, _, rfl, br _ (by rw [e1, Bool.true_and]) _ _ go⟩, fun e1 => ⟨_, _, rfl, br _ (by rw [e1, Bool.false_and]) _ _ go⟩⟩
  · rintro σ H' ⟨s, f, x, v2, v3, v4, v5, v6, v7, v8, F, rfl⟩
    exact ⟨rfl, fun H'' _ => q H''⟩
def top (i : Nat) : Stmt := PySem.Challenge.pw_pegrise_k01_pegs_and_sightings.main.body.getD i (.Pass ⟨0, 0, 0, 0⟩)
/-- what the names of the module hold -/
structure Mg (mg : Str → Option Value) : Prop where
  m_int : mg "int" = none
  m_isinstance : mg "isinstance" = none
  m_bool : mg "bool" = none
  m_str : mg "str" = none
  m_len : mg "len" = none
  m_tuple : mg "tuple" = none
  m_abs : mg "abs" = none
  m_range : mg "range" = none
  x_LETTERS : ∃ t, mg "LETTERS" = some (.str "abcdefghijklmnopqrstuvwxyz" t)
  x_BOUND : ∃ t, mg "BOUND" = some (.int (10 ^ 60) t)
section
variable {P : Program} {w : World} {K : PySem.W.Frag} {mg : Str → Option Value} {base : Heap}
abbrev s_is_whole : Stmt := top 3
theorem sc_is_whole : FnScope N_is_whole ["thing"] (defScope s_is_whole) := ⟨rfl, rfl, rfl, by decide +kernel, rfl, by decide +kernel, by decide +kernel⟩
theorem ok_is_whole {f : Addr} {fd : FuncData} (F : Fun K "is_whole" "is_whole" s_is_whole f fd) (hm : mg "is_whole" = some (.ref f)) (hb : Binds K fd ["thing"] []) (M : Mg mg)  :
    Cal P w K mg base CX0 1 "is_whole" ["thing"] (sp_is_whole K) := by
  refine ⟨f, fd, F.ok sc_is_whole (fun vs H Q E h => ?_) (fun cdv A outer s H vs Q E hr h => ?_), hm, F.kp, hb⟩
  · unfold sp_is_whole at h
    first
      | (obtain ⟨rfl, _⟩ := h; rfl)
      | (obtain ⟨_, rfl, _⟩ := h; rfl)
      | (obtain ⟨_, _, rfl, _⟩ := h; rfl)
      | (obtain ⟨_, _, _, rfl, _⟩ := h; rfl)
      | (obtain ⟨_, _, _, _, rfl, _⟩ := h; rfl)
      | (obtain ⟨_, _, _, _, _, rfl, _⟩ := h; rfl)
      | (obtain ⟨_, _, _, _, _, _, rfl, _⟩ := h; rfl)
      | (obtain ⟨_, _, _, _, _, _, _, rfl, _⟩ := h; rfl)
      | (obtain ⟨_, _, _, _, _, _, _, _, rfl, _⟩ := h; rfl)
      | (obtain ⟨_, _, _, _, _, _, _, _, _, rfl, _⟩ := h; rfl)
  have hu := hu_of hr
  have hu64 := hr.units
  have hu65 := hr.u65
  have nd := sc_is_whole.nd
  exact ⟨t_is_whole K, (pss_one (ps_ret (v_and (pe_callB b_isi (by rfl) M.m_isinstance (by decide +kernel) (pa_cons (uv 0) (pa_cons (pe_bltn (v := .ty "int") (by rfl) M.m_int (by decide +kernel) rfl) pa_nil))) (pe_one (v_not (pe_callB b_isi (by rfl) M.m_isinstance (by decide +kernel) (pa_cons (uv 0) (pa_cons (pe_bltn (v := .ty "bool") (by rfl) M.m_bool (by decide +kernel) rfl) pa_nil)))))))), rd_is_whole h⟩
abbrev s_is_peg : Stmt := top 4
theorem sc_is_peg : FnScope N_is_peg ["thing"] (defScope s_is_peg) := ⟨rfl, rfl, rfl, by decide +kernel, rfl, by decide +kernel, by decide +kernel⟩
theorem ok_is_peg {f : Addr} {fd : FuncData} (F : Fun K "is_peg" "is_peg" s_is_peg f fd) (hm : mg "is_peg" = some (.ref f)) (hb : Binds K fd ["thing"] []) (M : Mg mg)  :
    Cal P w K mg base CX0 1 "is_peg" ["thing"] (sp_is_peg K) := by
  obtain ⟨_, m_LETTERS⟩ := M.x_LETTERS
  refine ⟨f, fd, F.ok sc_is_peg (fun vs H Q E h => ?_) (fun cdv A outer s H vs Q E hr h => ?_), hm, F.kp, hb⟩
  · unfold sp_is_peg at h
    first
      | (obtain ⟨rfl, _⟩ := h; rfl)
      | (obtain ⟨_, rfl, _⟩ := h; rfl)
      | (obtain ⟨_, _, rfl, _⟩ := h; rfl)
      | (obtain ⟨_, _, _, rfl, _⟩ := h; rfl)
      | (obtain ⟨_, _, _, _, rfl, _⟩ := h; rfl)
      | (obtain ⟨_, _, _, _, _, rfl, _⟩ := h; rfl)
      | (obtain ⟨_, _, _, _, _, _, rfl, _⟩ := h; rfl)
      | (obtain ⟨_, _, _, _, _, _, _, rfl, _⟩ := h; rfl)
      | (obtain ⟨_, _, _, _, _, _, _, _, rfl, _⟩ := h; rfl)
      | (obtain ⟨_, _, _, _, _, _, _, _, _, rfl, _⟩ := h; rfl)
  have hu := hu_of hr
  have hu64 := hr.units
  have hu65 := hr.u65
  have nd := sc_is_peg.nd
  exact ⟨t_is_peg K, (pss_cons (s_if (PW.pt (w_or (t_not (t_val (pe_callB b_isi (by rfl) M.m_isinstance (by decide +kernel) (pa_cons (uv 0) (pa_cons (pe_bltn (v := .ty "str") (by rfl) M.m_str (by decide +kernel) rfl) pa_nil))))) (w_or (t_cmp (c_op o_lt (pe_callB l_str (by rfl) M.m_len (by decide +kernel) (pa_cons (uv 0) pa_nil)) pe_int)) (pw_or1 (t_cmp (c_op o_gt (pe_callB l_str (by rfl) M.m_len (by decide +kernel) (pa_cons (uv 0) pa_nil)) pe_int))))))
  (pss_one (ps_ret pe_bl))
  pss_nil)
  (pss_cons (ps_for pnever rfl (pi_str (uv 0)) (pg_name (i := 1) nd rfl (by first | exact Or.inl rfl | exact Or.inr rfl))
  (pss_one (s_if (t_cmp (c_op o_notInSign (uv 1) (pe_glob (by rfl) m_LETTERS ⟨_, rfl⟩)))
  (pss_one (ps_ret pe_bl))
  pss_nil)))
  (pss_one (ps_ret pe_bl)))), rd_is_peg h⟩
abbrev s_is_sighting : Stmt := top 5
theorem sc_is_sighting : FnScope N_is_sighting ["thing"] (defScope s_is_sighting) := ⟨rfl, rfl, rfl, by decide +kernel, rfl, by decide +kernel, by decide +kernel⟩
theorem ok_is_sighting {f : Addr} {fd : FuncData} (F : Fun K "is_sighting" "is_sighting" s_is_sighting f fd) (hm : mg "is_sighting" = some (.ref f)) (hb : Binds K fd ["thing"] []) (M : Mg mg) (c_is_peg : Cal P w K mg base CX0 1 "is_peg" ["thing"] (sp_is_peg K)) (c_is_whole : Cal P w K mg base CX0 1 "is_whole" ["thing"] (sp_is_whole K)) :
    Cal P w K mg base CX0 2 "is_sighting" ["thing"] (sp_is_sighting K) := by
  obtain ⟨_, m_BOUND⟩ := M.x_BOUND
  refine ⟨f, fd, F.ok sc_is_sighting (fun vs H Q E h => ?_) (fun cdv A outer s H vs Q E hr h => ?_), hm, F.kp, hb⟩
  · unfold sp_is_sighting at h
    first
      | (obtain ⟨rfl, _⟩ := h; rfl)
      | (obtain ⟨_, rfl, _⟩ := h; rfl)
      | (obtain ⟨_, _, rfl, _⟩ := h; rfl)
      | (obtain ⟨_, _, _, rfl, _⟩ := h; rfl)
      | (obtain ⟨_, _, _, _, rfl, _⟩ := h; rfl)
      | (obtain ⟨_, _, _, _, _, rfl, _⟩ := h; rfl)
      | (obtain ⟨_, _, _, _, _, _, rfl, _⟩ := h; rfl)
      | (obtain ⟨_, _, _, _, _, _, _, rfl, _⟩ := h; rfl)
      | (obtain ⟨_, _, _, _, _, _, _, _, rfl, _⟩ := h; rfl)
      | (obtain ⟨_, _, _, _, _, _, _, _, _, rfl, _⟩ := h; rfl)
  have hu := hu_of hr
  have hu64 := hr.units
  have hu65 := hr.u65
  have nd := sc_is_sighting.nd
  exact ⟨t_is_sighting K, (pss_cons (s_if (PW.pt (w_or (t_not (t_val (pe_callB b_isi (by rfl) M.m_isinstance (by decide +kernel) (pa_cons (uv 0) (pa_cons (pe_bltn (v := .ty "tuple") (by rfl) M.m_tuple (by decide +kernel) rfl) pa_nil))))) (pw_or1 (t_cmp (c_op o_neI (pe_callB l_seq (by rfl) M.m_len (by decide +kernel) (pa_cons (uv 0) pa_nil)) pe_int)))))
  (pss_one (ps_ret pe_bl))
  pss_nil)
  (pss_cons (s_if (PW.pt (w_or (t_not (t_val (c_is_peg.pe (hr.mono (by decide)) pass0 (pa_cons (pe_ix x_tup (uv 0) pe_int plainIx) pa_nil)))) (pw_or1 (t_not (t_val (c_is_peg.pe (hr.mono (by decide)) pass0 (pa_cons (pe_ix x_tup (uv 0) pe_int plainIx) pa_nil)))))))
  (pss_one (ps_ret pe_bl))
  pss_nil)
  (pss_one (ps_ret (v_and (c_is_whole.pe (hr.mono (by decide)) pass0 (pa_cons (pe_ix x_tup (uv 0) pe_int plainIx) pa_nil)) (pe_one (e_cmp (c_op o_lt (pe_callB b_abs (by rfl) M.m_abs (by decide +kernel) (pa_cons (pe_ix x_tup (uv 0) pe_int plainIx) pa_nil)) (pe_glob (by rfl) m_BOUND ⟨_, rfl⟩))))))))), rd_is_sighting h⟩
abbrev s_turned : Stmt := top 6
theorem sc_turned : FnScope N_turned ["sighting"] (defScope s_turned) := ⟨rfl, rfl, rfl, by decide +kernel, rfl, by decide +kernel, by decide +kernel⟩
theorem ok_turned {f : Addr} {fd : FuncData} (F : Fun K "turned" "turned" s_turned f fd) (hm : mg "turned" = some (.ref f)) (hb : Binds K fd ["sighting"] []) (M : Mg mg)  :
    Cal P w K mg base CX0 1 "turned" ["sighting"] (sp_turned K) := by
  refine ⟨f, fd, F.ok sc_turned (fun vs H Q E h => ?_) (fun cdv A outer s H vs Q E hr h => ?_), hm, F.kp, hb⟩
  · unfold sp_turned at h
    first
      | (obtain ⟨rfl, _⟩ := h; rfl)
      | (obtain ⟨_, rfl, _⟩ := h; rfl)
      | (obtain ⟨_, _, rfl, _⟩ := h; rfl)
      | (obtain ⟨_, _, _, rfl, _⟩ := h; rfl)
      | (obtain ⟨_, _, _, _, rfl, _⟩ := h; rfl)
      | (obtain ⟨_, _, _, _, _, rfl, _⟩ := h; rfl)
      | (obtain ⟨_, _, _, _, _, _, rfl, _⟩ := h; rfl)
      | (obtain ⟨_, _, _, _, _, _, _, rfl, _⟩ := h; rfl)
      | (obtain ⟨_, _, _, _, _, _, _, _, rfl, _⟩ := h; rfl)
      | (obtain ⟨_, _, _, _, _, _, _, _, _, rfl, _⟩ := h; rfl)
  have hu := hu_of hr
  have hu64 := hr.units
  have hu65 := hr.u65
  have nd := sc_turned.nd
  exact ⟨t_turned K, (pss_one (ps_ret (e_tup (pa_cons (pe_ix x_tup (uv 0) pe_int plainIx) (pa_cons (pe_ix x_tup (uv 0) pe_int plainIx) (pa_cons (pe_op o_sub pe_int (pe_ix x_tup (uv 0) pe_int plainIx)) pa_nil)))))), rd_turned h⟩
abbrev s__law_text : Stmt := top 8
theorem sc__law_text : FnScope N__law_text ["_law_number"] (defScope s__law_text) := ⟨rfl, rfl, rfl, by decide +kernel, rfl, by decide +kernel, by decide +kernel⟩
theorem ok__law_text {f : Addr} {fd : FuncData} (F : Fun K "_law_text" "_law_text" s__law_text f fd) (hm : mg "_law_text" = some (.ref f)) (hb : Binds K fd ["_law_number"] []) (M : Mg mg)  :
    Cal P w K mg base CX0 1 "_law_text" ["_law_number"] (sp__law_text K) := by
  refine ⟨f, fd, F.ok sc__law_text (fun vs H Q E h => ?_) (fun cdv A outer s H vs Q E hr h => ?_), hm, F.kp, hb⟩
  · unfold sp__law_text at h
    first
      | (obtain ⟨rfl, _⟩ := h; rfl)
      | (obtain ⟨_, rfl, _⟩ := h; rfl)
      | (obtain ⟨_, _, rfl, _⟩ := h; rfl)
      | (obtain ⟨_, _, _, rfl, _⟩ := h; rfl)
      | (obtain ⟨_, _, _, _, rfl, _⟩ := h; rfl)
      | (obtain ⟨_, _, _, _, _, rfl, _⟩ := h; rfl)
      | (obtain ⟨_, _, _, _, _, _, rfl, _⟩ := h; rfl)
      | (obtain ⟨_, _, _, _, _, _, _, rfl, _⟩ := h; rfl)
      | (obtain ⟨_, _, _, _, _, _, _, _, rfl, _⟩ := h; rfl)
      | (obtain ⟨_, _, _, _, _, _, _, _, _, rfl, _⟩ := h; rfl)
  have hu := hu_of hr
  have hu64 := hr.units
  have hu65 := hr.u65
  have nd := sc__law_text.nd
  exact ⟨t__law_text K, (pss_cons (ps_set (i := 1) nd rfl (by first | exact Or.inl rfl | exact Or.inr rfl) pe_str)
  (pss_cons (ps_set (i := 2) nd rfl (by first | exact Or.inl rfl | exact Or.inr rfl) pe_str)
  (pss_cons (ps_set (i := 3) nd rfl (by first | exact Or.inl rfl | exact Or.inr rfl) (pe_op o_mod (uv 0) pe_int))
  (pss_cons (ps_set (i := 4) nd rfl (by first | exact Or.inl rfl | exact Or.inr rfl) (pe_op o_div (uv 0) pe_int))
  (pss_cons (ps_set (i := 5) nd rfl (by first | exact Or.inl rfl | exact Or.inr rfl) (pe_ix x_str (uv 2) (pe_op o_mod (pe_op o_divW (uv 4) (pe_op o_pow pe_int pe_int)) pe_int) plainIx))
  (pss_cons (ps_set (i := 6) nd rfl (by first | exact Or.inl rfl | exact Or.inr rfl) pe_str)
  (pss_cons (ps_set (i := 7) nd rfl (by first | exact Or.inl rfl | exact Or.inr rfl) (v_and (e_cmp (c_op o_lt pe_int (uv 3))) (pe_one (e_cmp (c_op o_lt (uv 3) pe_int)))))
  (pss_cons (ps_for pnever rfl (pi_range1 (by rfl) M.m_range (pa_cons (uv 3) pa_nil)) (pg_name (i := 8) nd rfl (by first | exact Or.inl rfl | exact Or.inr rfl))
  (Evl.pss_cut (s_if (t_cmp (c_op o_eqI (pe_op o_mod (uv 4) pe_int) pe_int))
  (pss_cons (ps_set (i := 6) nd rfl (by first | exact Or.inl rfl | exact Or.inr rfl) (pe_op o_addS (uv 6) (uv 5)))
  (pss_one (ps_set (i := 7) nd rfl (by first | exact Or.inl rfl | exact Or.inr rfl) pe_bl)))
  (pss_one (ps_set (i := 6) nd rfl (by first | exact Or.inl rfl | exact Or.inr rfl) (pe_op o_addS (uv 6) (pe_ix x_str (uv 1) (pe_op o_mod (uv 4) pe_int) plainIx)))))
  (pss_one (ps_set (i := 4) nd rfl (by first | exact Or.inl rfl | exact Or.inr rfl) (pe_op o_div (uv 4) pe_int)))))
  (pss_one (ps_ret (e_tup (pa_cons (uv 6) (pa_cons (uv 7) pa_nil))))))))))))), rd__law_text h⟩
abbrev s__law_spoiled : Stmt := top 9
theorem sc__law_spoiled : FnScope N__law_spoiled ["_law_one", "_law_other", "_law_rise", "_law_way"] (defScope s__law_spoiled) := ⟨rfl, rfl, rfl, by decide +kernel, rfl, by decide +kernel, by decide +kernel⟩
theorem ok__law_spoiled {f : Addr} {fd : FuncData} (F : Fun K "_law_spoiled" "_law_spoiled" s__law_spoiled f fd) (hm : mg "_law_spoiled" = some (.ref f)) (hb : Binds K fd ["_law_one", "_law_other", "_law_rise", "_law_way"] []) (M : Mg mg)  :
    Cal P w K mg base CX0 1 "_law_spoiled" ["_law_one", "_law_other", "_law_rise", "_law_way"] (sp__law_spoiled K) := by
  refine ⟨f, fd, F.ok sc__law_spoiled (fun vs H Q E h => ?_) (fun cdv A outer s H vs Q E hr h => ?_), hm, F.kp, hb⟩
  · unfold sp__law_spoiled at h
    first
      | (obtain ⟨rfl, _⟩ := h; rfl)
      | (obtain ⟨_, rfl, _⟩ := h; rfl)
      | (obtain ⟨_, _, rfl, _⟩ := h; rfl)
      | (obtain ⟨_, _, _, rfl, _⟩ := h; rfl)
      | (obtain ⟨_, _, _, _, rfl, _⟩ := h; rfl)
      | (obtain ⟨_, _, _, _, _, rfl, _⟩ := h; rfl)
      | (obtain ⟨_, _, _, _, _, _, rfl, _⟩ := h; rfl)
      | (obtain ⟨_, _, _, _, _, _, _, rfl, _⟩ := h; rfl)
      | (obtain ⟨_, _, _, _, _, _, _, _, rfl, _⟩ := h; rfl)
      | (obtain ⟨_, _, _, _, _, _, _, _, _, rfl, _⟩ := h; rfl)
  have hu := hu_of hr
  have hu64 := hr.units
  have hu65 := hr.u65
  have nd := sc__law_spoiled.nd
  exact ⟨t__law_spoiled K, (pss_cons (ps_set (i := 4) nd rfl (by first | exact Or.inl rfl | exact Or.inr rfl) (e_lst (pa_cons (e_tup (pa_cons (uv 0) (pa_cons (uv 1) (pa_cons (pe_op o_pow pe_int pe_int) pa_nil)))) (pa_cons (e_tup (pa_cons (uv 0) (pa_cons (uv 1) (pa_cons (pe_op o_sub pe_int (pe_op o_pow pe_int pe_int)) pa_nil)))) (pa_cons (e_tup (pa_cons (uv 0) (pa_cons (uv 1) (pa_cons (e_cmp (c_op o_gt (uv 2) pe_int)) pa_nil)))) (pa_cons (e_tup (pa_cons (uv 0) (pa_cons (uv 1) (pa_cons (pe_callTy b_str (by rfl) M.m_str (by decide +kernel) (pa_cons (uv 2) pa_nil)) pa_nil)))) pa_nil))))))
  (pss_cons (ps_set (i := 4) nd rfl (by first | exact Or.inl rfl | exact Or.inr rfl) (pe_op o_cat (uv 4) (e_lst (pa_cons (e_tup (pa_cons (uv 0) (pa_cons (uv 1) (pa_cons pe_non pa_nil)))) (pa_cons (e_lst (pa_cons (uv 0) (pa_cons (uv 1) (pa_cons (uv 2) pa_nil)))) (pa_cons (e_tup (pa_cons (uv 0) (pa_cons (uv 1) pa_nil))) (pa_cons (e_tup (pa_cons (uv 0) (pa_cons (uv 1) (pa_cons (uv 2) (pa_cons (uv 2) pa_nil))))) (pa_cons (uv 0) pa_nil))))))))
  (pss_cons (ps_set (i := 4) nd rfl (by first | exact Or.inl rfl | exact Or.inr rfl) (pe_op o_cat (uv 4) (e_lst (pa_cons (e_tup (pa_cons pe_non (pa_cons (uv 1) (pa_cons (uv 2) pa_nil)))) (pa_cons (e_tup (pa_cons (uv 0) (pa_cons (uv 2) (pa_cons (uv 2) pa_nil)))) pa_nil)))))
  (pss_one (ps_ret (pe_ix x_list (uv 4) (uv 3) plainIx)))))), rd__law_spoiled h⟩
abbrev s__law_says : Stmt := top 10
theorem sc__law_says : FnScope N__law_says ["_law_found", "_law_due"] (defScope s__law_says) := ⟨rfl, rfl, rfl, by decide +kernel, rfl, by decide +kernel, by decide +kernel⟩
theorem ok__law_says {f : Addr} {fd : FuncData} (F : Fun K "_law_says" "_law_says" s__law_says f fd) (hm : mg "_law_says" = some (.ref f)) (hb : Binds K fd ["_law_found", "_law_due"] []) (M : Mg mg)  :
    Cal P w K mg base CX0 1 "_law_says" ["_law_found", "_law_due"] (sp__law_says K) := by
  refine ⟨f, fd, F.ok sc__law_says (fun vs H Q E h => ?_) (fun cdv A outer s H vs Q E hr h => ?_), hm, F.kp, hb⟩
  · unfold sp__law_says at h
    first
      | (obtain ⟨rfl, _⟩ := h; rfl)
      | (obtain ⟨_, rfl, _⟩ := h; rfl)
      | (obtain ⟨_, _, rfl, _⟩ := h; rfl)
      | (obtain ⟨_, _, _, rfl, _⟩ := h; rfl)
      | (obtain ⟨_, _, _, _, rfl, _⟩ := h; rfl)
      | (obtain ⟨_, _, _, _, _, rfl, _⟩ := h; rfl)
      | (obtain ⟨_, _, _, _, _, _, rfl, _⟩ := h; rfl)
      | (obtain ⟨_, _, _, _, _, _, _, rfl, _⟩ := h; rfl)
      | (obtain ⟨_, _, _, _, _, _, _, _, rfl, _⟩ := h; rfl)
      | (obtain ⟨_, _, _, _, _, _, _, _, _, rfl, _⟩ := h; rfl)
  have hu := hu_of hr
  have hu64 := hr.units
  have hu65 := hr.u65
  have nd := sc__law_says.nd
  exact ⟨t__law_says K, (pss_one (ps_ret (v_and (pe_callB b_isi (by rfl) M.m_isinstance (by decide +kernel) (pa_cons (uv 0) (pa_cons (pe_bltn (v := .ty "bool") (by rfl) M.m_bool (by decide +kernel) rfl) pa_nil))) (pe_one (e_cmp (c_op o_eqB (uv 0) (uv 1))))))), rd__law_says h⟩
abbrev s__law_whole : Stmt := top 11
theorem sc__law_whole : FnScope N__law_whole ["_law_found"] (defScope s__law_whole) := ⟨rfl, rfl, rfl, by decide +kernel, rfl, by decide +kernel, by decide +kernel⟩
theorem ok__law_whole {f : Addr} {fd : FuncData} (F : Fun K "_law_whole" "_law_whole" s__law_whole f fd) (hm : mg "_law_whole" = some (.ref f)) (hb : Binds K fd ["_law_found"] []) (M : Mg mg)  :
    Cal P w K mg base CX0 1 "_law_whole" ["_law_found"] (sp__law_whole K) := by
  refine ⟨f, fd, F.ok sc__law_whole (fun vs H Q E h => ?_) (fun cdv A outer s H vs Q E hr h => ?_), hm, F.kp, hb⟩
  · unfold sp__law_whole at h
    first
      | (obtain ⟨rfl, _⟩ := h; rfl)
      | (obtain ⟨_, rfl, _⟩ := h; rfl)
      | (obtain ⟨_, _, rfl, _⟩ := h; rfl)
      | (obtain ⟨_, _, _, rfl, _⟩ := h; rfl)
      | (obtain ⟨_, _, _, _, rfl, _⟩ := h; rfl)
      | (obtain ⟨_, _, _, _, _, rfl, _⟩ := h; rfl)
      | (obtain ⟨_, _, _, _, _, _, rfl, _⟩ := h; rfl)
      | (obtain ⟨_, _, _, _, _, _, _, rfl, _⟩ := h; rfl)
      | (obtain ⟨_, _, _, _, _, _, _, _, rfl, _⟩ := h; rfl)
      | (obtain ⟨_, _, _, _, _, _, _, _, _, rfl, _⟩ := h; rfl)
  have hu := hu_of hr
  have hu64 := hr.units
  have hu65 := hr.u65
  have nd := sc__law_whole.nd
  exact ⟨t__law_whole K, (pss_one (ps_ret (v_and (pe_callB b_isi (by rfl) M.m_isinstance (by decide +kernel) (pa_cons (uv 0) (pa_cons (pe_bltn (v := .ty "int") (by rfl) M.m_int (by decide +kernel) rfl) pa_nil))) (pe_one (v_not (pe_callB b_isi (by rfl) M.m_isinstance (by decide +kernel) (pa_cons (uv 0) (pa_cons (pe_bltn (v := .ty "bool") (by rfl) M.m_bool (by decide +kernel) rfl) pa_nil)))))))), rd__law_whole h⟩
abbrev s__law_alike : Stmt := top 12
theorem sc__law_alike : FnScope N__law_alike ["_law_found", "_law_due"] (defScope s__law_alike) := ⟨rfl, rfl, rfl, by decide +kernel, rfl, by decide +kernel, by decide +kernel⟩
theorem ok__law_alike {f : Addr} {fd : FuncData} (F : Fun K "_law_alike" "_law_alike" s__law_alike f fd) (hm : mg "_law_alike" = some (.ref f)) (hb : Binds K fd ["_law_found", "_law_due"] []) (M : Mg mg) (c__law_whole : Cal P w K mg base CX0 1 "_law_whole" ["_law_found"] (sp__law_whole K)) :
    Cal P w K mg base CX0 2 "_law_alike" ["_law_found", "_law_due"] (sp__law_alike K) := by
  refine ⟨f, fd, F.ok sc__law_alike (fun vs H Q E h => ?_) (fun cdv A outer s H vs Q E hr h => ?_), hm, F.kp, hb⟩
  · unfold sp__law_alike at h
    first
      | (obtain ⟨rfl, _⟩ := h; rfl)
      | (obtain ⟨_, rfl, _⟩ := h; rfl)
      | (obtain ⟨_, _, rfl, _⟩ := h; rfl)
      | (obtain ⟨_, _, _, rfl, _⟩ := h; rfl)
      | (obtain ⟨_, _, _, _, rfl, _⟩ := h; rfl)
      | (obtain ⟨_, _, _, _, _, rfl, _⟩ := h; rfl)
      | (obtain ⟨_, _, _, _, _, _, rfl, _⟩ := h; rfl)
      | (obtain ⟨_, _, _, _, _, _, _, rfl, _⟩ := h; rfl)
      | (obtain ⟨_, _, _, _, _, _, _, _, rfl, _⟩ := h; rfl)
      | (obtain ⟨_, _, _, _, _, _, _, _, _, rfl, _⟩ := h; rfl)
  have hu := hu_of hr
  have hu64 := hr.units
  have hu65 := hr.u65
  have nd := sc__law_alike.nd
  exact ⟨t__law_alike K, (pss_cons (s_if (PW.pt (w_or (t_not (t_val (pe_callB b_isi (by rfl) M.m_isinstance (by decide +kernel) (pa_cons (uv 0) (pa_cons (pe_bltn (v := .ty "tuple") (by rfl) M.m_tuple (by decide +kernel) rfl) pa_nil))))) (w_or (t_cmp (c_op o_neI (pe_callB l_seq (by rfl) M.m_len (by decide +kernel) (pa_cons (uv 0) pa_nil)) pe_int)) (pw_or1 (t_not (t_val (c__law_whole.pe (hr.mono (by decide)) pass0 (pa_cons (pe_ix x_tup (uv 0) pe_int plainIx) pa_nil))))))))
  (pss_one (ps_ret pe_bl))
  pss_nil)
  (pss_cons (s_if (PW.pt (w_or (t_not (t_val (pe_callB b_isi (by rfl) M.m_isinstance (by decide +kernel) (pa_cons (pe_ix x_tup (uv 0) pe_int plainIx) (pa_cons (pe_bltn (v := .ty "str") (by rfl) M.m_str (by decide +kernel) rfl) pa_nil))))) (pw_or1 (t_not (t_val (pe_callB b_isi (by rfl) M.m_isinstance (by decide +kernel) (pa_cons (pe_ix x_tup (uv 0) pe_int plainIx) (pa_cons (pe_bltn (v := .ty "str") (by rfl) M.m_str (by decide +kernel) rfl) pa_nil))))))))
  (pss_one (ps_ret pe_bl))
  pss_nil)
  (pss_one (ps_ret (e_cmp (c_op (op_eqD hu64) (uv 0) (uv 1))))))), rd__law_alike h⟩
abbrev s__law_others : Stmt := top 13
theorem sc__law_others : FnScope N__law_others [] (defScope s__law_others) := ⟨rfl, rfl, rfl, by decide +kernel, rfl, by decide +kernel, by decide +kernel⟩
theorem ok__law_others {f : Addr} {fd : FuncData} (F : Fun K "_law_others" "_law_others" s__law_others f fd) (hm : mg "_law_others" = some (.ref f)) (hb : Binds K fd [] []) (M : Mg mg) (c__law_says : Cal P w K mg base CX0 1 "_law_says" ["_law_found", "_law_due"] (sp__law_says K)) (c_is_peg : Cal P w K mg base CX0 1 "is_peg" ["thing"] (sp_is_peg K)) (c_is_sighting : Cal P w K mg base CX0 2 "is_sighting" ["thing"] (sp_is_sighting K)) :
    Cal P w K mg base CX0 3 "_law_others" [] (sp__law_others K) := by
  refine ⟨f, fd, F.ok sc__law_others (fun vs H Q E h => ?_) (fun cdv A outer s H vs Q E hr h => ?_), hm, F.kp, hb⟩
  · unfold sp__law_others at h
    first
      | (obtain ⟨rfl, _⟩ := h; rfl)
      | (obtain ⟨_, rfl, _⟩ := h; rfl)
      | (obtain ⟨_, _, rfl, _⟩ := h; rfl)
      | (obtain ⟨_, _, _, rfl, _⟩ := h; rfl)
      | (obtain ⟨_, _, _, _, rfl, _⟩ := h; rfl)
      | (obtain ⟨_, _, _, _, _, rfl, _⟩ := h; rfl)
      | (obtain ⟨_, _, _, _, _, _, rfl, _⟩ := h; rfl)
      | (obtain ⟨_, _, _, _, _, _, _, rfl, _⟩ := h; rfl)
      | (obtain ⟨_, _, _, _, _, _, _, _, rfl, _⟩ := h; rfl)
      | (obtain ⟨_, _, _, _, _, _, _, _, _, rfl, _⟩ := h; rfl)
  have hu := hu_of hr
  have hu64 := hr.units
  have hu65 := hr.u65
  have nd := sc__law_others.nd
  exact ⟨t__law_others K, (pss_cons (ps_for pnever rfl (pi_list (e_lst (pa_cons pe_non (pa_cons pe_bl (pa_cons pe_int (pa_cons pe_int (pa_cons (e_lst pa_nil) (pa_cons (e_lst (pa_cons pe_str pa_nil)) (pa_cons (e_tup (pa_cons pe_str pa_nil)) (pa_cons e_dnew pa_nil)))))))))) (pg_name (i := 0) nd rfl (by first | exact Or.inl rfl | exact Or.inr rfl))
  (pss_one (s_if (PW.pt (w_or (t_not (t_val (c__law_says.pe (hr.mono (by decide)) pass0 (pa_cons (c_is_peg.pe (hr.mono (by decide)) pass0 (pa_cons (uv 0) pa_nil)) (pa_cons pe_bl pa_nil))))) (pw_or1 (t_not (t_val (c__law_says.pe (hr.mono (by decide)) pass0 (pa_cons (c_is_sighting.pe (hr.mono (by decide)) pass0 (pa_cons (uv 0) pa_nil)) (pa_cons pe_bl pa_nil))))))))
  (pss_one (ps_ret pe_bl))
  pss_nil)))
  (pss_one (ps_ret pe_bl))), rd__law_others h⟩
abbrev s_law : Stmt := top 14
theorem sc_law : FnScope N_law ["_law_script"] (defScope s_law) := ⟨rfl, rfl, rfl, by decide +kernel, rfl, by decide +kernel, by decide +kernel⟩
theorem ok_law {f : Addr} {fd : FuncData} (F : Fun K "law" "law" s_law f fd) (hm : mg "law" = some (.ref f)) (hb : Binds K fd ["_law_script"] []) (M : Mg mg) (c__law_text : Cal P w K mg base CX0 1 "_law_text" ["_law_number"] (sp__law_text K)) (c__law_says : Cal P w K mg base CX0 1 "_law_says" ["_law_found", "_law_due"] (sp__law_says K)) (c_is_peg : Cal P w K mg base CX0 1 "is_peg" ["thing"] (sp_is_peg K)) (c__law_spoiled : Cal P w K mg base CX0 1 "_law_spoiled" ["_law_one", "_law_other", "_law_rise", "_law_way"] (sp__law_spoiled K)) (c_is_sighting : Cal P w K mg base CX0 2 "is_sighting" ["thing"] (sp_is_sighting K)) (c_turned : Cal P w K mg base CX0 1 "turned" ["sighting"] (sp_turned K)) (c__law_alike : Cal P w K mg base CX0 2 "_law_alike" ["_law_found", "_law_due"] (sp__law_alike K)) (c__law_others : Cal P w K mg base CX0 3 "_law_others" [] (sp__law_others K)) :
    Cal P w K mg base CX0 4 "law" ["_law_script"] (sp_law K) := by
  refine ⟨f, fd, F.ok sc_law (fun vs H Q E h => ?_) (fun cdv A outer s H vs Q E hr h => ?_), hm, F.kp, hb⟩
  · unfold sp_law at h
    first
      | (obtain ⟨rfl, _⟩ := h; rfl)
      | (obtain ⟨_, rfl, _⟩ := h; rfl)
      | (obtain ⟨_, _, rfl, _⟩ := h; rfl)
      | (obtain ⟨_, _, _, rfl, _⟩ := h; rfl)
      | (obtain ⟨_, _, _, _, rfl, _⟩ := h; rfl)
      | (obtain ⟨_, _, _, _, _, rfl, _⟩ := h; rfl)
      | (obtain ⟨_, _, _, _, _, _, rfl, _⟩ := h; rfl)
      | (obtain ⟨_, _, _, _, _, _, _, rfl, _⟩ := h; rfl)
      | (obtain ⟨_, _, _, _, _, _, _, _, rfl, _⟩ := h; rfl)
      | (obtain ⟨_, _, _, _, _, _, _, _, _, rfl, _⟩ := h; rfl)
  have hu := hu_of hr
  have hu64 := hr.units
  have hu65 := hr.u65
  have nd := sc_law.nd
  exact ⟨t_law K, (pss_cons (ps_set (i := 1) nd rfl (by first | exact Or.inl rfl | exact Or.inr rfl) (e_tup (pa_cons pe_str (pa_cons pe_bl pa_nil))))
  (pss_cons (ps_for pnever rfl (pi_list (pe_slice s_list (uv 0) po_none (p_some pe_int))) (pg_name (i := 2) nd rfl (by first | exact Or.inl rfl | exact Or.inr rfl))
  (pss_cons (ps_set (i := 3) nd rfl (by first | exact Or.inl rfl | exact Or.inr rfl) (c__law_text.pe (hr.mono (by decide)) pass0 (pa_cons (pe_op o_mod (pe_op o_mul (uv 2) pe_int) (pe_op o_pow pe_int pe_int)) pa_nil)))
  (pss_cons (ps_set (i := 4) nd rfl (by first | exact Or.inl rfl | exact Or.inr rfl) (pe_op o_sub (pe_op o_mod (pe_op o_sub (pe_op o_add (uv 2) (pe_op o_pow pe_int pe_int)) pe_int) (pe_op o_sub (pe_op o_mul pe_int (pe_op o_pow pe_int pe_int)) pe_int)) (pe_op o_sub (pe_op o_pow pe_int pe_int) pe_int)))
  (pss_cons (ps_set (i := 5) nd rfl (by first | exact Or.inl rfl | exact Or.inr rfl) (pe_op o_mod (uv 2) pe_int))
  (Evl.pss_cut (s_if (t_cmp (c_op o_eqI (uv 5) pe_int))
  (pss_one (ps_set (i := 4) nd rfl (by first | exact Or.inl rfl | exact Or.inr rfl) (pe_ix x_list (e_lst (pa_cons (pe_op o_sub (pe_op o_pow pe_int pe_int) pe_int) (pa_cons (pe_op o_sub pe_int (pe_op o_pow pe_int pe_int)) pa_nil))) (pe_op o_mod (pe_op o_div (uv 2) pe_int) pe_int) plainIx)))
  pss_nil)
  (pss_cons (s_if (t_not (t_val (c__law_says.pe (hr.mono (by decide)) pass0 (pa_cons (c_is_peg.pe (hr.mono (by decide)) pass0 (pa_cons (pe_ix x_tup (uv 3) pe_int plainIx) pa_nil)) (pa_cons (pe_ix x_tup (uv 3) pe_int plainIx) pa_nil)))))
  (pss_one (ps_ret pe_bl))
  pss_nil)
  (Evl.pss_cut (s_if (t_cmp (c_op o_lt (uv 5) pe_int))
  (pss_cons (ps_set (i := 6) nd rfl (by first | exact Or.inl rfl | exact Or.inr rfl) (c__law_spoiled.pe (hr.mono (by decide)) pass0 (pa_cons (pe_ix x_tup (uv 1) pe_int plainIx) (pa_cons (pe_ix x_tup (uv 3) pe_int plainIx) (pa_cons (uv 4) (pa_cons (uv 5) pa_nil))))))
  (pss_one (s_if (t_not (t_val (c__law_says.pe (hr.mono (by decide)) pass0 (pa_cons (c_is_sighting.pe (hr.mono (by decide)) pass0 (pa_cons (uv 6) pa_nil)) (pa_cons pe_bl pa_nil)))))
  (pss_one (ps_ret pe_bl))
  pss_nil)))
  pss_nil)
  (pss_cons (ps_set (i := 7) nd rfl (by first | exact Or.inl rfl | exact Or.inr rfl) (e_tup (pa_cons (pe_ix x_tup (uv 1) pe_int plainIx) (pa_cons (pe_ix x_tup (uv 3) pe_int plainIx) (pa_cons (uv 4) pa_nil)))))
  (pss_cons (s_if (t_not (t_val (c__law_says.pe (hr.mono (by decide)) pass0 (pa_cons (c_is_sighting.pe (hr.mono (by decide)) pass0 (pa_cons (uv 7) pa_nil)) (pa_cons (v_and (pe_ix x_tup (uv 1) pe_int plainIx) (pe_one (pe_ix x_tup (uv 3) pe_int plainIx))) pa_nil)))))
  (pss_one (ps_ret pe_bl))
  pss_nil)
  (Evl.pss_cut (s_if (PW.pt (w_and (t_val (pe_ix x_tup (uv 1) pe_int plainIx)) (pw_and1 (t_val (pe_ix x_tup (uv 3) pe_int plainIx)))))
  (pss_cons (ps_set (i := 8) nd rfl (by first | exact Or.inl rfl | exact Or.inr rfl) (c_turned.pe (hr.mono (by decide)) pass0 (pa_cons (uv 7) pa_nil)))
  (pss_cons (s_if (t_not (t_val (c__law_alike.pe (hr.mono (by decide)) pass0 (pa_cons (uv 8) (pa_cons (e_tup (pa_cons (pe_ix x_tup (uv 3) pe_int plainIx) (pa_cons (pe_ix x_tup (uv 1) pe_int plainIx) (pa_cons (pe_op o_sub pe_int (uv 4)) pa_nil)))) pa_nil)))))
  (pss_one (ps_ret pe_bl))
  pss_nil)
  (pss_one (s_if (t_not (t_val (c__law_alike.pe (hr.mono (by decide)) pass0 (pa_cons (c_turned.pe (hr.mono (by decide)) pass0 (pa_cons (uv 8) pa_nil)) (pa_cons (uv 7) pa_nil)))))
  (pss_one (ps_ret pe_bl))
  pss_nil))))
  pss_nil)
  (pss_one (ps_set (i := 1) nd rfl (by first | exact Or.inl rfl | exact Or.inr rfl) (uv 3)))))))))))))
  (pss_one (ps_ret (c__law_others.pe0 (hr.mono (by decide)) pass0))))), rd_law h⟩
end
section
variable {P : Program} {w : World} {K : PySem.W.Frag} {mg : Str → Option Value} {base : Heap}
theorem fn_law {f : Addr} {fd : FuncData} (F : Fun K "law" "law" s_law f fd) (M : Mg mg) (c__law_text : Cal P w K mg base CX0 1 "_law_text" ["_law_number"] (sp__law_text K)) (c__law_says : Cal P w K mg base CX0 1 "_law_says" ["_law_found", "_law_due"] (sp__law_says K)) (c_is_peg : Cal P w K mg base CX0 1 "is_peg" ["thing"] (sp_is_peg K)) (c__law_spoiled : Cal P w K mg base CX0 1 "_law_spoiled" ["_law_one", "_law_other", "_law_rise", "_law_way"] (sp__law_spoiled K)) (c_is_sighting : Cal P w K mg base CX0 2 "is_sighting" ["thing"] (sp_is_sighting K)) (c_turned : Cal P w K mg base CX0 1 "turned" ["sighting"] (sp_turned K)) (c__law_alike : Cal P w K mg base CX0 2 "_law_alike" ["_law_found", "_law_due"] (sp__law_alike K)) (c__law_others : Cal P w K mg base CX0 3 "_law_others" [] (sp__law_others K)) :
    FnOk P w K mg base CX0 4 f fd ["_law_script"] (sp_law K) := by
  refine F.ok sc_law (fun vs H Q E h => ?_) (fun cdv A outer s H vs Q E hr h => ?_)
  · unfold sp_law at h
    first
      | (obtain ⟨rfl, _⟩ := h; rfl)
      | (obtain ⟨_, rfl, _⟩ := h; rfl)
      | (obtain ⟨_, _, rfl, _⟩ := h; rfl)
      | (obtain ⟨_, _, _, rfl, _⟩ := h; rfl)
      | (obtain ⟨_, _, _, _, rfl, _⟩ := h; rfl)
      | (obtain ⟨_, _, _, _, _, rfl, _⟩ := h; rfl)
      | (obtain ⟨_, _, _, _, _, _, rfl, _⟩ := h; rfl)
      | (obtain ⟨_, _, _, _, _, _, _, rfl, _⟩ := h; rfl)
      | (obtain ⟨_, _, _, _, _, _, _, _, rfl, _⟩ := h; rfl)
      | (obtain ⟨_, _, _, _, _, _, _, _, _, rfl, _⟩ := h; rfl)
  have hu := hu_of hr
  have hu64 := hr.units
  have hu65 := hr.u65
  have nd := sc_law.nd
  exact ⟨t_law K, (pss_cons (ps_set (i := 1) nd rfl (by first | exact Or.inl rfl | exact Or.inr rfl) (e_tup (pa_cons pe_str (pa_cons pe_bl pa_nil))))
  (pss_cons (ps_for pnever rfl (pi_list (pe_slice s_list (uv 0) po_none (p_some pe_int))) (pg_name (i := 2) nd rfl (by first | exact Or.inl rfl | exact Or.inr rfl))
  (pss_cons (ps_set (i := 3) nd rfl (by first | exact Or.inl rfl | exact Or.inr rfl) (c__law_text.pe (hr.mono (by decide)) pass0 (pa_cons (pe_op o_mod (pe_op o_mul (uv 2) pe_int) (pe_op o_pow pe_int pe_int)) pa_nil)))
  (pss_cons (ps_set (i := 4) nd rfl (by first | exact Or.inl rfl | exact Or.inr rfl) (pe_op o_sub (pe_op o_mod (pe_op o_sub (pe_op o_add (uv 2) (pe_op o_pow pe_int pe_int)) pe_int) (pe_op o_sub (pe_op o_mul pe_int (pe_op o_pow pe_int pe_int)) pe_int)) (pe_op o_sub (pe_op o_pow pe_int pe_int) pe_int)))
  (pss_cons (ps_set (i := 5) nd rfl (by first | exact Or.inl rfl | exact Or.inr rfl) (pe_op o_mod (uv 2) pe_int))
  (Evl.pss_cut (s_if (t_cmp (c_op o_eqI (uv 5) pe_int))
  (pss_one (ps_set (i := 4) nd rfl (by first | exact Or.inl rfl | exact Or.inr rfl) (pe_ix x_list (e_lst (pa_cons (pe_op o_sub (pe_op o_pow pe_int pe_int) pe_int) (pa_cons (pe_op o_sub pe_int (pe_op o_pow pe_int pe_int)) pa_nil))) (pe_op o_mod (pe_op o_div (uv 2) pe_int) pe_int) plainIx)))
  pss_nil)
  (pss_cons (s_if (t_not (t_val (c__law_says.pe (hr.mono (by decide)) pass0 (pa_cons (c_is_peg.pe (hr.mono (by decide)) pass0 (pa_cons (pe_ix x_tup (uv 3) pe_int plainIx) pa_nil)) (pa_cons (pe_ix x_tup (uv 3) pe_int plainIx) pa_nil)))))
  (pss_one (ps_ret pe_bl))
  pss_nil)
  (Evl.pss_cut (s_if (t_cmp (c_op o_lt (uv 5) pe_int))
  (pss_cons (ps_set (i := 6) nd rfl (by first | exact Or.inl rfl | exact Or.inr rfl) (c__law_spoiled.pe (hr.mono (by decide)) pass0 (pa_cons (pe_ix x_tup (uv 1) pe_int plainIx) (pa_cons (pe_ix x_tup (uv 3) pe_int plainIx) (pa_cons (uv 4) (pa_cons (uv 5) pa_nil))))))
  (pss_one (s_if (t_not (t_val (c__law_says.pe (hr.mono (by decide)) pass0 (pa_cons (c_is_sighting.pe (hr.mono (by decide)) pass0 (pa_cons (uv 6) pa_nil)) (pa_cons pe_bl pa_nil)))))
  (pss_one (ps_ret pe_bl))
  pss_nil)))
  pss_nil)
  (pss_cons (ps_set (i := 7) nd rfl (by first | exact Or.inl rfl | exact Or.inr rfl) (e_tup (pa_cons (pe_ix x_tup (uv 1) pe_int plainIx) (pa_cons (pe_ix x_tup (uv 3) pe_int plainIx) (pa_cons (uv 4) pa_nil)))))
  (pss_cons (s_if (t_not (t_val (c__law_says.pe (hr.mono (by decide)) pass0 (pa_cons (c_is_sighting.pe (hr.mono (by decide)) pass0 (pa_cons (uv 7) pa_nil)) (pa_cons (v_and (pe_ix x_tup (uv 1) pe_int plainIx) (pe_one (pe_ix x_tup (uv 3) pe_int plainIx))) pa_nil)))))
  (pss_one (ps_ret pe_bl))
  pss_nil)
  (Evl.pss_cut (s_if (PW.pt (w_and (t_val (pe_ix x_tup (uv 1) pe_int plainIx)) (pw_and1 (t_val (pe_ix x_tup (uv 3) pe_int plainIx)))))
  (pss_cons (ps_set (i := 8) nd rfl (by first | exact Or.inl rfl | exact Or.inr rfl) (c_turned.pe (hr.mono (by decide)) pass0 (pa_cons (uv 7) pa_nil)))
  (pss_cons (s_if (t_not (t_val (c__law_alike.pe (hr.mono (by decide)) pass0 (pa_cons (uv 8) (pa_cons (e_tup (pa_cons (pe_ix x_tup (uv 3) pe_int plainIx) (pa_cons (pe_ix x_tup (uv 1) pe_int plainIx) (pa_cons (pe_op o_sub pe_int (uv 4)) pa_nil)))) pa_nil)))))
  (pss_one (ps_ret pe_bl))
  pss_nil)
  (pss_one (s_if (t_not (t_val (c__law_alike.pe (hr.mono (by decide)) pass0 (pa_cons (c_turned.pe (hr.mono (by decide)) pass0 (pa_cons (uv 8) pa_nil)) (pa_cons (uv 7) pa_nil)))))
  (pss_one (ps_ret pe_bl))
  pss_nil))))
  pss_nil)
  (pss_one (ps_set (i := 1) nd rfl (by first | exact Or.inl rfl | exact Or.inr rfl) (uv 3)))))))))))))
  (pss_one (ps_ret (c__law_others.pe0 (hr.mono (by decide)) pass0))))), rd_law h⟩
end
theorem all_mk {l : PySem.W.OpenLaw} {w : World} {K : PySem.W.Frag} {h : Heap} {mg : Str → Option Value} {fa : Addr} {f0 : Addr} {od0 an0 : Option Addr} {sl0 : Array (Option Value)} {oc0 kV0 dc0 pm0 cd0 ct0 : Value} {f1 : Addr} {od1 an1 : Option Addr} {sl1 : Array (Option Value)} {oc1 kV1 dc1 pm1 cd1 ct1 : Value} {f2 : Addr} {od2 an2 : Option Addr} {sl2 : Array (Option Value)} {oc2 kV2 dc2 pm2 cd2 ct2 : Value} {f3 : Addr} {od3 an3 : Option Addr} {sl3 : Array (Option Value)} {oc3 kV3 dc3 pm3 cd3 ct3 : Value} {f4 : Addr} {od4 an4 : Option Addr} {sl4 : Array (Option Value)} {oc4 kV4 dc4 pm4 cd4 ct4 : Value} {f5 : Addr} {od5 an5 : Option Addr} {sl5 : Array (Option Value)} {oc5 kV5 dc5 pm5 cd5 ct5 : Value} {f6 : Addr} {od6 an6 : Option Addr} {sl6 : Array (Option Value)} {oc6 kV6 dc6 pm6 cd6 ct6 : Value} {f7 : Addr} {od7 an7 : Option Addr} {sl7 : Array (Option Value)} {oc7 kV7 dc7 pm7 cd7 ct7 : Value} {f8 : Addr} {od8 an8 : Option Addr} {sl8 : Array (Option Value)} {oc8 kV8 dc8 pm8 cd8 ct8 : Value} {f9 : Addr} {od9 an9 : Option Addr} {sl9 : Array (Option Value)} {oc9 kV9 dc9 pm9 cd9 ct9 : Value} {f10 : Addr} {od10 an10 : Option Addr} {sl10 : Array (Option Value)} {oc10 kV10 dc10 pm10 cd10 ct10 : Value} {tk_LETTERS : Tok} {tk_BOUND : Tok} (X : K.In h) (G : h.Ns mainGlobals mg) (hfa : mg "law" = some (.ref fa))
    (a0 : PySem.W.nsIn K mainGlobals "is_whole" = some (some (.ref f0))) (l0 : K.lookup f0 = some ⟨oc0, od0, .func (PySem.W.fnOf "is_whole" "is_whole" (defArgs s_is_whole) (defBody s_is_whole) (defScope s_is_whole) .none kV0 dc0 pm0 an0 cd0 ct0), sl0⟩) (c0 : PySem.W.codeIn K cd0 "is_whole" = true) (k0 : PySem.W.keepIn K (.ref f0) = true)
    (a1 : PySem.W.nsIn K mainGlobals "is_peg" = some (some (.ref f1))) (l1 : K.lookup f1 = some ⟨oc1, od1, .func (PySem.W.fnOf "is_peg" "is_peg" (defArgs s_is_peg) (defBody s_is_peg) (defScope s_is_peg) .none kV1 dc1 pm1 an1 cd1 ct1), sl1⟩) (c1 : PySem.W.codeIn K cd1 "is_peg" = true) (k1 : PySem.W.keepIn K (.ref f1) = true)
    (a2 : PySem.W.nsIn K mainGlobals "is_sighting" = some (some (.ref f2))) (l2 : K.lookup f2 = some ⟨oc2, od2, .func (PySem.W.fnOf "is_sighting" "is_sighting" (defArgs s_is_sighting) (defBody s_is_sighting) (defScope s_is_sighting) .none kV2 dc2 pm2 an2 cd2 ct2), sl2⟩) (c2 : PySem.W.codeIn K cd2 "is_sighting" = true) (k2 : PySem.W.keepIn K (.ref f2) = true)
    (a3 : PySem.W.nsIn K mainGlobals "turned" = some (some (.ref f3))) (l3 : K.lookup f3 = some ⟨oc3, od3, .func (PySem.W.fnOf "turned" "turned" (defArgs s_turned) (defBody s_turned) (defScope s_turned) .none kV3 dc3 pm3 an3 cd3 ct3), sl3⟩) (c3 : PySem.W.codeIn K cd3 "turned" = true) (k3 : PySem.W.keepIn K (.ref f3) = true)
    (a4 : PySem.W.nsIn K mainGlobals "_law_text" = some (some (.ref f4))) (l4 : K.lookup f4 = some ⟨oc4, od4, .func (PySem.W.fnOf "_law_text" "_law_text" (defArgs s__law_text) (defBody s__law_text) (defScope s__law_text) .none kV4 dc4 pm4 an4 cd4 ct4), sl4⟩) (c4 : PySem.W.codeIn K cd4 "_law_text" = true) (k4 : PySem.W.keepIn K (.ref f4) = true)
    (a5 : PySem.W.nsIn K mainGlobals "_law_spoiled" = some (some (.ref f5))) (l5 : K.lookup f5 = some ⟨oc5, od5, .func (PySem.W.fnOf "_law_spoiled" "_law_spoiled" (defArgs s__law_spoiled) (defBody s__law_spoiled) (defScope s__law_spoiled) .none kV5 dc5 pm5 an5 cd5 ct5), sl5⟩) (c5 : PySem.W.codeIn K cd5 "_law_spoiled" = true) (k5 : PySem.W.keepIn K (.ref f5) = true)
    (a6 : PySem.W.nsIn K mainGlobals "_law_says" = some (some (.ref f6))) (l6 : K.lookup f6 = some ⟨oc6, od6, .func (PySem.W.fnOf "_law_says" "_law_says" (defArgs s__law_says) (defBody s__law_says) (defScope s__law_says) .none kV6 dc6 pm6 an6 cd6 ct6), sl6⟩) (c6 : PySem.W.codeIn K cd6 "_law_says" = true) (k6 : PySem.W.keepIn K (.ref f6) = true)
    (a7 : PySem.W.nsIn K mainGlobals "_law_whole" = some (some (.ref f7))) (l7 : K.lookup f7 = some ⟨oc7, od7, .func (PySem.W.fnOf "_law_whole" "_law_whole" (defArgs s__law_whole) (defBody s__law_whole) (defScope s__law_whole) .none kV7 dc7 pm7 an7 cd7 ct7), sl7⟩) (c7 : PySem.W.codeIn K cd7 "_law_whole" = true) (k7 : PySem.W.keepIn K (.ref f7) = true)
    (a8 : PySem.W.nsIn K mainGlobals "_law_alike" = some (some (.ref f8))) (l8 : K.lookup f8 = some ⟨oc8, od8, .func (PySem.W.fnOf "_law_alike" "_law_alike" (defArgs s__law_alike) (defBody s__law_alike) (defScope s__law_alike) .none kV8 dc8 pm8 an8 cd8 ct8), sl8⟩) (c8 : PySem.W.codeIn K cd8 "_law_alike" = true) (k8 : PySem.W.keepIn K (.ref f8) = true)
    (a9 : PySem.W.nsIn K mainGlobals "_law_others" = some (some (.ref f9))) (l9 : K.lookup f9 = some ⟨oc9, od9, .func (PySem.W.fnOf "_law_others" "_law_others" (defArgs s__law_others) (defBody s__law_others) (defScope s__law_others) .none kV9 dc9 pm9 an9 cd9 ct9), sl9⟩) (c9 : PySem.W.codeIn K cd9 "_law_others" = true) (k9 : PySem.W.keepIn K (.ref f9) = true)
    (a10 : PySem.W.nsIn K mainGlobals "law" = some (some (.ref f10))) (l10 : K.lookup f10 = some ⟨oc10, od10, .func (PySem.W.fnOf "law" "law" (defArgs s_law) (defBody s_law) (defScope s_law) .none kV10 dc10 pm10 an10 cd10 ct10), sl10⟩) (c10 : PySem.W.codeIn K cd10 "law" = true) (k10 : PySem.W.keepIn K (.ref f10) = true)
    (z_int : PySem.W.nsIn K mainGlobals "int" = some none)
    (z_isinstance : PySem.W.nsIn K mainGlobals "isinstance" = some none)
    (z_bool : PySem.W.nsIn K mainGlobals "bool" = some none)
    (z_str : PySem.W.nsIn K mainGlobals "str" = some none)
    (z_len : PySem.W.nsIn K mainGlobals "len" = some none)
    (z_tuple : PySem.W.nsIn K mainGlobals "tuple" = some none)
    (z_abs : PySem.W.nsIn K mainGlobals "abs" = some none)
    (z_range : PySem.W.nsIn K mainGlobals "range" = some none)
    (z_LETTERS : PySem.W.nsIn K mainGlobals "LETTERS" = some (some (.str "abcdefghijklmnopqrstuvwxyz" tk_LETTERS)))
    (z_BOUND : PySem.W.nsIn K mainGlobals "BOUND" = some (some (.int (10 ^ 60) tk_BOUND))) :
    ∃ fd : FuncData, (∀ (s : Shared) (v : Value), BindsTo s fd ⟨[v], []⟩ [("_law_script", v)]) ∧ ∀ base : Heap, K.In base → base.Ns mainGlobals mg → FnOk l.prog w K mg base CX0 4 fa fd ["_law_script"] (sp_law K) := by
  have e := hfa.symm.trans (PySem.W.mg_of X G a10)
  cases e
  have M : Mg mg := ⟨PySem.W.mg_none_of X G z_int, PySem.W.mg_none_of X G z_isinstance, PySem.W.mg_none_of X G z_bool, PySem.W.mg_none_of X G z_str, PySem.W.mg_none_of X G z_len, PySem.W.mg_none_of X G z_tuple, PySem.W.mg_none_of X G z_abs, PySem.W.mg_none_of X G z_range, ⟨_, PySem.W.mg_of X G z_LETTERS⟩, ⟨_, PySem.W.mg_of X G z_BOUND⟩⟩
  have F0 := fun_mk (st := s_is_whole) l0 c0 k0
  have b0 := F0.binds (ps := ["thing"]) fun _ _ _ _ _ _ us hl => match us, hl with | [_], _ => rfl
  have F1 := fun_mk (st := s_is_peg) l1 c1 k1
  have b1 := F1.binds (ps := ["thing"]) fun _ _ _ _ _ _ us hl => match us, hl with | [_], _ => rfl
  have F2 := fun_mk (st := s_is_sighting) l2 c2 k2
  have b2 := F2.binds (ps := ["thing"]) fun _ _ _ _ _ _ us hl => match us, hl with | [_], _ => rfl
  have F3 := fun_mk (st := s_turned) l3 c3 k3
  have b3 := F3.binds (ps := ["sighting"]) fun _ _ _ _ _ _ us hl => match us, hl with | [_], _ => rfl
  have F4 := fun_mk (st := s__law_text) l4 c4 k4
  have b4 := F4.binds (ps := ["_law_number"]) fun _ _ _ _ _ _ us hl => match us, hl with | [_], _ => rfl
  have F5 := fun_mk (st := s__law_spoiled) l5 c5 k5
  have b5 := F5.binds (ps := ["_law_one", "_law_other", "_law_rise", "_law_way"]) fun _ _ _ _ _ _ us hl => match us, hl with | [_, _, _, _], _ => rfl
  have F6 := fun_mk (st := s__law_says) l6 c6 k6
  have b6 := F6.binds (ps := ["_law_found", "_law_due"]) fun _ _ _ _ _ _ us hl => match us, hl with | [_, _], _ => rfl
  have F7 := fun_mk (st := s__law_whole) l7 c7 k7
  have b7 := F7.binds (ps := ["_law_found"]) fun _ _ _ _ _ _ us hl => match us, hl with | [_], _ => rfl
  have F8 := fun_mk (st := s__law_alike) l8 c8 k8
  have b8 := F8.binds (ps := ["_law_found", "_law_due"]) fun _ _ _ _ _ _ us hl => match us, hl with | [_, _], _ => rfl
  have F9 := fun_mk (st := s__law_others) l9 c9 k9
  have b9 := F9.binds (ps := []) fun _ _ _ _ _ _ us hl => match us, hl with | [], _ => rfl
  have F10 := fun_mk (st := s_law) l10 c10 k10
  have b10 := F10.binds (ps := ["_law_script"]) fun _ _ _ _ _ _ us hl => match us, hl with | [_], _ => rfl
  refine ⟨PySem.W.fnOf "law" "law" (defArgs s_law) (defBody s_law) (defScope s_law) .none kV10 dc10 pm10 an10 cd10 ct10, fun s v => .of_eq rfl, fun base _ _ => ?_⟩
  have C_is_whole := ok_is_whole (P := l.prog) (w := w) (base := base) F0 (PySem.W.mg_of X G a0) b0 M 
  have C_is_peg := ok_is_peg (P := l.prog) (w := w) (base := base) F1 (PySem.W.mg_of X G a1) b1 M 
  have C_is_sighting := ok_is_sighting (P := l.prog) (w := w) (base := base) F2 (PySem.W.mg_of X G a2) b2 M C_is_peg C_is_whole
  have C_turned := ok_turned (P := l.prog) (w := w) (base := base) F3 (PySem.W.mg_of X G a3) b3 M 
  have C__law_text := ok__law_text (P := l.prog) (w := w) (base := base) F4 (PySem.W.mg_of X G a4) b4 M 
  have C__law_spoiled := ok__law_spoiled (P := l.prog) (w := w) (base := base) F5 (PySem.W.mg_of X G a5) b5 M 
  have C__law_says := ok__law_says (P := l.prog) (w := w) (base := base) F6 (PySem.W.mg_of X G a6) b6 M 
  have C__law_whole := ok__law_whole (P := l.prog) (w := w) (base := base) F7 (PySem.W.mg_of X G a7) b7 M 
  have C__law_alike := ok__law_alike (P := l.prog) (w := w) (base := base) F8 (PySem.W.mg_of X G a8) b8 M C__law_whole
  have C__law_others := ok__law_others (P := l.prog) (w := w) (base := base) F9 (PySem.W.mg_of X G a9) b9 M C__law_says C_is_peg C_is_sighting
  exact fn_law F10 M C__law_text C__law_says C_is_peg C__law_spoiled C_is_sighting C_turned C__law_alike C__law_others
theorem walk {l : PySem.W.OpenLaw} {q : Program} {loose : List Str} {XP : (Str → Option Value) → Heap → Prop} {YP : World → Heap → Prop} {d : DefRec} {K : Params → PySem.W.Frag} (hn : l.most = some 63) (hdf : d.params.defaults = [])
    (hY : ∀ (w : World) (h : Heap), YP w h → (K w.params).In h)
    (F : ∀ (w : World) (mg : Str → Option Value) (fa : Addr) (h : Heap), (K w.params).In h → h.Ns mainGlobals mg → mg d.name = some (.ref fa) →
      ∃ fd : FuncData, (∀ (s : Shared) (u : Value), BindsTo s fd ⟨[u], []⟩ [("_law_script", u)]) ∧ ∀ base : Heap, (K w.params).In base → base.Ns mainGlobals mg → FnOk l.prog w (K w.params) mg base CX0 4 fa fd ["_law_script"] (sp_law (K w.params))) :
    PySem.W.WalkO q loose XP YP l.row.toRowW d [] (fun f vs => PySem.call f vs) :=
  L2.walk_of (n := 63) (k := 4) (x := "_law_script") (CX := fun _ => CX0) (sp := fun w => sp_law (K w.params)) hn (by decide) hdf ⟨rfl, by decide, by decide⟩ hY F (fun _ _ a ns hl _ hS => ⟨a, ns, rfl, hS, hl, fun _ => rfl⟩) fun _ _ _ _ _ z => z
end Peg
open PySem PySem.W PyProof.Rows
set_option maxRecDepth 100000 in
set_option maxHeartbeats 0 in
theorem PySem.Challenge.cw_pegrise_k01_pegs_and_sightings_holds : PySem.Challenge.rw_pegrise_k01_pegs_and_sightings.Holds := by
  w_on; o_law; k_head; (case hw => w_witness2)
  k_fill
  refine Peg.walk (l := PySem.Challenge.rw_pegrise_k01_pegs_and_sightings) rfl rfl (fun w h Y => PySem.W.kIn_of Y) ?F
  case F =>
    intro w mg fa h KX G hmg
    refine' Peg.all_mk KX G hmg ?a0 ?l0 ?c0 ?k0 ?a1 ?l1 ?c1 ?k1 ?a2 ?l2 ?c2 ?k2 ?a3 ?l3 ?c3 ?k3 ?a4 ?l4 ?c4 ?k4 ?a5 ?l5 ?c5 ?k5 ?a6 ?l6 ?c6 ?k6 ?a7 ?l7 ?c7 ?k7 ?a8 ?l8 ?c8 ?k8 ?a9 ?l9 ?c9 ?k9 ?a10 ?l10 ?c10 ?k10 ?z_int ?z_isinstance ?z_bool ?z_str ?z_len ?z_tuple ?z_abs ?z_range ?z_LETTERS ?z_BOUND
    (case a0 => k_is)
    (case l0 => k_is)
    (case c0 => k_is)
    (case k0 => k_is)
    (case a1 => k_is)
    (case l1 => k_is)
    (case c1 => k_is)
    (case k1 => k_is)
    (case a2 => k_is)
    (case l2 => k_is)
    (case c2 => k_is)
    (case k2 => k_is)
    (case a3 => k_is)
    (case l3 => k_is)
    (case c3 => k_is)
    (case k3 => k_is)
    (case a4 => k_is)
    (case l4 => k_is)
    (case c4 => k_is)
    (case k4 => k_is)
    (case a5 => k_is)
    (case l5 => k_is)
    (case c5 => k_is)
    (case k5 => k_is)
    (case a6 => k_is)
    (case l6 => k_is)
    (case c6 => k_is)
    (case k6 => k_is)
    (case a7 => k_is)
    (case l7 => k_is)
    (case c7 => k_is)
    (case k7 => k_is)
    (case a8 => k_is)
    (case l8 => k_is)
    (case c8 => k_is)
    (case k8 => k_is)
    (case a9 => k_is)
    (case l9 => k_is)
    (case c9 => k_is)
    (case k9 => k_is)
    (case a10 => k_is)
    (case l10 => k_is)
    (case c10 => k_is)
    (case k10 => k_is)
    (case z_int => k_is)
    (case z_isinstance => k_is)
    (case z_bool => k_is)
    (case z_str => k_is)
    (case z_len => k_is)
    (case z_tuple => k_is)
    (case z_abs => k_is)
    (case z_range => k_is)
    (case z_LETTERS => k_is)
    (case z_BOUND => k_is)

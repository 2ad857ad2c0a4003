import PyProof.Rows.All
import Wide.All
import OpenK.AllK
import Wide.FinOn
import HandS.ForMost
import HandS.IsInst
import HandS.SetKeys
import HandS.Deep
import HandS.More
import HandS.Wide
import HandS.Style
import HandS.Defaults
import HandS.Evl
import HandS.Rev
import KE.KItemsList
import HandS.Zip
import HandS.Walk
import KE.GoesEnum
import KE.GoesMore
import HandS.Text
import KE.IntTextLaws
import HandS.ExcInit
import HandS.ExcField
import HandS.ClsMeth
import HandS.SetFor
import HandS.TupAny
import KE.DataFind
import HandS.ForExc
import HandS.ExcOwn
import HandS.ExcIs
import HandS.ExcValue
import HandS.TryOnly
import HandS.TryMany
import HandS.WordsExc
import KE.KDictList
import HandS.Sort
import PySem.Challenge.RW_pegrise_k09_whole_deeds
set_option Elab.async false
set_option linter.all false
set_option maxRecDepth 100000
set_option maxHeartbeats 4000000
/-! PegU: readings that compute. -/
namespace U
open PySem PySem.Spec PyProof.Rows L2

/-! ### weaker readings -/
theorem pe_imp {X : Cx} {e : Expr} {t t' : TE} (h : PE X e t) (w : ∀ σ H Q, t' σ H Q → t σ H Q) : PE X e t' := ⟨fun pins s σ H Q I q => h.run pins s σ H Q I (w σ H Q q)⟩
theorem pt_imp {X : Cx} {e : Expr} {t t' : TT} (h : PT X e t) (w : ∀ σ H Q, t' σ H Q → t σ H Q) : PT X e t' := ⟨fun pins s σ H Q I q => h.run pins s σ H Q I (w σ H Q q)⟩
theorem op_imp {X : Cx} {f : Value → Value → Sem Value} {r r' : R2} (h : OpR X f r) (w : ∀ x y H Q, r' x y H Q → r x y H Q) : OpR X f r' := fun pins s σ H x y v u Q I rx ry q => h pins s σ H x y v u Q I rx ry (w x y H Q q)
theorem un_imp {X : Cx} {f : Value → Sem Value} {r r' : V → Hp → VK → Prop} (h : UnR X f r) (w : ∀ x H Q, r' x H Q → r x H Q) : UnR X f r' := fun pins s σ H x v Q I rx q => h pins s σ H x v Q I rx (w x H Q q)
theorem ix_imp {X : Cx} {r r' : R2} (h : IxR X r) (w : ∀ x y H Q, r' x y H Q → r x y H Q) : IxR X r' := fun value slice pins s σ H x y v u Q I rx ry q hs => h value slice pins s σ H x y v u Q I rx ry (w x y H Q q) hs
theorem call_imp {X : Cx} {f : Value} {r r' : List V → Hp → VK → Prop} (h : CallR X f r) (w : ∀ xs H Q, r' xs H Q → r xs H Q) : CallR X f r' := fun pins s σ H xs us Q I rx q => h pins s σ H xs us Q I rx (w xs H Q q)
theorem mt_imp {X : Cx} {id : String} {r r' : V → List V → Hp → VK → Prop} (h : MtR X id r) (w : ∀ x xs H Q, r' x xs H Q → r x xs H Q) : MtR X id r' := fun pins s σ H x xs v us Q I rx rxs q => h pins s σ H x xs v us Q I rx rxs (w x xs H Q q)
theorem sl_imp {X : Cx} {r r' : V → Option Int → Option Int → Hp → VK → Prop} (h : SlR X r) (w : ∀ x l u H Q, r' x l u H Q → r x l u H Q) : SlR X r' := fun pins s σ H x v vl vu lo hi sl Q I rx a b c q => h pins s σ H x v vl vu lo hi sl Q I rx a b c (w x lo hi H Q q)

/-! ### what is new, what is changed: the heap behind is a letter -/
def Chd (p : Addr) (H H' : Hp) : Prop := ∀ b o, b ≠ p → H b = some o → H' b = some o
abbrev New (H : Hp) (o : HO) (k : Addr → Hp → Prop) : Prop := ∀ (p : Addr) (H2 : Hp), H p = none → Same H H2 → H2 p = some o → k p H2
abbrev Chg (p : Addr) (H : Hp) (o : HO) (k : Hp → Prop) : Prop := ∀ (H2 : Hp), Chd p H H2 → H2 p = some o → k H2
theorem same_upd {H : Hp} {p : Addr} {o : HO} (h : H p = none) : Same H (upd H p o) := fun a u e => by
  rw [upd_ne (ne_of_none e h)]
  exact e
theorem chd_upd {H : Hp} {p : Addr} {o : HO} : Chd p H (upd H p o) := fun a u ne e => by
  rw [upd_ne ne]
  exact e
theorem New.at {H : Hp} {o : HO} {k : Addr → Hp → Prop} (h : New H o k) : ∀ p, H p = none → k p (upd H p o) := fun p hp => h p _ hp (same_upd hp) upd_same
theorem Chg.at {H : Hp} {p : Addr} {o : HO} {k : Hp → Prop} (h : Chg p H o k) : k (upd H p o) := h _ chd_upd upd_same

/-! ### slots -/
def uVar (i : Nat) : TE := fun σ H Q => match σ[i]? with
  | some (some v) => Q v H
  | _ => False
theorem var_imp {i : Nat} {σ : L2.St} {H : Hp} {Q : VK} (h : uVar i σ H Q) : tVar i σ H Q := by
  unfold uVar at h
  split at h
  · exact ⟨_, by assumption, h⟩
  · exact h.elim
theorem uv {X : Cx} (i : Nat) {x : Str} {pos : Pos} (hN : X.N[i]? = some x := by rfl) (hv : Vis X.env.scope x := by first | exact Or.inl rfl | exact Or.inr (Or.inl rfl) | exact Or.inr (Or.inr rfl)) (hd : (x == ("__debug__" : Str)) = false := by decide)
    (hcd : (x == ("__classdict__" : Str)) = false := by decide) : PE X (.Name x pos) (uVar i) := pe_imp (pe_var hN hv hd hcd) fun _ _ _ => var_imp

/-! ### two ints, two texts, two truths -/
def cII (g : Int → Int → V) : R2 := fun x y H Q => match x, y with
  | .int i, .int j => Q (g i j) H
  | _, _ => False
def cIIc (C : Int → Int → Prop) (g : Int → Int → V) : R2 := fun x y H Q => match x, y with
  | .int i, .int j => C i j ∧ Q (g i j) H
  | _, _ => False
/-- a bound on the second one alone -/
def cIJ (C : Int → Prop) (g : Int → Int → V) : R2 := fun x y H Q => match x, y with
  | .int i, .int j => C j ∧ Q (g i j) H
  | _, _ => False
def cSS (g : Str → Str → V) : R2 := fun x y H Q => match x, y with
  | .str i, .str j => Q (g i j) H
  | _, _ => False
def cBB (g : Bool → Bool → V) : R2 := fun x y H Q => match x, y with
  | .bl i, .bl j => Q (g i j) H
  | _, _ => False
theorem cII_ok {X : Cx} {f : Value → Value → Sem Value} {g : Int → Int → V} (h : OpR X f (rI0 g)) : OpR X f (cII g) := op_imp h fun x y H Q q => by
  cases x <;> cases y <;> first | exact ⟨_, _, rfl, rfl, q⟩ | exact False.elim q
theorem cIIc_ok {X : Cx} {f : Value → Value → Sem Value} {C : Int → Int → Prop} {g : Int → Int → V} (h : OpR X f (rI C g)) : OpR X f (cIIc C g) := op_imp h fun x y H Q q => by
  cases x <;> cases y <;> first | exact ⟨_, _, rfl, rfl, q⟩ | exact False.elim q
def kAdd : R2 := fun x y H Q => match x, y with
  | .int i, .int j => Q (.int (i + j)) H
  | _, _ => False
def kSub : R2 := fun x y H Q => match x, y with
  | .int i, .int j => Q (.int (i - j)) H
  | _, _ => False
def kMul : R2 := fun x y H Q => match x, y with
  | .int i, .int j => CMul i j ∧ Q (.int (i * j)) H
  | _, _ => False
def kMulW : R2 := fun x y H Q => match x, y with
  | .int i, .int j => CMulW i j ∧ Q (.int (i * j)) H
  | _, _ => False
def kMod : R2 := fun x y H Q => match x, y with
  | .int i, .int j => (0 < j) ∧ Q (.int (i % j)) H
  | _, _ => False
def kDiv : R2 := fun x y H Q => match x, y with
  | .int i, .int j => (0 < j ∧ j < 1073741824) ∧ Q (.int (i / j)) H
  | _, _ => False
def kPow : R2 := fun x y H Q => match x, y with
  | .int i, .int j => CPow i j ∧ Q (.int (i ^ j.toNat)) H
  | _, _ => False
def kLt : R2 := fun x y H Q => match x, y with
  | .int i, .int j => Q (.bl (decide (i < j))) H
  | _, _ => False
def kLe : R2 := fun x y H Q => match x, y with
  | .int i, .int j => Q (.bl (decide (i ≤ j))) H
  | _, _ => False
def kGt : R2 := fun x y H Q => match x, y with
  | .int i, .int j => Q (.bl (decide (j < i))) H
  | _, _ => False
def kGe : R2 := fun x y H Q => match x, y with
  | .int i, .int j => Q (.bl (decide (j ≤ i))) H
  | _, _ => False
def kEqI : R2 := fun x y H Q => match x, y with
  | .int i, .int j => Q (.bl (decide (i = j))) H
  | _, _ => False
def kNeI : R2 := fun x y H Q => match x, y with
  | .int i, .int j => Q (.bl (!decide (i = j))) H
  | _, _ => False
def kEqS : R2 := fun x y H Q => match x, y with
  | .str i, .str j => Q (.bl (decide (i = j))) H
  | _, _ => False
def kNeS : R2 := fun x y H Q => match x, y with
  | .str i, .str j => Q (.bl (!decide (i = j))) H
  | _, _ => False
def kEqB : R2 := fun x y H Q => match x, y with
  | .bl i, .bl j => Q (.bl (decide (i = j))) H
  | _, _ => False
def kNeB : R2 := fun x y H Q => match x, y with
  | .bl i, .bl j => Q (.bl (!decide (i = j))) H
  | _, _ => False
def kLtS : R2 := fun x y H Q => match x, y with
  | .str i, .str j => Q (.bl (decide (i.cps.toList < j.cps.toList))) H
  | _, _ => False
theorem cIJ_ok {X : Cx} {f : Value → Value → Sem Value} {C : Int → Int → Prop} {C' : Int → Prop} {g : Int → Int → V} (h : OpR X f (rI C g)) (w : ∀ i j, C' j → C i j) : OpR X f (cIJ C' g) := op_imp h fun x y H Q q => by
  cases x <;> cases y <;> first | exact ⟨_, _, rfl, rfl, w _ _ q.1, q.2⟩ | exact False.elim q
section
variable {X : Cx}
theorem o_add : OpR X (binaryOp .Add) kAdd := op_imp op_add fun x y H Q q => by
  cases x <;> cases y <;> first | exact ⟨_, _, rfl, rfl, q⟩ | exact False.elim q
theorem o_sub : OpR X (binaryOp .Sub) kSub := op_imp op_sub fun x y H Q q => by
  cases x <;> cases y <;> first | exact ⟨_, _, rfl, rfl, q⟩ | exact False.elim q
theorem o_mul : OpR X (binaryOp .Mult) kMul := op_imp op_mul fun x y H Q q => by
  cases x <;> cases y <;> first | exact ⟨_, _, rfl, rfl, q⟩ | exact False.elim q
theorem o_mulW : OpR X (binaryOp .Mult) kMulW := op_imp op_mulW fun x y H Q q => by
  cases x <;> cases y <;> first | exact ⟨_, _, rfl, rfl, q⟩ | exact False.elim q
theorem o_mod : OpR X (binaryOp .Mod) kMod := op_imp op_mod fun x y H Q q => by
  cases x <;> cases y <;> first | exact ⟨_, _, rfl, rfl, q⟩ | exact False.elim q
theorem o_div : OpR X (binaryOp .FloorDiv) kDiv := op_imp op_fdiv fun x y H Q q => by
  cases x <;> cases y <;> first | exact ⟨_, _, rfl, rfl, q⟩ | exact False.elim q
def kDivW : R2 := fun x y H Q => match x, y with
  | .int i, .int j => CDivW i j ∧ Q (.int (i / j)) H
  | _, _ => False
theorem o_divW : OpR X (binaryOp .FloorDiv) kDivW := op_imp op_fdivW fun x y H Q q => by
  cases x <;> cases y <;> first | exact ⟨_, _, rfl, rfl, q⟩ | exact False.elim q
theorem o_pow : OpR X (binaryOp .Pow) kPow := op_imp op_pow fun x y H Q q => by
  cases x <;> cases y <;> first | exact ⟨_, _, rfl, rfl, q⟩ | exact False.elim q
theorem o_lt : OpR X (compareOp .Lt) kLt := op_imp op_lt fun x y H Q q => by
  cases x <;> cases y <;> first | exact ⟨_, _, rfl, rfl, q⟩ | exact False.elim q
theorem o_le : OpR X (compareOp .LtE) kLe := op_imp op_le fun x y H Q q => by
  cases x <;> cases y <;> first | exact ⟨_, _, rfl, rfl, q⟩ | exact False.elim q
theorem o_gt : OpR X (compareOp .Gt) kGt := op_imp op_gt fun x y H Q q => by
  cases x <;> cases y <;> first | exact ⟨_, _, rfl, rfl, q⟩ | exact False.elim q
theorem o_ge : OpR X (compareOp .GtE) kGe := op_imp op_ge fun x y H Q q => by
  cases x <;> cases y <;> first | exact ⟨_, _, rfl, rfl, q⟩ | exact False.elim q
theorem o_eqI : OpR X (compareOp .Eq) kEqI := op_imp op_eq fun x y H Q q => by
  cases x <;> cases y <;> first
    | (refine ⟨rfl, ?_⟩; rw [dec_int, Bool.beq_eq_decide_eq]; exact q)
    | exact False.elim q
theorem o_neI : OpR X (compareOp .NotEq) kNeI := op_imp op_ne fun x y H Q q => by
  cases x <;> cases y <;> first
    | (refine ⟨rfl, ?_⟩; rw [dec_int, Bool.beq_eq_decide_eq]; exact q)
    | exact False.elim q
theorem o_eqS : OpR X (compareOp .Eq) kEqS := op_imp op_eq fun x y H Q q => by
  cases x <;> cases y <;> first
    | (refine ⟨rfl, ?_⟩; rw [dec_str, Bool.beq_eq_decide_eq]; exact q)
    | exact False.elim q
theorem o_neS : OpR X (compareOp .NotEq) kNeS := op_imp op_ne fun x y H Q q => by
  cases x <;> cases y <;> first
    | (refine ⟨rfl, ?_⟩; rw [dec_str, Bool.beq_eq_decide_eq]; exact q)
    | exact False.elim q
theorem o_eqB : OpR X (compareOp .Eq) kEqB := op_imp op_eq fun x y H Q q => by
  cases x <;> cases y <;> first
    | (refine ⟨rfl, ?_⟩; rw [dec_bl, Bool.beq_eq_decide_eq]; exact q)
    | exact False.elim q
theorem o_neB : OpR X (compareOp .NotEq) kNeB := op_imp op_ne fun x y H Q q => by
  cases x <;> cases y <;> first
    | (refine ⟨rfl, ?_⟩; rw [dec_bl, Bool.beq_eq_decide_eq]; exact q)
    | exact False.elim q
theorem o_ltS : OpR X (compareOp .Lt) kLtS := op_imp op_lt_str fun x y H Q q => by
  cases x <;> cases y <;> first | exact ⟨_, _, rfl, rfl, q⟩ | exact False.elim q
def cAddS : R2 := fun x y H Q => match x, y with
  | .str i, .str j => i.length + j.length ≤ sizeLine ∧ Q (.str (i ++ j)) H
  | _, _ => False
theorem o_addS : OpR X (binaryOp .Add) cAddS := op_imp op_add_str fun x y H Q q => by
  cases x <;> cases y <;> first | exact ⟨_, _, rfl, rfl, q⟩ | exact False.elim q
def cNon (b : Bool) : R2 := fun x y H Q => match y with
  | .non => Q (.bl (match x with | .non => b | _ => !b)) H
  | _ => False
theorem o_isN : OpR X (compareOp .Is) (cNon true) := op_imp op_isN fun x y H Q q => by
  cases y <;> first
    | (refine ⟨rfl, ?_⟩; cases x <;> exact q)
    | exact False.elim q
theorem o_notN : OpR X (compareOp .IsNot) (cNon false) := op_imp op_notN fun x y H Q q => by
  cases y <;> first
    | (refine ⟨rfl, ?_⟩; cases x <;> exact q)
    | exact False.elim q
/-- one sign in a text -/
def cSign (b : Bool) : R2 := fun x y H Q => match x, y with
  | .str i, .str z => ∃ c, i = ⟨#[c]⟩ ∧ Q (.bl (if b then decide (c ∈ z.cps.toList) else !decide (c ∈ z.cps.toList))) H
  | _, _ => False
theorem o_inSign : OpR X (compareOp .In) (cSign true) := op_imp op_in_sign fun x y H Q q => by
  cases x <;> cases y <;> first
    | (obtain ⟨c, e, q⟩ := q; subst e; exact ⟨_, _, rfl, rfl, q⟩)
    | exact False.elim q
theorem o_notInSign : OpR X (compareOp .NotIn) (cSign false) := op_imp op_notIn_sign fun x y H Q q => by
  cases x <;> cases y <;> first
    | (obtain ⟨c, e, q⟩ := q; subst e; exact ⟨_, _, rfl, rfl, q⟩)
    | exact False.elim q
def cI (g : Int → V) : V → Hp → VK → Prop := fun x H Q => match x with
  | .int i => Q (g i) H
  | _ => False
def kNeg : V → Hp → VK → Prop := fun x H Q => match x with
  | .int i => Q (.int (-i)) H
  | _ => False
theorem n_neg : UnR X (unaryOp .USub) kNeg := un_imp un_neg fun x H Q q => by
  cases x <;> first | exact ⟨_, rfl, q⟩ | exact False.elim q

/-! ### subscripts -/
def cIxL (K : PySem.W.Frag) : R2 := fun x y H Q => match x, y with
  | .ref p, .int i => ∃ xs v, SqL K H p xs ∧ atI xs i = some v ∧ Q v H
  | _, _ => False
def cIxT (K : PySem.W.Frag) : R2 := fun x y H Q => match x, y with
  | .ref p, .int i => ∃ xs v, SqT K H p xs ∧ atI xs i = some v ∧ Q v H
  | _, _ => False
def cIxS : R2 := fun x y H Q => match x, y with
  | .str z, .int i => ∃ c, z.length ≤ sizeLine ∧ atI z.cps.toList i = some c ∧ Q (.str ⟨#[c]⟩) H
  | _, _ => False
theorem x_list : IxR X (cIxL X.K) := ix_imp ix_list fun x y H Q q => by
  cases x <;> cases y <;> first
    | (obtain ⟨xs, v, a, b, q⟩ := q; exact ⟨_, _, _, _, rfl, rfl, a, b, q⟩)
    | exact False.elim q
theorem x_tup : IxR X (cIxT X.K) := ix_imp ix_tup fun x y H Q q => by
  cases x <;> cases y <;> first
    | (obtain ⟨xs, v, a, b, q⟩ := q; exact ⟨_, _, _, _, rfl, rfl, a, b, q⟩)
    | exact False.elim q
theorem x_str : IxR X cIxS := ix_imp ix_str fun x y H Q q => by
  cases x <;> cases y <;> first
    | (obtain ⟨c, a, b, q⟩ := q; exact ⟨_, _, _, rfl, rfl, a, b, q⟩)
    | exact False.elim q
theorem plainIx {b : Expr} (h : ∀ o i, subscripted b false o i = operate [o, i] (getItem o i) := by intro _ _; rfl) : PlainIx b := h
/-- a dict's item -/
def uDGet (td ty : TE) : TE := fun σ H Q => td σ H fun x H1 => ty σ H1 fun y H2 => match x with
  | .ref a => ∃ v, DGet H2 a y (some v) ∧ Q v H2
  | _ => False
theorem u_dget {o i : Expr} {td ty : TE} {pos : Pos} (hu : X.A.units + 1 < cLine) (ho : PE X o td) (hi : PE X i ty) (hs : NoSl i := by intro _ _; rfl) : PE X (.Subscript o i pos) (uDGet td ty) := by
  refine ⟨fun pins s σ H Q I h => ?_⟩
  refine subD_of PySem.F.slot_dict_getitem.lookup hs (thn (ho.run pins s σ H _ I h) fun u s1 ⟨x, H1, I1, rx, q1⟩ => thn (hi.run pins s1 σ H1 _ I1 q1) fun iv s2 ⟨y, H2, I2, ry, q2⟩ => ?_)
  cases x with
  | ref a =>
    obtain ⟨v, g, q2⟩ := q2
    obtain rfl : u = Value.ref a := rx
    exact ⟨dict_typeIs I2 g, d_getItem hu I2 g ry fun w' s3 I3 rw' => ⟨v, H2, I3, rw', q2⟩⟩
  | _ => exact False.elim q2
/-! ### comparisons -/
theorem c_op {a b : Expr} {op : CmpOp} {r : R2} {ta tb : TE} (ho : OpR X (compareOp op) r) (ha : PE X a ta) (hb : PE X b tb) : PC X op a b (tOp r ta tb) :=
  ⟨fun pins s σ H Q I h => binT ha hb I h fun v u s2 x y H2 I2 rx ry q => ho pins s2 σ H2 x y v u Q I2 rx ry q⟩
/-- a key in a dict -/
def uDIn (b : Bool) (ty td : TE) : TE := fun σ H Q => ty σ H fun y H1 => td σ H1 fun x H2 => match x with
  | .ref a => ∃ o, DGet H2 a y o ∧ Q (.bl (if b then o.isSome else !o.isSome)) H2
  | _ => False
theorem c_din {o i : Expr} {td ty : TE} (hu : X.A.units + 1 < cLine) (hi : PE X i ty) (ho : PE X o td) : PC X .In i o (uDIn true ty td) := by
  refine ⟨fun pins s σ H Q I h => ?_⟩
  refine thn (hi.run pins s σ H _ I h) fun iv s1 ⟨y, H1, I1, ry, q1⟩ => thn (ho.run pins s1 σ H1 _ I1 q1) fun u s2 ⟨x, H2, I2, rx, q2⟩ => ?_
  cases x with
  | ref a =>
    obtain ⟨o, g, q2⟩ := q2
    obtain rfl : u = Value.ref a := rx
    exact d_in hu I2 g ry fun s3 I3 => ⟨.bl o.isSome, H2, I3, rfl, q2⟩
  | _ => exact False.elim q2
theorem c_dnotin {o i : Expr} {td ty : TE} (hu : X.A.units + 1 < cLine) (hi : PE X i ty) (ho : PE X o td) : PC X .NotIn i o (uDIn false ty td) := by
  refine ⟨fun pins s σ H Q I h => ?_⟩
  refine thn (hi.run pins s σ H _ I h) fun iv s1 ⟨y, H1, I1, ry, q1⟩ => thn (ho.run pins s1 σ H1 _ I1 q1) fun u s2 ⟨x, H2, I2, rx, q2⟩ => ?_
  cases x with
  | ref a =>
    obtain ⟨o, g, q2⟩ := q2
    obtain rfl : u = Value.ref a := rx
    exact d_notIn hu I2 g ry fun s3 I3 => ⟨.bl (!o.isSome), H2, I3, rfl, q2⟩
  | _ => exact False.elim q2
/-- as a value -/
theorem e_cmp {a b : Expr} {op : CmpOp} {t : TE} {pos : Pos} (h : PC X op a b t) (hm : behindInMarks op b = false := by first | exact nobehind _ (by decide) (by decide) | rfl) : PE X (.Compare a [op] [b] pos) t := pe_cmp h hm

/-! ### tests -/
structure Br (b : Bool) (A B : Prop) : Prop where
  tt : b = true → A
  ff : b = false → B
theorem br_t {A B : Prop} (h : A) : Br true A B := ⟨fun _ => h, fun z => nomatch z⟩
theorem br_f {A B : Prop} (h : B) : Br false A B := ⟨(fun z => nomatch z), fun _ => h⟩
/-- the answer is known -/
theorem br_tt {b : Bool} {A B : Prop} (e : b = true) (h : A) : Br b A B := by subst e; exact br_t h
theorem br_ff {b : Bool} {A B : Prop} (e : b = false) (h : B) : Br b A B := by subst e; exact br_f h
def uT (t : TE) : TT := fun σ H Q => t σ H fun x H1 => match x with
  | .bl k => Q k H1
  | _ => False
/-- an expression with a truth for a value, as a test: any one but a comparison, and, or, not -/
theorem t_val {e : Expr} {t : TE} (h : PE X e t) (he : ∀ whole, isTrue e X.env whole = (do let v ← whole; standAt e.pos; holding [v] (truthy v)) := by intro _; rfl) : PT X e (uT t) := by
  refine ⟨fun pins s σ H Q I hw => ?_⟩
  refine isTrue_plain (thn (h.run pins s σ H _ I hw) fun v s1 ⟨x, H1, I1, r1, q1⟩ => ?_) (he _)
  cases x with
  | bl k =>
    cases r1
    exact wpAny_truthy_bool ⟨H1, I1, q1⟩
  | _ => exact False.elim q1
/-- a comparison as a test -/
theorem t_cmp {a b : Expr} {op : CmpOp} {t : TE} {pos : Pos} (h : PC X op a b t) (h1 : behindInMarks op b = false := by first | exact nobehind _ (by decide) (by decide) | rfl) : PT X (.Compare a [op] [b] pos) (uT t) := by
  refine ⟨fun pins s σ H Q I hw => ?_⟩
  refine wpAny_isTrue_Compare1 (thn (h.run pins s σ H _ I hw) fun v s1 h1 => thn h1 fun u s2 h2 => thn h2 fun c s3 ⟨x, H1, I1, r1, q1⟩ => ?_) h1
  cases x with
  | bl k =>
    cases r1
    exact wpAny_truthy_bool ⟨H1, I1, q1⟩
  | _ => exact False.elim q1
def uAnd (t u : TT) : TT := fun σ H Q => t σ H fun c H1 => Br c (u σ H1 Q) (Q false H1)
def uOr (t u : TT) : TT := fun σ H Q => t σ H fun c H1 => Br c (Q true H1) (u σ H1 Q)
def uNot (t : TT) : TT := fun σ H Q => t σ H fun c H1 => Q (!c) H1
section
variable {a b : Expr} {rest : List Expr} {tA tB' : TT} {ta tb : TE} {pos : Pos}
theorem w_and (ha : PT X a tA) (hb : PW X (.BoolOp .And (b :: rest) pos) tB') : PW X (.BoolOp .And (a :: b :: rest) pos) (uAnd tA tB') := by
  refine ⟨fun wh pins s σ H Q I h => ?_⟩
  refine isTrue_and (thn (ha.run pins s σ H _ I h) fun c s1 ⟨H1, I1, q1⟩ => ?_)
  cases c with
  | true => exact hb.run wh pins s1 σ H1 Q I1 (q1.tt rfl)
  | false => exact ⟨H1, I1, q1.ff rfl⟩
theorem w_or (ha : PT X a tA) (hb : PW X (.BoolOp .Or (b :: rest) pos) tB') : PW X (.BoolOp .Or (a :: b :: rest) pos) (uOr tA tB') := by
  refine ⟨fun wh pins s σ H Q I h => ?_⟩
  refine isTrue_or (thn (ha.run pins s σ H _ I h) fun c s1 ⟨H1, I1, q1⟩ => ?_)
  cases c with
  | true => exact ⟨H1, I1, q1.tt rfl⟩
  | false => exact hb.run wh pins s1 σ H1 Q I1 (q1.ff rfl)
theorem t_not (ha : PT X a tA) : PT X (.UnaryOp .Not a pos) (uNot tA) := pt_not ha
def uAndV (ta tb : TE) : TE := fun σ H Q => ta σ H fun x H1 => match x with
  | .bl c => Br c (tb σ H1 Q) (Q (.bl false) H1)
  | _ => False
def uOrV (ta tb : TE) : TE := fun σ H Q => ta σ H fun x H1 => match x with
  | .bl c => Br c (Q (.bl true) H1) (tb σ H1 Q)
  | _ => False
def uNotV (ta : TE) : TE := fun σ H Q => ta σ H fun x H1 => match x with
  | .bl c => Q (.bl (!c)) H1
  | _ => False
theorem v_and (ha : PE X a ta) (hb : PE X (.BoolOp .And (b :: rest) pos) tb) : PE X (.BoolOp .And (a :: b :: rest) pos) (uAndV ta tb) := by
  refine ⟨fun pins s σ H Q I h => ?_⟩
  refine BoolOp_and (thn (ha.run pins s σ H _ I h) fun v s1 ⟨x, H1, I1, r1, q1⟩ => ?_)
  cases x with
  | bl c =>
    cases r1
    refine wpAny_truthy_bool ?_
    cases c with
    | true => exact hb.run pins s1 σ H1 Q I1 (q1.tt rfl)
    | false => exact ⟨.bl false, H1, I1, rfl, q1.ff rfl⟩
  | _ => exact False.elim q1
theorem v_or (ha : PE X a ta) (hb : PE X (.BoolOp .Or (b :: rest) pos) tb) : PE X (.BoolOp .Or (a :: b :: rest) pos) (uOrV ta tb) := by
  refine ⟨fun pins s σ H Q I h => ?_⟩
  refine BoolOp_or (thn (ha.run pins s σ H _ I h) fun v s1 ⟨x, H1, I1, r1, q1⟩ => ?_)
  cases x with
  | bl c =>
    cases r1
    refine wpAny_truthy_bool ?_
    cases c with
    | false => exact hb.run pins s1 σ H1 Q I1 (q1.ff rfl)
    | true => exact ⟨.bl true, H1, I1, rfl, q1.tt rfl⟩
  | _ => exact False.elim q1
theorem v_not (ha : PE X a ta) : PE X (.UnaryOp .Not a pos) (uNotV ta) := by
  refine ⟨fun pins s σ H Q I h => ?_⟩
  refine UnaryOp_ (thn (ha.run pins s σ H _ I h) fun v s1 ⟨x, H1, I1, r1, q1⟩ => ?_)
  cases x with
  | bl c =>
    cases r1
    exact not_of (wpAny_truthy_bool ⟨.bl (!c), H1, I1, rfl, q1⟩)
  | _ => exact False.elim q1
def uIf (t : TT) (ta tb : TE) : TE := fun σ H Q => t σ H fun c H1 => Br c (ta σ H1 Q) (tb σ H1 Q)
theorem v_if {c : Expr} (hc : PT X c tA) (ha : PE X a ta) (hb : PE X b tb) : PE X (.IfExp c a b pos) (uIf tA ta tb) := by
  refine ⟨fun pins s σ H Q I h => ?_⟩
  refine wpAny_IfExp (thn (hc.run pins s σ H _ I h) fun d s1 ⟨H1, I1, q1⟩ => ?_)
  cases d with
  | true => exact ha.run pins s1 σ H1 Q I1 (q1.tt rfl)
  | false => exact hb.run pins s1 σ H1 Q I1 (q1.ff rfl)
def uIfS (c : TT) (t u : TS) : TS := fun D σ H => c σ H fun b H1 => Br b (t D σ H1) (u D σ H1)
theorem s_if {c : Expr} {sa sb : List Stmt} {tc : TT} {t u : TS} (hc : PT X c tc) (ha : PSs X sa t) (hb : PSs X sb u) : PS X (.If c sa sb pos) (uIfS tc t u) := by
  refine ⟨fun pins s σ H D I h => ?_⟩
  refine wpAny_If (thn (hc.run pins s σ H _ I h) fun d s1 ⟨H1, I1, q1⟩ => ?_)
  cases d with
  | true => exact ha.run pins s1 σ H1 D I1 (q1.tt rfl)
  | false => exact hb.run pins s1 σ H1 D I1 (q1.ff rfl)
end

/-! ### readings closed upward -/
def upE (t : TE) : TE := fun σ H R => ∃ S : VK, t σ H S ∧ ∀ v H1, S v H1 → R v H1
def upA (t : TA) : TA := fun σ H R => ∃ S : List V → Hp → Prop, t σ H S ∧ ∀ v H1, S v H1 → R v H1
theorem pe_up {e : Expr} {t : TE} (h : PE X e t) : PE X e (upE t) := ⟨fun pins s σ H Q I ⟨S, q, w⟩ => thn (h.run pins s σ H S I q) fun u s1 ⟨v, H1, I1, r1, q1⟩ => ⟨v, H1, I1, r1, w v H1 q1⟩⟩
theorem pa_up {es : List Expr} {t : TA} (h : PA X es t) : PA X es (upA t) := ⟨fun pos pins s σ H Q I ⟨S, q, w⟩ => thn (h.run pos pins s σ H S I q) fun u s1 ⟨v, H1, I1, r1, q1⟩ => ⟨v, H1, I1, r1, w v H1 q1⟩⟩
theorem ps_imp {st : Stmt} {t t' : TS} (h : PS X st t) (w : ∀ D σ H, t' D σ H → t D σ H) : PS X st t' := ⟨fun pins s σ H D I q => h.run pins s σ H D I (w D σ H q)⟩
theorem upE.of {t : TE} {σ : L2.St} {H : Hp} {S R : VK} (q : t σ H S) (w : ∀ v H1, S v H1 → R v H1) : upE t σ H R := ⟨S, q, w⟩

/-! ### displays -/
def uTup (t : TA) : TE := fun σ H Q => t σ H fun xs H1 => xs.length ≤ sizeLine ∧ New H1 (.tup xs) fun p H2 => Q (.ref p) H2
def uLst (t : TA) : TE := fun σ H Q => t σ H fun xs H1 => xs.length ≤ sizeLine ∧ New H1 (.lst xs) fun p H2 => Q (.ref p) H2
theorem e_tup {es : List Expr} {t : TA} {x1} {pos : Pos} (h : PA X es t) : PE X (.Tuple es x1 pos) (uTup t) := pe_imp (pe_tup (pa_up h)) fun σ H Q q => ⟨_, q, fun xs H1 k => ⟨k.1, New.at k.2⟩⟩
theorem e_lst {es : List Expr} {t : TA} {pos : Pos} (h : PA X es t) : PE X (.List es pos) (uLst t) := pe_imp (pe_lst (pa_up h)) fun σ H Q q => ⟨_, q, fun xs H1 k => ⟨k.1, New.at k.2⟩⟩
def uDNew : TE := fun _ H Q => New H (.dK []) fun p H2 => Q (.ref p) H2
theorem e_dnew {pos : Pos} : PE X (.Dict [] [] pos) uDNew := pe_imp pe_dnewK fun σ H Q q => New.at q
/-- a dict of one pair, its key a text or a number -/
def uDisp1 (tk tv : TE) : TE := fun σ H Q => New H (.dK []) fun p H1 => tk σ H1 fun k H2 => tv σ H2 fun v H3 => ∃ key : Key, k = kV key ∧ H3 p = some (.dK []) ∧ Chg p H3 (.dK [(key, v)]) fun H4 => Q (.ref p) H4
theorem e_disp1 {k v : Expr} {tk tv : TE} {pos : Pos} (hk : PE X k tk) (hv : PE X v tv) : PE X (.Dict [some k] [v] pos) (uDisp1 tk tv) :=
  pe_imp (pe_disp (pps_cons (pe_up hk) (pe_up hv) pps_nil) (by rfl) (by rfl) (fun z => by cases z) (show 1 ≤ 15 by decide)) fun σ H Q q p hp =>
    ⟨_, q p _ hp (same_upd hp) upd_same, fun kv H2 q2 => ⟨_, q2, fun vv H3 q3 => by
      obtain ⟨key, e1, e2, q4⟩ := q3
      exact ⟨e2, [(key, vv)], by rw [e1]; rfl, show 1 ≤ 15 by decide, q4.at⟩⟩⟩

/-! ### dicts changed -/
def uDPut (td ty tv : TE) : TS := fun D σ H => tv σ H fun v H1 => td σ H1 fun x H2 => ty σ H2 fun y H3 => match x with
  | .ref a => ∃ kvs k, H3 a = some (.dK kvs) ∧ y = kV k ∧ kvs.length < sizeLine ∧ Chg a H3 (.dK (putK kvs k v)) fun H4 => D.nx σ H4
  | _ => False
theorem s_dput {o i value : Expr} {td ty tv : TE} {pos pos' : Pos} (hu : X.A.units + 1 < cLine) (ho : PE X o td) (hi : PE X i ty) (hv : PE X value tv) (hs : swapsWith value (some (.Subscript o i pos')) pos.line X.env = pure false) : PS X (.Assign [.Subscript o i pos'] value pos) (uDPut td ty tv) :=
  ps_imp (ps_dput hu (pe_up ho) (pe_up hi) (pe_up hv) hs) fun D σ H q => ⟨_, q, fun v H1 q1 => ⟨_, q1, fun x H2 q2 => ⟨_, q2, fun y H3 q3 => by
    cases x with
    | ref a =>
      obtain ⟨kvs, k, h1, h2, h3, q4⟩ := q3
      subst h2
      exact ⟨a, _, rfl, DPut.k h1 h3, q4.at⟩
    | _ => exact False.elim q3⟩⟩⟩
def uDSetd (td ty tx : TE) : TE := fun σ H Q => td σ H fun x H1 => match x with
  | .ref a => (∃ kvs, H1 a = some (.dK kvs)) ∧ ty σ H1 fun y H2 => tx σ H2 fun z H3 => ∃ (kvs : List (Key × V)) (k : Key), H3 a = some (.dK kvs) ∧ y = kV k ∧ kvs.length < sizeLine ∧
      (∀ v, valV kvs k = some v → Q v H3) ∧ (valV kvs k = none → Chg a H3 (.dK (putK kvs k z)) fun H4 => Q z H4)
  | _ => False
theorem e_dsetd {o e f : Expr} {td ty tx : TE} {apos cpos : Pos} (ho : PE X o td) (he : PE X e ty) (hf : PE X f tx) (m : M2 X o "setdefault" apos e f cpos) : PE X (.Call (.Attribute o "setdefault" apos) [e, f] [] cpos) (uDSetd td ty tx) :=
  pe_imp (pe_dsetd (pe_up ho) (pe_up he) (pe_up hf) m) fun σ H Q q => ⟨_, q, fun x H1 q1 => by
    cases x with
    | ref a =>
      obtain ⟨⟨kv0, h0⟩, q1⟩ := q1
      exact ⟨a, rfl, .inl ⟨kv0, .inl h0⟩, _, q1, fun y H2 q2 => ⟨_, q2, fun z H3 ⟨kvs, k, h1, h2, h3, q3, q4⟩ => ⟨kvs, k, h1, h2, h3, q3, fun n => (q4 n).at⟩⟩⟩
    | _ => exact False.elim q1⟩
def uDGet2 (td ty tx : TE) : TE := fun σ H Q => td σ H fun x H1 => match x with
  | .ref a => (∃ kvs, H1 a = some (.dK kvs)) ∧ ty σ H1 fun y H2 => tx σ H2 fun z H3 => ∃ (kvs : List (Key × V)) (k : Key), H3 a = some (.dK kvs) ∧ y = kV k ∧ Q ((valV kvs k).getD z) H3
  | _ => False
theorem e_dget2 {o e f : Expr} {td ty tx : TE} {apos cpos : Pos} (hu : X.A.units + 1 < cLine) (ho : PE X o td) (he : PE X e ty) (hf : PE X f tx) (m : M2 X o "get" apos e f cpos) : PE X (.Call (.Attribute o "get" apos) [e, f] [] cpos) (uDGet2 td ty tx) :=
  pe_imp (pe_dget2 hu (pe_up ho) (pe_up he) (pe_up hf) m) fun σ H Q q => ⟨_, q, fun x H1 q1 => by
    cases x with
    | ref a =>
      obtain ⟨⟨kv0, h0⟩, q1⟩ := q1
      exact ⟨a, rfl, .inl ⟨kv0, .inl h0⟩, _, q1, fun y H2 q2 => ⟨_, q2, fun z H3 ⟨kvs, k, h1, h2, q3⟩ => ⟨_, by rw [h2]; exact DGet.k h1, q3⟩⟩⟩
    | _ => exact False.elim q1⟩
def uDPop1 (td ty : TE) : TE := fun σ H Q => td σ H fun x H1 => match x with
  | .ref a => (∃ kvs, H1 a = some (.dK kvs)) ∧ ty σ H1 fun y H2 => ∃ (kvs : List (Key × V)) (k : Key) (v : V), H2 a = some (.dK kvs) ∧ y = kV k ∧ valV kvs k = some v ∧ Chg a H2 (.dK (dropK kvs k)) fun H3 => Q v H3
  | _ => False
theorem e_dpop1 {o e : Expr} {td ty : TE} {apos cpos : Pos} (ho : PE X o td) (he : PE X e ty) (m : M1 X o "pop" apos e cpos) : PE X (.Call (.Attribute o "pop" apos) [e] [] cpos) (uDPop1 td ty) :=
  pe_imp (pe_dpop1 (pe_up ho) (pe_up he) m) fun σ H Q q => ⟨_, q, fun x H1 q1 => by
    cases x with
    | ref a =>
      obtain ⟨⟨kv0, h0⟩, q1⟩ := q1
      exact ⟨a, rfl, .inl ⟨kv0, .inl h0⟩, _, q1, fun y H2 ⟨kvs, k, v, h1, h2, h3, q3⟩ => ⟨kvs, k, v, h1, h2, h3, q3.at⟩⟩
    | _ => exact False.elim q1⟩

/-! ### lists changed, fields -/
def cApp : V → List V → Hp → VK → Prop := fun x xs H Q => match x, xs with
  | .ref l, [y] => ∃ zs, H l = some (.lst zs) ∧ zs.length < sizeLine ∧ Chg l H (.lst (zs ++ [y])) fun H2 => Q .non H2
  | _, _ => False
theorem m_append : MtR X "list.append" cApp := mt_imp mt_append fun x xs H Q q => by
  match x, xs, q with
  | .ref l, [y], q =>
    obtain ⟨zs, h1, h2, q⟩ := q
    exact ⟨l, zs, y, rfl, rfl, h1, h2, q.at⟩
def cClear : V → List V → Hp → VK → Prop := fun x xs H Q => match x, xs with
  | .ref l, [] => ∃ zs, H l = some (.lst zs) ∧ Chg l H (.lst []) fun H2 => Q .non H2
  | _, _ => False
theorem m_clear : MtR X "list.clear" cClear := mt_imp mt_clear fun x xs H Q q => by
  match x, xs, q with
  | .ref l, [], q =>
    obtain ⟨zs, h1, q⟩ := q
    exact ⟨l, zs, rfl, rfl, h1, q.at⟩
def cSetL : TSet := fun o i v H Q => match o, i with
  | .ref p, .int k => ∃ xs j, H p = some (.lst xs) ∧ ixN xs.length k = some j ∧ Chg p H (.lst (xs.set j v)) fun H2 => Q H2
  | _, _ => False
theorem p_setL : PSet X cSetL := fun pins s σ H o i v ov iv u Q I ro ri rv h => set_list pins s σ H o i v ov iv u Q I ro ri rv (by
  cases o <;> cases i <;> first
    | (obtain ⟨xs, j, h1, h2, q⟩ := h; exact ⟨_, xs, _, j, rfl, rfl, h1, h2, q.at⟩)
    | exact False.elim h)
def uFldS (K : PySem.W.Frag) (ta tv : TE) (f : Str) : TS := fun D σ H => tv σ H fun y H1 => ta σ H1 fun x H2 => match x with
  | .ref a => ∃ C dx fs, H2 a = some (.ins C dx fs) ∧ Cls K C ∧ NoAttr K C f ∧ fs.length < 1000 ∧ Chg a H2 (.ins C dx (putF f y fs)) fun H3 => D.nx σ H3
  | _ => False
theorem s_fld {o value : Expr} {ta tv : TE} {f : Str} {pos pos' : Pos} (ha : PE X o ta) (hv : PE X value tv) (hs : swapsWith value (some (.Attribute o f pos')) pos.line X.env = pure false) : PS X (.Assign [.Attribute o f pos'] value pos) (uFldS X.K ta tv f) :=
  ps_imp (ps_fld (pe_up ha) (pe_up hv) hs) fun D σ H q => ⟨_, q, fun y H1 q1 => ⟨_, q1, fun x H2 q2 => by
    cases x with
    | ref a =>
      obtain ⟨C, dx, fs, h1, h2, h3, h4, q⟩ := q2
      exact ⟨a, C, dx, fs, rfl, h1, h2, h3, h4, q.at⟩
    | _ => exact False.elim q2⟩⟩
def uFld (K : PySem.W.Frag) (ta : TE) (f : Str) : TE := fun σ H Q => ta σ H fun x H1 => match x with
  | .ref a => ∃ C dx fs v, H1 a = some (.ins C dx fs) ∧ Cls K C ∧ NoAttr K C f ∧ fs.lookup f = some v ∧ Q v H1
  | _ => False
theorem e_fld {e : Expr} {ta : TE} {f : Str} {pos : Pos} (he : PE X e ta) (hb : attributeBase e f X.env (eval e X.env) = eval e X.env) : PE X (.Attribute e f pos) (uFld X.K ta f) :=
  pe_imp (pe_fld (pe_up he) hb) fun σ H Q q => ⟨_, q, fun x H1 q1 => by
    cases x with
    | ref a =>
      obtain ⟨C, dx, fs, v, h1, h2, h3, h4, q⟩ := q1
      exact ⟨a, C, dx, fs, v, rfl, h1, h2, h3, h4, q⟩
    | _ => exact False.elim q1⟩
/-! ### calls of built-ins -/
def cLenS : List V → Hp → VK → Prop := fun xs H Q => match xs with
  | [.str z] => z.length ≤ sizeLine ∧ Q (.int z.length) H
  | _ => False
theorem l_str : CallR X (.builtin "len") cLenS := call_imp call_len_str fun xs H Q q => by
  match xs, q with
  | [.str z], q => exact ⟨z, rfl, q⟩
def cLenQ (K : PySem.W.Frag) : List V → Hp → VK → Prop := fun xs H Q => match xs with
  | [.ref p] => ∃ ys, (SqL K H p ys ∨ SqT K H p ys) ∧ Q (.int ys.length) H
  | _ => False
theorem l_seq : CallR X (.builtin "len") (cLenQ X.K) := call_imp call_len_seq fun xs H Q q => by
  match xs, q with
  | [.ref p], q =>
    obtain ⟨ys, h, q⟩ := q
    exact ⟨p, ys, rfl, h, q⟩
def cLenD : List V → Hp → VK → Prop := fun xs H Q => match xs with
  | [.ref p] => ∃ kvs, H p = some (.dK kvs) ∧ Q (.int kvs.length) H
  | _ => False
theorem l_dict : CallR X (.builtin "len") cLenD := call_imp call_lenD fun xs H Q q => by
  match xs, q with
  | [.ref p], q =>
    obtain ⟨ys, h, q⟩ := q
    exact ⟨p, ys, rfl, h, q⟩
def cAbs : List V → Hp → VK → Prop := fun xs H Q => match xs with
  | [.int i] => Q (.int (if i < 0 then -i else i)) H
  | _ => False
theorem b_abs : CallR X (.builtin "abs") cAbs := call_imp call_abs fun xs H Q q => by
  match xs, q with
  | [.int i], q => exact ⟨i, rfl, q⟩
def cMin : List V → Hp → VK → Prop := fun xs H Q => match xs with
  | [.int i, .int j] => Q (.int (if j < i then j else i)) H
  | _ => False
theorem b_min (hc : X.calm = true) : CallR X (.builtin "min") cMin := call_imp (call_min2 hc) fun xs H Q q => by
  match xs, q with
  | [.int i, .int j], q => exact ⟨i, j, rfl, q⟩
def cStrI : List V → Hp → VK → Prop := fun xs H Q => match xs with
  | [.int i] => i.natAbs.log2 < 1920 ∧ Q (.str (toString i)) H
  | _ => False
theorem b_str : CallR X (.type "str") cStrI := call_imp call_str_int fun xs H Q q => by
  match xs, q with
  | [.int i], q => exact ⟨i, rfl, q⟩
def cIntB : List V → Hp → VK → Prop := fun xs H Q => match xs with
  | [.bl k] => Q (.int (if k then 1 else 0)) H
  | _ => False
theorem b_intB : CallR X (.type "int") cIntB := call_imp call_int1 fun xs H Q q => by
  match xs, q with
  | [.bl k], q => exact .inr ⟨k, rfl, q⟩
def cIntS : List V → Hp → VK → Prop := fun xs H Q => match xs with
  | [.str a] => ∃ n, PySem.intText? a = some n ∧ a.length ≤ 640 ∧ Q (.int n) H
  | _ => False
theorem b_intS : CallR X (.type "int") cIntS := call_imp call_int_str fun xs H Q q => by
  match xs, q with
  | [.str a], q =>
    obtain ⟨n, h1, h2, q⟩ := q
    exact ⟨a, n, rfl, h1, h2, q⟩
/-- isinstance of a built-in class -/
def cIsi (K : PySem.W.Frag) : List V → Hp → VK → Prop := fun xs H Q => match xs with
  | [x, .ty n] => ∃ t b, TyX K H x (.type t) ∧ kitB t n = some b ∧ Q (.bl b) H
  | _ => False
theorem b_isi : CallR X (.builtin "isinstance") (cIsi X.K) := call_imp call_isi fun xs H Q q => by
  match xs, q with
  | [x, .ty n], q =>
    obtain ⟨t, b, h1, h2, q⟩ := q
    exact ⟨x, .ty n, .type t, .type n, b, rfl, .ty n, h1, kit_ty h2, q⟩

/-! ### more built-ins -/
def cList (K : PySem.W.Frag) : List V → Hp → VK → Prop := fun xs H Q => match xs with
  | [.ref p] => ∃ ys, (SqL K H p ys ∨ SqT K H p ys) ∧ New H (.lst ys) fun l H2 => Q (.ref l) H2
  | _ => False
theorem b_list : CallR X (.type "list") (cList X.K) := call_imp call_list_of fun xs H Q q => by
  match xs, q with
  | [.ref p], q =>
    obtain ⟨ys, h, q⟩ := q
    exact ⟨p, ys, rfl, h, New.at q⟩
def cListD : List V → Hp → VK → Prop := fun xs H Q => match xs with
  | [.ref p] => ∃ kvs, Rd H p (.dK kvs) ∧ New H (.lst (kvs.map fun kv => kV kv.1)) fun l H2 => Q (.ref l) H2
  | _ => False
theorem b_listD (hc : X.calm = true) : CallR X (.type "list") cListD := call_imp (call_listD hc) fun xs H Q q => by
  match xs, q with
  | [.ref p], q =>
    obtain ⟨ys, h, q⟩ := q
    exact ⟨p, ys, rfl, h, New.at q⟩
def cSum (K : PySem.W.Frag) : List V → Hp → VK → Prop := fun xs H Q => match xs with
  | [.ref p] => ∃ ns : List Int, SqL K H p (ns.map V.int) ∧ Q (.int ns.sum) H
  | _ => False
theorem b_sum (hc : X.calm = true) : CallR X (.builtin "sum") (cSum X.K) := call_imp (cr_sum hc) fun xs H Q q => by
  match xs, q with
  | [.ref p], q =>
    obtain ⟨ys, h, q⟩ := q
    exact ⟨p, ys, rfl, h, q⟩
def cSortedS (K : PySem.W.Frag) : List V → Hp → VK → Prop := fun xs H Q => match xs with
  | [.ref p] => ∃ ss : List Str, SqL K H p (ss.map V.str) ∧ ss.length < 64 ∧ ∀ (ys : List Str), ys.Perm ss → sortedS ys = true → New H (.lst (ys.map V.str)) fun p H2 => Q (.ref p) H2
  | _ => False
theorem b_sortedS : CallR X (.builtin "sorted") (cSortedS X.K) := call_imp cr_sortedS fun xs H Q q => by
  match xs, q with
  | [.ref p], q =>
    obtain ⟨ss, h, h2, q⟩ := q
    exact ⟨p, ss, rfl, h, h2, fun ys p h3 h4 => New.at (q ys h3 h4) p⟩
def cSortedD : List V → Hp → VK → Prop := fun xs H Q => match xs with
  | [.ref p] => ∃ (kvs : List (Key × V)) (ks : List Str), Rd H p (.dK kvs) ∧ kvs.map (·.1) = ks.map Sum.inr ∧ ks.length < 64 ∧ ∀ (ys : List Str), ys.Perm ks → sortedS ys = true → New H (.lst (ys.map V.str)) fun p H2 => Q (.ref p) H2
  | _ => False
theorem b_sortedD (hc : X.calm = true) : CallR X (.builtin "sorted") cSortedD := call_imp (call_sortedD hc) fun xs H Q q => by
  match xs, q with
  | [.ref p], q =>
    obtain ⟨kvs, ks, h, h1, h2, q⟩ := q
    exact ⟨p, kvs, ks, rfl, h, h1, h2, fun ys p h3 h4 => New.at (q ys h3 h4) p⟩
def uRev (K : PySem.W.Frag) (te : TE) : TE := fun σ H Q => te σ H fun x H1 => match x with
  | .ref a => ∃ xs, SqL K H1 a xs ∧ New H1 (.lst xs.reverse) fun p H2 => Q (.ref p) H2
  | _ => False
theorem e_rev {e : Expr} {te : TE} {k : Nat} {p1 p2 p3 pos : Pos} (he : PE X e te) : PE X (.Subscript e (.Slice none none (some (.UnaryOp .USub (.Constant (.int 1) k p1) p2)) p3) pos) (uRev X.K te) :=
  pe_imp (pe_revL (pe_up he)) fun σ H Q q => ⟨_, q, fun x H1 q1 => by
    cases x with
    | ref a =>
      obtain ⟨xs, h1, q⟩ := q1
      exact ⟨a, xs, rfl, h1, New.at q⟩
    | _ => exact False.elim q1⟩
def cCat : R2 := fun x y H Q => match x, y with
  | .ref a, .ref b => ∃ xs zs, H a = some (.lst xs) ∧ H b = some (.lst zs) ∧ xs.length + zs.length ≤ sizeLine ∧ New H (.lst (xs ++ zs)) fun p H2 => Q (.ref p) H2
  | _, _ => False
theorem o_cat : OpR X (binaryOp .Add) cCat := op_imp op_cat fun x y H Q q => by
  cases x <;> cases y <;> first
    | (obtain ⟨xs, zs, a, b, c, q⟩ := q; exact ⟨_, _, _, _, rfl, rfl, a, b, c, New.at q⟩)
    | exact False.elim q

/-! ### slices -/
def uPart (t : TE) : TO := fun σ H Q => t σ H fun x H1 => match x with
  | .int i => Q (some i) H1
  | _ => False
theorem p_some {e : Expr} {te : TE} (h : PE X e te) : PO X (some e) (uPart te) := by
  refine ⟨fun pins s σ H Q I hw => ?_⟩
  rw [evalPart_some]
  refine thn (h.run pins s σ H _ I hw) fun u s1 ⟨x, H1, I1, r1, q1⟩ => ?_
  cases x with
  | int i =>
    obtain ⟨t, rfl⟩ := r1
    exact ⟨some i, H1, I1, .int i t, q1⟩
  | _ => exact False.elim q1
def cSlS : V → Option Int → Option Int → Hp → VK → Prop := fun x lo hi H Q => match x with
  | .str z => z.length ≤ sizeLine ∧ Q (.str (cutS z lo hi)) H
  | _ => False
theorem s_str : SlR X cSlS := sl_imp sl_str fun x l u H Q q => by
  cases x <;> first
    | exact ⟨_, rfl, q⟩
    | exact False.elim q
def cSlL (K : PySem.W.Frag) : V → Option Int → Option Int → Hp → VK → Prop := fun x lo hi H Q => match x with
  | .ref a => ∃ xs, SqL K H a xs ∧ New H (.lst (cutV xs lo hi)) fun p H2 => Q (.ref p) H2
  | _ => False
theorem s_list : SlR X (cSlL X.K) := sl_imp sl_list fun x l u H Q q => by
  cases x <;> first
    | (obtain ⟨xs, h, q⟩ := q; exact ⟨_, _, rfl, h, New.at q⟩)
    | exact False.elim q

/-! ### comprehensions -/
@[irreducible] def uLc (wi : TI) (g : TG) (tt : TT) (te : TE) (vs : List Nat) : TE := tLc wi g tt te vs
theorem uLc_of {wi : TI} {g : TG} {tt : TT} {te : TE} {vs : List Nat} {σ : L2.St} {H : Hp} {Q : VK} (h : tLc wi g tt te vs σ H Q) : uLc wi g tt te vs σ H Q := by
  unfold uLc
  exact h
theorem u_lc {elt tg iter : Expr} {ifs : List Expr} {scope : Scope} {own : List (Str × Nat)} {pos : Pos} {wi : TI} {g : TG} {tt : TT} {te : TE} (hc : X.calm = true) (hN : X.N.Nodup) (hi : PI X tg iter wi) (ok : BlkOk X.N X.env.scope scope own)
    (hg : ∀ (s : Shared) (H : Hp) (C : Addr) (cl : List (Str × Addr)) (fp : List Addr), PG (X.blk s H scope (compEnvC scope cl C X.env) fp) tg g) (ht : ∀ (s : Shared) (H : Hp) (C : Addr) (cl : List (Str × Addr)) (fp : List Addr), PTs (X.blk s H scope (compEnvC scope cl C X.env) fp) ifs tt)
    (he : ∀ (s : Shared) (H : Hp) (C : Addr) (cl : List (Str × Addr)) (fp : List Addr), PE (X.blk s H scope (compEnvC scope cl C X.env) fp) elt te) (hs : ∀ x, foldedSetIterable iter X.env x = pure x := by intro _; rfl) :
    PE X (.ListComp elt [⟨tg, iter, ifs, 0⟩] scope pos) (uLc wi g tt te (own.map (·.2))) := by
  unfold uLc
  exact pe_lc hc hN hi ok hg ht he hs
theorem u_setLc {i : Nat} {y : Str} {py : Pos} {elt tg iter : Expr} {ifs : List Expr} {scope : Scope} {own : List (Str × Nat)} {pos spos : Pos} {wi : TI} {g : TG} {tt : TT} {te : TE} (hc : X.calm = true) (hN : X.N.Nodup) (hy : X.N[i]? = some y) (hyl : X.env.scope.names.lookup y = some .local)
    (hsw : swapsWith (.ListComp elt [⟨tg, iter, ifs, 0⟩] scope pos) (some (.Name y py)) spos.line X.env = pure true) (hi : PI X tg iter wi) (ok : BlkOk X.N X.env.scope scope own)
    (hg : ∀ (s : Shared) (H : Hp) (C : Addr) (cl : List (Str × Addr)) (fp : List Addr), PG (X.blk s H scope (compEnvC scope cl C X.env) fp) tg g) (ht : ∀ (s : Shared) (H : Hp) (C : Addr) (cl : List (Str × Addr)) (fp : List Addr), PTs (X.blk s H scope (compEnvC scope cl C X.env) fp) ifs tt)
    (he : ∀ (s : Shared) (H : Hp) (C : Addr) (cl : List (Str × Addr)) (fp : List Addr), PE (X.blk s H scope (compEnvC scope cl C X.env) fp) elt te) (hs : ∀ x, foldedSetIterable iter X.env x = pure x := by intro _; rfl) :
    PS X (.Assign [.Name y py] (.ListComp elt [⟨tg, iter, ifs, 0⟩] scope pos) spos) (tAsg (uLc wi g tt te (own.map (·.2))) (gName i)) := by
  unfold uLc
  exact ps_setLc hc hN hy hyl hsw hi ok hg ht he hs

/-! ### while -/
def uWhile (c : TT) (tb : TS) : TS := fun D σ H => ∃ W : Nat → L2.St → Hp → Prop, (∃ m, W m σ H) ∧ ∀ m σ H, W m σ H →
  c σ H fun b H1 => Br b (∃ N : L2.St → Hp → Prop, (∀ σ' H', N σ' H' → ∃ m', m' < m ∧ W m' σ' H') ∧ tb { D with nx := N, ct := N, bk := D.nx } σ H1) (D.nx σ H1)
theorem s_while {c : Expr} {body : List Stmt} {tc : TT} {tb : TS} {pos : Pos} (hp : PassesOwn (model X.prog X.w) X.A X.env X.xe) (hc : PT X c tc) (hb : PSs X body tb) : PS X (.While c body [] pos) (uWhile tc tb) := by
  refine ⟨fun pins s σ H D I h => ?_⟩
  obtain ⟨W, ⟨m0, w0⟩, turn⟩ := h
  refine wpAny_While (codeAny_whileLoop (fun n s' => ∃ σ' H', Inv X pins σ' H' s' ∧ W n σ' H') ?_ m0 ⟨σ, H, I, w0⟩)
  rintro n s1 ⟨σ1, H1, I1, w1⟩
  refine wpAny_passesOwn hp (thn (hc.run pins s1 σ1 H1 _ I1 (turn n σ1 H1 w1)) fun b s2 ⟨H2, I2, q2⟩ => ?_)
  cases b with
  | true =>
    obtain ⟨N, hN, q2⟩ := q2.tt rfl
    rw [if_pos rfl]
    refine wpAny_passesOwn hp (thn (hb.run pins s2 σ1 H2 _ I2 q2) fun f s3 q3 => ?_)
    cases f with
    | next =>
      obtain ⟨σ3, H3, I3, n3⟩ := q3
      obtain ⟨m', hm, w3⟩ := hN σ3 H3 n3
      exact ⟨m', hm, σ3, H3, I3, w3⟩
    | cont =>
      obtain ⟨σ3, H3, I3, n3⟩ := q3
      obtain ⟨m', hm, w3⟩ := hN σ3 H3 n3
      exact ⟨m', hm, σ3, H3, I3, w3⟩
    | brk => exact q3
    | ret v => exact q3
  | false =>
    have q2 := q2.ff rfl
    rw [if_neg Bool.false_ne_true]
    exact wpAny_execs_nil ⟨σ1, H2, I2, q2⟩
/-- while, by a word and a measure of the state -/
theorem wh_by {c : TT} {tb : TS} {D : Ends} {σ : L2.St} {H : Hp} (Pv : Nat → L2.St → Hp → Prop) (m : Nat) (h0 : Pv m σ H)
    (hs : ∀ m σ H, Pv m σ H → c σ H fun b H1 => Br b (tb { D with nx := fun σ' H' => ∃ m', m' < m ∧ Pv m' σ' H', ct := fun σ' H' => ∃ m', m' < m ∧ Pv m' σ' H', bk := D.nx } σ H1) (D.nx σ H1))
    (mono : ∀ σ H Q Q', (∀ b H1, Q b H1 → Q' b H1) → c σ H Q → c σ H Q') : uWhile c tb D σ H := by
  refine ⟨Pv, ⟨m, h0⟩, fun m σ H p => mono σ H _ _ (fun b H1 q => ⟨fun e => ⟨_, fun σ' H' h => h, q.tt e⟩, q.ff⟩) (hs m σ H p)⟩
theorem pnever {M : Model} {A : Around} {env : Env} : PassesOwn M A env (fun _ _ => False) := PassesOwn.never
end

theorem _root_.L2.Room.u65 {k : Nat} {A : Around} (r : Room k A) : A.units + 65 < cLine := by have := r.un; omega
/-! ### a def that may be called -/
structure Cal (P : Program) (w : World) (K : PySem.W.Frag) (mg : Str → Option Value) (base : Heap) (CX : CXT) (k : Nat) (x : Str) (ps : List Str) (sp : Sp) : Prop where
  ex : ∃ (f : Addr) (fd : FuncData), FnOk P w K mg base CX k f fd ps sp ∧ mg x = some (.ref f) ∧ PySem.W.keepIn K (.ref f) = true ∧ Binds K fd ps []
theorem Cal.pe {X : Cx} {CX : CXT} {k : Nat} {x : Str} {ps : List Str} {sp : Sp} {E : XK} {e : Expr} {es : List Expr} {t : TA} {p pos : Pos} (c : Cal X.prog X.w X.K X.mg X.base CX k x ps sp) (hr : Room k X.A) (hx : Passes CX X E)
    (ha : PA X (e :: es) t) (hg : Gl X x := by rfl) (hdb : (x == ("__debug__" : Str)) = false := by decide) (he : starEach (e :: es) X.env = (false, eval e X.env) :: starEach es X.env := by rfl) (hpl : (backTo pos (starEach es X.env)).any (·.1) = false := by rfl) :
    PE X (.Call (.Name x p) (e :: es) [] pos) (tCall sp [] E t) := by
  obtain ⟨f, fd, F, m, kp, b⟩ := c.ex
  exact pe_call F hr hg m kp b .nil hx ha hdb he hpl
theorem Cal.pe0 {X : Cx} {CX : CXT} {k : Nat} {x : Str} {ps : List Str} {sp : Sp} {E : XK} {p pos : Pos} (c : Cal X.prog X.w X.K X.mg X.base CX k x ps sp) (hr : Room k X.A) (hx : Passes CX X E)
    (hg : Gl X x := by rfl) (hdb : (x == ("__debug__" : Str)) = false := by decide) : PE X (.Call (.Name x p) [] [] pos) (tCall sp [] E tNil) := by
  obtain ⟨f, fd, F, m, kp, b⟩ := c.ex
  exact pe_call0 F hr hg m kp b .nil hx hdb
/-! ### a text in a list of texts -/
theorem inV_str (a : Str) (C : List Str) : inV (.str a) (C.map V.str) = decide (a ∈ C) := by
  unfold inV
  induction C with
  | nil => rfl
  | cons c C ih =>
    rw [List.map_cons, List.any_cons, ih]
    show ((c == a) || decide (a ∈ C)) = _
    by_cases h : c = a
    · subst h; simp
    · have h2 : ¬ a = c := fun e => h e.symm
      simp [h, h2]
theorem flatS (C : List Str) : (C.map V.str).all flatV = true := by
  rw [List.all_map, List.all_eq_true]
  intro c _
  rfl
def cInS (K : PySem.W.Frag) (b : Bool) : R2 := fun x y H Q => match x, y with
  | .str a, .ref p => ∃ C : List Str, SqL K H p (C.map V.str) ∧ Q (.bl (if b then decide (a ∈ C) else !decide (a ∈ C))) H
  | _, _ => False
theorem o_inS {X : Cx} : OpR X (compareOp .In) (cInS X.K true) := op_imp op_in_seq fun x y H Q q => by
  cases x <;> cases y <;> first
    | (obtain ⟨C, h, q⟩ := q; refine ⟨_, _, rfl, .inl h, rfl, flatS C, ?_⟩; rw [inV_str]; exact q)
    | exact False.elim q
theorem o_notInS {X : Cx} : OpR X (compareOp .NotIn) (cInS X.K false) := op_imp op_notIn_seq fun x y H Q q => by
  cases x <;> cases y <;> first
    | (obtain ⟨C, h, q⟩ := q; refine ⟨_, _, rfl, .inl h, rfl, flatS C, ?_⟩; rw [inV_str]; exact q)
    | exact False.elim q
end U

/-! PegD: data of any depth, rows. -/
namespace Peg
open PySem PySem.Spec PyProof.Rows L2 U
section
variable {K : PySem.W.Frag} {H H' : Hp}
theorem same_rd {a : Addr} {u : HO} (e : Same H H') (h : Rd H a u) : Rd H' a u := by
  rcases h with h | ⟨o, h⟩
  · exact .inl (e _ _ h)
  · exact .inr ⟨o, e _ _ h⟩
theorem same_l {a : Addr} {xs : List V} (e : Same H H') (h : SqL K H a xs) : SqL K H' a xs := e.seq h
theorem same_t {a : Addr} {xs : List V} (e : Same H H') (h : SqT K H a xs) : SqT K H' a xs := by
  rcases h with h | h
  · exact .inl (same_rd e h)
  · exact .inr h
theorem same_new {p : Addr} {o : HO} (h : H p = none) : Same H (upd H p o) := fun a u e => by
  rw [upd_ne (ne_of_none e h)]
  exact e
theorem same_chd {H1 : Hp} {p : Addr} (e : Same H H1) (c : Chd p H1 H') (h : H p = none) : Same H H' := fun a u ha => c a u (ne_of_none ha h) (e a u ha)
theorem chd_trans {H1 : Hp} {p : Addr} (a : Chd p H H1) (b : Chd p H1 H') : Chd p H H' := fun c o n h => b c o n (a c o n h)
theorem chd_same {H1 : Hp} {p : Addr} (a : Chd p H H1) (b : Same H1 H') : Chd p H H' := fun c o n h => b c o (a c o n h)
theorem same_chd2 {H1 : Hp} {p : Addr} (a : Same H H1) (b : Chd p H1 H') : Chd p H H' := fun c o n h => b c o n (a c o h)
/-- an object that H does not know may change -/
theorem same_mut {p : Addr} {o : HO} (e : Same H H') (h : H p = none) : Same H (upd H' p o) := fun a u ha => by
  rw [upd_ne (ne_of_none ha h)]
  exact e a u ha
mutual
theorem dp_mono (e : Same H H') : ∀ {d : PyData} {v : V}, Dp K H v d → Dp K H' v d
  | _, _, .non => .non
  | _, _, .bl b => .bl b
  | _, _, .int i => .int i
  | _, _, .str x => .str x
  | _, _, .lst h a => .lst (same_l e h) (dpAll_mono e a)
  | _, _, .tup h a => .tup (same_t e h) (dpAll_mono e a)
theorem dpAll_mono (e : Same H H') : ∀ {ds : List PyData} {vs : List V}, DpAll K H vs ds → DpAll K H' vs ds
  | _, _, .nil => .nil
  | _, _, .cons a b => .cons (dp_mono e a) (dpAll_mono e b)
end
theorem dp_lst {v : V} {ds : List PyData} (h : Dp K H v (.list ds)) : ∃ a xs, v = .ref a ∧ SqL K H a xs ∧ DpAll K H xs ds := by
  cases h with
  | lst h a => exact ⟨_, _, rfl, h, a⟩
theorem dp_tup {v : V} {ds : List PyData} (h : Dp K H v (.tuple ds)) : ∃ a xs, v = .ref a ∧ SqT K H a xs ∧ DpAll K H xs ds := by
  cases h with
  | tup h a => exact ⟨_, _, rfl, h, a⟩
theorem dp_int {v : V} {i : Int} (h : Dp K H v (.int i)) : v = .int i := by cases h; rfl
theorem dp_str {v : V} {z : Str} (h : Dp K H v (.str z)) : v = .str z := by cases h; rfl
theorem dp_bl {v : V} {b : Bool} (h : Dp K H v (.bool b)) : v = .bl b := by cases h; rfl
theorem dpAll_nil {vs : List V} (h : DpAll K H vs []) : vs = [] := by cases h; rfl
theorem dpAll_cons {vs : List V} {d : PyData} {ds : List PyData} (h : DpAll K H vs (d :: ds)) : ∃ v r, vs = v :: r ∧ Dp K H v d ∧ DpAll K H r ds := by
  cases h with
  | cons a b => exact ⟨_, _, rfl, a, b⟩
theorem dpAll_length : ∀ {ds : List PyData} {vs : List V}, DpAll K H vs ds → vs.length = ds.length
  | _, _, .nil => rfl
  | _, _, .cons a b => by rw [List.length_cons, List.length_cons, dpAll_length b]
theorem dpAll_get : ∀ {ds : List PyData} {vs : List V} {i : Nat} {v : V}, DpAll K H vs ds → vs[i]? = some v → ∃ d, ds[i]? = some d ∧ Dp K H v d
  | _, _, _, _, .nil, e => by simp at e
  | _, _, 0, _, .cons a _, e => by
    have e := Option.some.inj e
    subst e
    exact ⟨_, rfl, a⟩
  | _, _, i + 1, v, .cons _ b, e => by
    obtain ⟨d, h1, h2⟩ := dpAll_get (i := i) (v := v) b (by simpa using e)
    exact ⟨d, by simpa using h1, h2⟩
theorem dpAll_get2 : ∀ {ds : List PyData} {vs : List V} {i : Nat} {d : PyData}, DpAll K H vs ds → ds[i]? = some d → ∃ v, vs[i]? = some v ∧ Dp K H v d
  | _, _, _, _, .nil, e => by simp at e
  | _, _, 0, _, .cons a _, e => by
    have e := Option.some.inj e
    subst e
    exact ⟨_, rfl, a⟩
  | _, _, i + 1, v, .cons _ b, e => by
    obtain ⟨d, h1, h2⟩ := dpAll_get2 (i := i) (d := v) b (by simpa using e)
    exact ⟨d, by simpa using h1, h2⟩
theorem dpAll_snoc : ∀ {ds : List PyData} {vs : List V} {v : V} {d : PyData}, DpAll K H vs ds → Dp K H v d → DpAll K H (vs ++ [v]) (ds ++ [d])
  | _, _, _, _, .nil, e => .cons e .nil
  | _, _, _, _, .cons a b, e => .cons a (dpAll_snoc b e)
theorem dpAll_append : ∀ {ds es : List PyData} {vs ws : List V}, DpAll K H vs ds → DpAll K H ws es → DpAll K H (vs ++ ws) (ds ++ es)
  | _, _, _, _, .nil, e => e
  | _, _, _, _, .cons a b, e => .cons a (dpAll_append b e)
theorem dpAll_take : ∀ {ds : List PyData} {vs : List V} (n : Nat), DpAll K H vs ds → DpAll K H (vs.take n) (ds.take n)
  | _, _, 0, _ => .nil
  | _, _, _ + 1, .nil => .nil
  | _, _, n + 1, .cons a b => .cons a (dpAll_take n b)
theorem dpAll_drop : ∀ {ds : List PyData} {vs : List V} (n : Nat), DpAll K H vs ds → DpAll K H (vs.drop n) (ds.drop n)
  | _, _, 0, h => h
  | _, _, _ + 1, .nil => .nil
  | _, _, n + 1, .cons a b => dpAll_drop n b
theorem dpAll_reverse : ∀ {ds : List PyData} {vs : List V}, DpAll K H vs ds → DpAll K H vs.reverse ds.reverse
  | _, _, .nil => .nil
  | _, _, .cons a b => by
    rw [List.reverse_cons, List.reverse_cons]
    exact dpAll_snoc (dpAll_reverse b) a
theorem dpAll_set : ∀ {ds : List PyData} {vs : List V} (n : Nat) {v : V} {d : PyData}, DpAll K H vs ds → Dp K H v d → DpAll K H (vs.set n v) (ds.set n d)
  | _, _, _, _, _, .nil, _ => .nil
  | _, _, 0, _, _, .cons a b, e => .cons e b
  | _, _, n + 1, _, _, .cons a b, e => .cons a (dpAll_set n b e)
end
/-- an item of a list, of a tuple, by a place that is not negative -/
theorem at_nat {α : Type} {xs : List α} {j : Nat} {v : α} {z : Int} (e : z = (j : Int)) (h : xs[j]? = some v) : atI xs z = some v := by
  rw [e]
  exact atI_nat h

theorem at_ex {α : Type} {xs : List α} {i : Int} (h0 : 0 ≤ i) (h : i < xs.length) : ∃ c, atI xs i = some c := by
  have e : xs[i.toNat]? = some (xs[i.toNat]'(by omega)) := List.getElem?_eq_getElem (by omega)
  exact ⟨_, at_nat (by omega) e⟩
theorem sz {n : Nat} (h : n ≤ 100000) : n ≤ sizeLine := Nat.le_trans h (by decide)
theorem szl {n : Nat} (h : n < 100000) : n < sizeLine := Nat.lt_of_lt_of_le h (by decide)

theorem szr {n : Nat} (h : Nat.ble n 100000 = true) : n ≤ sizeLine := sz (Nat.le_of_ble_eq_true h)

/-! ### tuples stay, whatever else is changed -/
def Tups (H H' : Hp) : Prop := ∀ b xs, Rd H b (.tup xs) → Rd H' b (.tup xs)
theorem Tups.refl (H : Hp) : Tups H H := fun _ _ h => h
theorem Tups.trans {H H1 H2 : Hp} (a : Tups H H1) (b : Tups H1 H2) : Tups H H2 := fun c xs h => b c xs (a c xs h)
theorem tups_of {H H' : Hp} (e : Same H H') : Tups H H' := fun b xs h => same_rd e h
def Plain (u : HO) : Prop := match u with
  | .tup _ => False
  | .frz _ _ => False
  | _ => True
theorem Tups.mut {H H' : Hp} {p : Addr} {u o : HO} (a : Tups H H') (h : H' p = some u) (k : Plain u) : Tups H (upd H' p o) := fun b xs q => by
  have q := a b xs q
  have e : b ≠ p := fun e => by
    subst e
    rcases q with q | ⟨o, q⟩
    · rw [h] at q; cases q; exact k
    · rw [h] at q; cases q; exact k
  rcases q with q | ⟨o, q⟩
  · exact .inl (by rw [upd_ne e]; exact q)
  · exact .inr ⟨o, by rw [upd_ne e]; exact q⟩
theorem tups_chd {H H' : Hp} {p : Addr} {u : HO} (c : Chd p H H') (h : H p = some u) (k : Plain u) : Tups H H' := fun b xs q => by
  have e : b ≠ p := fun e => by
    subst e
    rcases q with q | ⟨o, q⟩
    · rw [h] at q; cases q; exact k
    · rw [h] at q; cases q; exact k
  rcases q with q | ⟨o, q⟩
  · exact .inl (c _ _ e q)
  · exact .inr ⟨o, c _ _ e q⟩
theorem tups_t {K : PySem.W.Frag} {H H' : Hp} {a : Addr} {xs : List V} (e : Tups H H') (h : SqT K H a xs) : SqT K H' a xs := by
  rcases h with h | h
  · exact .inl (e _ _ h)
  · exact .inr h

/-! ### what kind a thing is -/
inductive Knd (K : PySem.W.Frag) (H : Hp) : V → String → Prop where
  | non : Knd K H .non "NoneType"
  | bl (b : Bool) : Knd K H (.bl b) "bool"
  | int (i : Int) : Knd K H (.int i) "int"
  | str (z : Str) (h : z.length ≤ 100000) : Knd K H (.str z) "str"
  | lst {a : Addr} {xs : List V} (h : SqL K H a xs) : Knd K H (.ref a) "list"
  | tup {a : Addr} {xs : List V} (h : SqT K H a xs) : Knd K H (.ref a) "tuple"
  | dict {a : Addr} {kvs : List (Key × V)} (h : H a = some (.dK kvs)) : Knd K H (.ref a) "dict"
theorem ty_lst {K : PySem.W.Frag} {H : Hp} {a : Addr} {xs : List V} (h : SqL K H a xs) : TyX K H (.ref a) (.type "list") := by
  rcases h with (h | ⟨o, h⟩) | ⟨o, its, n, hk, hc, _⟩
  · exact .base (.lst h)
  · exact .base (.frz h)
  · exact .kList hk hc
theorem ty_tup {K : PySem.W.Frag} {H : Hp} {a : Addr} {xs : List V} (h : SqT K H a xs) : TyX K H (.ref a) (.type "tuple") := by
  rcases h with (h | ⟨o, h⟩) | ⟨o, its, n, hk, hc, _⟩
  · exact .base (.tup h)
  · exact .fTuple h
  · exact .kTuple hk hc
theorem Knd.ty {K : PySem.W.Frag} {H : Hp} {v : V} {n : String} (k : Knd K H v n) : TyX K H v (.type n) := by
  cases k with
  | non => exact .base .non
  | bl b => exact .base (.bl b)
  | int i => exact .base (.int i)
  | str z _ => exact .base (.str z)
  | lst h => exact ty_lst h
  | tup h => exact ty_tup h
  | dict h => exact .base (.dK h)
theorem Knd.mono {K : PySem.W.Frag} {H H' : Hp} {v : V} {n : String} (e : Same H H') (k : Knd K H v n) : Knd K H' v n := by
  cases k with
  | non => exact .non
  | bl b => exact .bl b
  | int i => exact .int i
  | str z h => exact .str z h
  | lst h => exact .lst (same_l e h)
  | tup h => exact .tup (same_t e h)
  | dict h => exact .dict (e _ _ h)
theorem Knd.str_inv {K : PySem.W.Frag} {H : Hp} {v : V} {n : String} (k : Knd K H v n) (e : n = "str") : ∃ z, v = .str z ∧ z.length ≤ 100000 := by
  cases k <;> first | exact ⟨_, rfl, by assumption⟩ | exact absurd e (by decide)
theorem Knd.isStr {K : PySem.W.Frag} {H : Hp} {v : V} {n : String} (k : Knd K H v n) : kitB n "str" = some (n == "str") := by
  cases k <;> decide +kernel
theorem Knd.isTup {K : PySem.W.Frag} {H : Hp} {v : V} {n : String} (k : Knd K H v n) : kitB n "tuple" = some (n == "tuple") := by
  cases k <;> decide +kernel
theorem Knd.isList {K : PySem.W.Frag} {H : Hp} {v : V} {n : String} (k : Knd K H v n) : kitB n "list" = some (n == "list") := by
  cases k <;> decide +kernel
theorem Knd.isBool {K : PySem.W.Frag} {H : Hp} {v : V} {n : String} (k : Knd K H v n) : kitB n "bool" = some (n == "bool") := by
  cases k <;> decide +kernel
theorem Knd.isInt {K : PySem.W.Frag} {H : Hp} {v : V} {n : String} (k : Knd K H v n) : kitB n "int" = some (n == "int" || n == "bool") := by
  cases k <;> decide +kernel

/-! ### a walk over a text -/
theorem for_str {x : Str} {g : TG} {tb : TS} {D : Ends} {σ : L2.St} {H : Hp} (Pv : Nat → L2.St → Hp → Prop) (h0 : Pv 0 σ H)
    (hs : ∀ (i c : Nat) (σ : L2.St) (H : Hp), x.cps.toList[i]? = some c → Pv i σ H → g (.str ⟨#[c]⟩) σ H fun σ2 H2 => tb { D with nx := Pv (i + 1), ct := Pv (i + 1), bk := D.nx } σ2 H2) (hd : ∀ σ H, Pv x.cps.toList.length σ H → D.nx σ H) :
    ∃ W : Nat → Nat → L2.St → Hp → Prop, (∃ m, W 0 m σ H) ∧ ∀ i m σ H, W i m σ H →
      ((Its x).stop i H ∧ D.nx σ H) ∨ ((Its x).go i H ∧ ∃ N : L2.St → Hp → Prop, (∀ σ' H', N σ' H' → ∃ m', m' < m ∧ W (i + 1) m' σ' H') ∧ ∀ y H', (Its x).yld i H y H' → g y σ H' fun σ2 H2 => tb { D with nx := N, ct := N, bk := D.nx } σ2 H2) := by
  have hsz : x.cps.toList.length = x.cps.size := by simp
  refine ⟨fun i m σ H => m = x.cps.size - i ∧ i ≤ x.cps.size ∧ Pv i σ H, ⟨x.cps.size, by simp, Nat.zero_le _, h0⟩, ?_⟩
  rintro i m σ H ⟨rfl, hi, p⟩
  by_cases hlt : i < x.cps.size
  · refine .inr ⟨hlt, Pv (i + 1), fun σ' H' p' => ⟨x.cps.size - (i + 1), by omega, rfl, hlt, p'⟩, fun y H' q => ?_⟩
    obtain ⟨e, c, hc, ey⟩ := q
    subst e ey
    exact hs i c σ _ (by rw [Array.getElem?_toList]; exact hc) p
  · have e : i = x.cps.size := by omega
    subst e
    exact .inl ⟨Nat.le_refl _, hd σ H (by rw [hsz]; exact p)⟩

/-! ### small letters -/
abbrev az : Str := "abcdefghijklmnopqrstuvwxyz"
theorem az_codes : az.cps.toList = (List.range 26).map (· + 97) := by decide +kernel
theorem az_len : az.cps.toList.length = 26 := by rw [az_codes]; rfl
theorem az_sz : az.length ≤ sizeLine := by
  have e : az.length = 26 := by rw [← az_len]; simp [Str.length]
  rw [e]; decide
theorem az_at {i : Int} (h0 : 0 ≤ i) (h : i < 26) : atI az.cps.toList i = some (i.toNat + 97) := by
  refine at_nat (j := i.toNat) (by omega) ?_
  rw [az_codes, List.getElem?_map, List.getElem?_range (by omega)]
  rfl
theorem az_mem {c : Nat} : c ∈ az.cps.toList ↔ 97 ≤ c ∧ c ≤ 122 := by
  rw [az_codes, List.mem_map]
  constructor
  · rintro ⟨a, h, rfl⟩
    have := List.mem_range.mp h
    omega
  · rintro ⟨h1, h2⟩
    exact ⟨c - 97, List.mem_range.mpr (by omega), by omega⟩
/-- a text of n small letters -/
structure Az (z : Str) (n : Nat) : Prop where
  all : ∀ c ∈ z.cps.toList, 97 ≤ c ∧ c ≤ 122
  len : z.length = n
theorem str_len (z : Str) : z.length = z.cps.toList.length := by simp [Str.length]
theorem str_app_len (a b : Str) : (a ++ b).length = a.length + b.length := Str.length_append a b
theorem str_app_codes (a b : Str) : (a ++ b).cps.toList = a.cps.toList ++ b.cps.toList := by
  show (a.cps ++ b.cps).toList = _
  simp
theorem Az.one {c : Nat} (h : 97 ≤ c ∧ c ≤ 122) : Az ⟨#[c]⟩ 1 where
  all := fun d hd => by
    have e : d = c := by simpa using hd
    rw [e]
    exact h
  len := rfl
theorem Az.app {a b : Str} {n m : Nat} (h : Az a n) (k : Az b m) : Az (a ++ b) (n + m) where
  all := fun c hc => by
    rw [str_app_codes] at hc
    rcases List.mem_append.mp hc with q | q
    · exact h.all c q
    · exact k.all c q
  len := by rw [str_app_len, h.len, k.len]
theorem Az.nil : Az "" 0 where
  all := fun c hc => by
    have e : ("" : Str).cps.toList = [] := by decide +kernel
    rw [e] at hc
    cases hc
  len := by decide +kernel
theorem Az.ok {z : Str} {n : Nat} (h : Az z n) : PyData.strOk z = true := by
  unfold PyData.strOk
  rw [Array.all_eq_true']
  intro c hc
  have := h.all c (Array.mem_toList_iff.mpr hc)
  exact decide_eq_true (by omega)

theorem cutV_map {α : Type} (f : α → V) (ns : List α) (lo hi : Option Int) : ∃ ms : List α, cutV (ns.map f) lo hi = ms.map f ∧ ms.length ≤ ns.length := by
  refine ⟨(ns.drop (HT.sIx (ns.map f).length 0 lo)).take (HT.sIx (ns.map f).length (ns.map f).length hi - HT.sIx (ns.map f).length 0 lo), ?_, ?_⟩
  · unfold cutV
    rw [List.map_take, List.map_drop]
  · rw [List.length_take, List.length_drop]
    omega
theorem cut_dp {α : Type} {K : PySem.W.Frag} {H : Hp} (f : α → PyData) {ns : List α} {xs : List V} (h : DpAll K H xs (ns.map f)) (lo hi : Option Int) : ∃ ms : List α, DpAll K H (cutV xs lo hi) (ms.map f) ∧ ∀ m ∈ ms, m ∈ ns := by
  unfold cutV
  generalize HT.sIx xs.length 0 lo = d
  generalize HT.sIx xs.length xs.length hi - d = e
  refine ⟨(ns.drop d).take e, ?_, fun m hm => List.mem_of_mem_drop (List.mem_of_mem_take hm)⟩
  rw [List.map_take, List.map_drop]
  exact dpAll_take _ (dpAll_drop _ h)
/-! ### comprehensions over a list -/
section
variable {K : PySem.W.Frag} {H : Hp}
/-- [e for x in xs], each e a value that leaves what stood -/
theorem lc_map {a : Addr} {xs : List V} {tl te : TE} {j : Nat} {σ : L2.St} {Q : VK} (f : Nat → V) (hl : SqL K H a xs) (htl : ∀ R, R (.ref a) H → tl σ H R) (hz : xs.length < 100000) (hw : ∀ x, wipe ((wipe σ [j]).set j (some x)) [j] = wipe σ [j])
    (he : ∀ (i : Nat) (x : V) (H1 : Hp) (R : VK), xs[i]? = some x → Same H H1 → (∀ H2, Same H1 H2 → R (f i) H2) → te ((wipe σ [j]).set j (some x)) H1 R)
    (q : ∀ (p : Addr) (H2 : Hp), H p = none → Same H H2 → H2 p = some (.lst ((List.range xs.length).map f)) → Q (.ref p) H2) : uLc (iList K tl) (gName j) tYes te [j] σ H Q := by
  refine uLc_of (htl _ ⟨a, rfl, ⟨xs, hl⟩, fun D hD => lc_list (K := K) (a := a) (xs := xs) (fun i H' => Same H H' ∧ H' D = some (.lst ((List.range i).map f))) ⟨same_new hD, upd_same⟩ (fun i H' _ h => same_l h.1 hl) ?_ ?_⟩)
  · rintro i x H' e ⟨s, hd⟩
    have hi : i < xs.length := (List.getElem?_eq_some_iff.mp e).1
    refine ⟨hw x, ?_⟩
    unfold tYes
    dsimp only
    rw [if_pos rfl]
    refine he i x H' _ e s fun H2 s2 => ⟨_, s2 _ _ hd, szl (by simp; omega), same_mut (s.trans s2) hD, ?_⟩
    rw [upd_same, List.range_succ, List.map_append]
    rfl
  · rintro H' ⟨s, hd⟩
    exact q D H' hD s hd
end

/-! ### rows -/
structure Row where
  n : Int
  one : Str
  other : Str
  rise : Int
deriving DecidableEq
def rowV (r : Row) : List V := [.int r.n, .str r.one, .str r.other, .int r.rise]
def rowD (r : Row) : PyData := .tuple [.int r.n, .str r.one, .str r.other, .int r.rise]
def rowsD (rows : List Row) : PyData := .list (rows.map rowD)
section
variable {K : PySem.W.Frag} {H H' : Hp}
theorem row_at {v : V} {r : Row} (h : Dp K H v (rowD r)) : ∃ a, v = .ref a ∧ SqT K H a (rowV r) := by
  obtain ⟨a, xs, rfl, h, al⟩ := dp_tup h
  obtain ⟨_, _, rfl, h1, al⟩ := dpAll_cons al
  obtain ⟨_, _, rfl, h2, al⟩ := dpAll_cons al
  obtain ⟨_, _, rfl, h3, al⟩ := dpAll_cons al
  obtain ⟨_, _, rfl, h4, al⟩ := dpAll_cons al
  obtain rfl := dpAll_nil al
  obtain rfl := dp_int h1
  obtain rfl := dp_str h2
  obtain rfl := dp_str h3
  obtain rfl := dp_int h4
  exact ⟨a, rfl, h⟩
theorem row_mk {a : Addr} {r : Row} (h : SqT K H a (rowV r)) : Dp K H (.ref a) (rowD r) := .tup h (.cons (.int _) (.cons (.str _) (.cons (.str _) (.cons (.int _) .nil))))
theorem rows_at {v : V} {rows : List Row} (h : Dp K H v (rowsD rows)) : ∃ a xs, v = .ref a ∧ SqL K H a xs ∧ xs.length = rows.length ∧ (∀ (i : Nat) x, xs[i]? = some x → ∃ r t, rows[i]? = some r ∧ x = .ref t ∧ SqT K H t (rowV r)) := by
  obtain ⟨a, xs, rfl, h, al⟩ := dp_lst h
  refine ⟨a, xs, rfl, h, by rw [dpAll_length al, List.length_map], fun i x e => ?_⟩
  obtain ⟨d, hd, h1⟩ := dpAll_get al e
  rw [List.getElem?_map] at hd
  cases er : rows[i]? with
  | none => rw [er] at hd; cases hd
  | some r =>
    rw [er] at hd
    have e : rowD r = d := Option.some.inj hd
    subst e
    obtain ⟨t, rfl, h2⟩ := row_at h1
    exact ⟨r, t, rfl, rfl, h2⟩
theorem row_tups {v : V} {r : Row} (e : Tups H H') (h : Dp K H v (rowD r)) : Dp K H' v (rowD r) := by
  obtain ⟨a, rfl, h2⟩ := row_at h
  exact row_mk (tups_t e h2)
theorem prows_tups (e : Tups H H') : ∀ {rows : List Row} {xs : List V}, DpAll K H xs (rows.map rowD) → DpAll K H' xs (rows.map rowD)
  | [], _, .nil => .nil
  | r :: rows, _, .cons a b => .cons (row_tups e a) (prows_tups e b)
theorem rowD_eqv (r s : Row) : PyData.eqv (rowD r) (rowD s) = decide (r = s) := by
  obtain ⟨a, b, c, d⟩ := r
  obtain ⟨a', b', c', d'⟩ := s
  have e : PyData.eqv (rowD ⟨a, b, c, d⟩) (rowD ⟨a', b', c', d'⟩) = ((a == a') && ((b == b') && ((c == c') && ((d == d') && true)))) := by simp only [rowD, PyData.eqv, PyData.eqvAll]
  rw [e]
  by_cases h : (⟨a, b, c, d⟩ : Row) = ⟨a', b', c', d'⟩
  · cases h; simp
  · rw [decide_eq_false h]
    by_cases h1 : a = a'
    · by_cases h2 : b = b'
      · by_cases h3 : c = c'
        · by_cases h4 : d = d'
          · exact absurd (by rw [h1, h2, h3, h4]) h
          · simp [h4]
        · simp [h3]
      · simp [h2]
    · simp [h1]
theorem rowsD_eqv : ∀ (a b : List Row), PyData.eqvAll (a.map rowD) (b.map rowD) = decide (a = b)
  | [], [] => by simp [PyData.eqvAll]
  | [], _ :: _ => by simp [PyData.eqvAll]
  | _ :: _, [] => by simp [PyData.eqvAll]
  | r :: a, s :: b => by
    rw [List.map_cons, List.map_cons, PyData.eqvAll, rowD_eqv, rowsD_eqv a b]
    by_cases h1 : r = s
    · by_cases h2 : a = b
      · simp [h1, h2]
      · simp [h1, h2]
    · simp [h1]
/-- a row's texts are texts -/
def Row.Ok (r : Row) : Prop := PyData.strOk r.one = true ∧ PyData.strOk r.other = true
theorem rowD_lay {r : Row} (h : r.Ok) : (rowD r).canLay0 = true := by simp [rowD, PyData.canLay0, PyData.canLayAll0, h.1, h.2]
theorem rowD_depth (r : Row) : (rowD r).depth = 1 := by simp [rowD, PyData.depth, PyData.depthAll]
theorem rowD_shaped {r : Row} (h : r.Ok) : SeqAt.shaped (rowD r) = true := by
  show ((rowD r).canLay0 && decide ((rowD r).depth ≤ 64)) = true
  rw [Bool.and_eq_true, rowD_depth]
  exact ⟨rowD_lay h, by decide⟩
theorem rowsD_lay : ∀ {rows : List Row}, (∀ r ∈ rows, r.Ok) → PyData.canLayAll0 (rows.map rowD) = true
  | [], _ => by simp [PyData.canLayAll0]
  | r :: rows, h => by simp [PyData.canLayAll0, rowD_lay (h r (List.mem_cons_self ..)), rowsD_lay fun s hs => h s (List.mem_cons_of_mem _ hs)]
theorem rowsD_depth : ∀ rows : List Row, PyData.depthAll (rows.map rowD) ≤ 1
  | [] => by simp [PyData.depthAll]
  | r :: rows => by
    have h1 := rowsD_depth rows
    have h2 := rowD_depth r
    simp only [List.map_cons, PyData.depthAll]
    omega
theorem rowsD_shaped {rows : List Row} (h : ∀ r ∈ rows, r.Ok) : SeqAt.shaped (rowsD rows) = true := by
  have h1 := rowsD_depth rows
  have h2 : PyData.depth (rowsD rows) ≤ 64 := by
    simp only [rowsD, PyData.depth]
    omega
  show (PyData.canLay0 (rowsD rows) && decide (PyData.depth (rowsD rows) ≤ 64)) = true
  rw [Bool.and_eq_true]
  exact ⟨by simp only [rowsD, PyData.canLay0]; exact rowsD_lay h, decide_eq_true h2⟩
end
end Peg

/-! PegM: pegs, rows, ways: the mathematics, no program in sight. -/
namespace Peg
open PySem

def Row.turn (r : Row) : Row := ⟨r.n, r.other, r.one, 0 - r.rise⟩
theorem Row.turn_turn (r : Row) : r.turn.turn = r := by
  obtain ⟨a, b, c, d⟩ := r
  show (⟨a, b, c, 0 - (0 - d)⟩ : Row) = ⟨a, b, c, d⟩
  have e : 0 - (0 - d) = d := by omega
  rw [e]
def IsStep (rows : List Row) (s : Row) : Prop := s ∈ rows ∨ s.turn ∈ rows
theorem IsStep.turn {rows : List Row} {s : Row} (h : IsStep rows s) : IsStep rows s.turn := by
  rcases h with h | h
  · exact .inr (by rw [Row.turn_turn]; exact h)
  · exact .inl h
/-- what is laid under the pegs, in its order -/
def adds (rows : List Row) : List Row := rows.flatMap fun r => [r, r.turn]
theorem mem_adds {rows : List Row} {s : Row} : s ∈ adds rows ↔ IsStep rows s := by
  unfold adds
  rw [List.mem_flatMap]
  constructor
  · rintro ⟨r, hr, h⟩
    rcases List.mem_cons.mp h with rfl | h
    · exact .inl hr
    · have h : s = r.turn := by simpa using h
      subst h
      exact .inr (by rw [Row.turn_turn]; exact hr)
  · rintro (h | h)
    · exact ⟨s, h, by simp⟩
    · exact ⟨s.turn, h, by rw [Row.turn_turn]; simp⟩
theorem adds_snoc (rows : List Row) (r : Row) : adds (rows ++ [r]) = adds rows ++ [r] ++ [r.turn] := by
  unfold adds
  rw [List.flatMap_append, List.append_assoc]
  rfl
theorem adds_len (rows : List Row) : (adds rows).length = 2 * rows.length := by
  unfold adds
  induction rows with
  | nil => rfl
  | cons r rows ih =>
    rw [List.flatMap_cons, List.length_append, ih, List.length_cons]
    simp only [List.length_cons, List.length_nil]
    omega
/-- the steps that go from p -/
def from_ (S : List Row) (p : Str) : List Row := S.filter fun s => decide (s.one = p)
theorem mem_from {S : List Row} {p : Str} {s : Row} : s ∈ from_ S p ↔ s ∈ S ∧ s.one = p := by
  unfold from_
  rw [List.mem_filter]
  simp
theorem from_snoc_same (S : List Row) (s : Row) : from_ (S ++ [s]) s.one = from_ S s.one ++ [s] := by
  unfold from_
  rw [List.filter_append]
  simp
theorem from_snoc_ne (S : List Row) (s : Row) {p : Str} (h : p ≠ s.one) : from_ (S ++ [s]) p = from_ S p := by
  unfold from_
  rw [List.filter_append]
  have e : decide (s.one = p) = false := decide_eq_false (fun q => h q.symm)
  simp [e]
theorem from_len (S : List Row) (p : Str) : (from_ S p).length ≤ S.length := List.length_filter_le ..

/-! ### ways -/
inductive Way (rows : List Row) : Str → List Row → Str → Prop where
  | nil (a : Str) : Way rows a [] a
  | cons {s : Row} {ss : List Row} {b : Str} (h : IsStep rows s) (t : Way rows s.other ss b) : Way rows s.one (s :: ss) b
theorem Way.append {rows : List Row} {a b c : Str} {ss ts : List Row} (h : Way rows a ss b) (k : Way rows b ts c) : Way rows a (ss ++ ts) c := by
  induction h with
  | nil a => exact k
  | cons h t ih => exact .cons h (ih k)
theorem Way.one {rows : List Row} {s : Row} (h : IsStep rows s) : Way rows s.one [s] s.other := .cons h (.nil _)
theorem Way.mono {rows rows' : List Row} {a b : Str} {ss : List Row} (w : ∀ s, IsStep rows s → IsStep rows' s) (h : Way rows a ss b) : Way rows' a ss b := by
  induction h with
  | nil a => exact .nil a
  | cons h t ih => exact .cons (w _ h) ih
def Reach (rows : List Row) (a b : Str) : Prop := ∃ ss, Way rows a ss b
theorem Reach.refl (rows : List Row) (a : Str) : Reach rows a a := ⟨[], .nil a⟩
theorem Reach.trans {rows : List Row} {a b c : Str} (h : Reach rows a b) (k : Reach rows b c) : Reach rows a c := by
  obtain ⟨ss, h⟩ := h
  obtain ⟨ts, k⟩ := k
  exact ⟨_, h.append k⟩
theorem Reach.step {rows : List Row} {s : Row} (h : IsStep rows s) : Reach rows s.one s.other := ⟨_, .one h⟩
theorem Reach.snoc {rows : List Row} {a : Str} {s : Row} (h : Reach rows a s.one) (k : IsStep rows s) : Reach rows a s.other := h.trans (.step k)
theorem Way.symm {rows : List Row} {a b : Str} {ss : List Row} (h : Way rows a ss b) : Reach rows b a := by
  induction h with
  | nil a => exact .refl _ _
  | cons h t ih =>
    have k : Reach rows _ _ := .step h.turn
    exact ih.trans k
theorem Reach.symm {rows : List Row} {a b : Str} (h : Reach rows a b) : Reach rows b a := let ⟨_, w⟩ := h; w.symm
theorem Reach.mono {rows rows' : List Row} {a b : Str} (w : ∀ s, IsStep rows s → IsStep rows' s) (h : Reach rows a b) : Reach rows' a b := let ⟨ss, k⟩ := h; ⟨ss, k.mono w⟩
/-- what is closed under the steps has all that is come to -/
theorem Reach.closed {rows : List Row} {a b : Str} {S : Str → Prop} (h : ∀ s, IsStep rows s → S s.one → S s.other) (ha : S a) (r : Reach rows a b) : S b := by
  obtain ⟨ss, w⟩ := r
  induction w with
  | nil a => exact ha
  | cons k t ih => exact ih (h _ k ha)
/-- closed under the rows, either way -/
theorem Reach.closedR {rows : List Row} {a b : Str} {S : Str → Prop} (h : ∀ r ∈ rows, S r.one ↔ S r.other) (ha : S a) (r : Reach rows a b) : S b := r.closed (fun s k hs => by
  rcases k with k | k
  · exact (h s k).mp hs
  · exact (h s.turn k).mpr hs) ha

/-! ### lists without the same twice -/
theorem nodup_len {α : Type} [DecidableEq α] : ∀ {l m : List α}, l.Nodup → (∀ x ∈ l, x ∈ m) → l.length ≤ m.length
  | [], m, _, _ => Nat.zero_le _
  | x :: l, m, h, k => by
    obtain ⟨h1, h2⟩ := List.nodup_cons.mp h
    have hx : x ∈ m := k x (List.mem_cons_self ..)
    have e : ∀ y ∈ l, y ∈ m.erase x := fun y hy => by
      have ne : y ≠ x := fun e => h1 (e ▸ hy)
      exact (List.mem_erase_of_ne ne).mpr (k y (List.mem_cons_of_mem _ hy))
    have ih := nodup_len h2 e
    rw [List.length_erase_of_mem hx] at ih
    have : 0 < m.length := List.length_pos_of_mem hx
    rw [List.length_cons]
    omega
theorem nodup_snoc {α : Type} {l : List α} {x : α} (h : l.Nodup) (hx : ¬ x ∈ l) : (l ++ [x]).Nodup := by
  rw [List.nodup_append]
  exact ⟨h, by simp, fun a ha b hb e => by
    have hb : b = x := by simpa using hb
    rw [e, hb] at ha
    exact hx ha⟩

/-! ### what the search leaves -/
abbrev Last := List (Str × Option Row)
def Last.keys (B : Last) : List Str := B.map (·.1)
/-- each peg's last step, the pegs in the order of finding -/
structure Tree (rows : List Row) (one : Str) (B : Last) : Prop where
  nd : B.keys.Nodup
  hd : B[0]? = some (one, none)
  par : ∀ (i : Nat) (p : Str) (o : Option Row), B[i]? = some (p, o) → 0 < i → ∃ (s : Row) (j : Nat) (q : Option Row), o = some s ∧ IsStep rows s ∧ s.other = p ∧ j < i ∧ B[j]? = some (s.one, q)
structure Bfs (rows : List Row) (one : Str) (B : Last) : Prop extends Tree rows one B where
  clo : ∀ s, IsStep rows s → s.one ∈ B.keys → s.other ∈ B.keys
theorem Last.get_key {B : Last} {p : Str} (h : p ∈ B.keys) : ∃ (i : Nat) (o : Option Row), B[i]? = some (p, o) := by
  obtain ⟨⟨q, o⟩, hb, e⟩ := List.mem_map.mp h
  obtain ⟨i, hi, e2⟩ := List.mem_iff_getElem.mp hb
  have e : q = p := e
  subst e
  exact ⟨i, o, by rw [List.getElem?_eq_getElem hi, e2]⟩
theorem Last.mem_key {B : Last} {i : Nat} {p : Str} {o : Option Row} (h : B[i]? = some (p, o)) : p ∈ B.keys := List.mem_map.mpr ⟨(p, o), List.mem_of_getElem? h, rfl⟩
theorem Last.uniq {B : Last} (nd : B.keys.Nodup) {i j : Nat} {p : Str} {o o' : Option Row} (h : B[i]? = some (p, o)) (k : B[j]? = some (p, o')) : i = j ∧ o = o' := by
  have e1 : B.keys[i]? = some p := by unfold Last.keys; rw [List.getElem?_map, h]; rfl
  have e2 : B.keys[j]? = some p := by unfold Last.keys; rw [List.getElem?_map, k]; rfl
  obtain ⟨hi, ei⟩ := List.getElem?_eq_some_iff.mp e1
  obtain ⟨hj, ej⟩ := List.getElem?_eq_some_iff.mp e2
  have e : i = j := (List.getElem_inj nd).mp (ei.trans ej.symm)
  subst e
  rw [h] at k
  exact ⟨rfl, (Prod.mk.inj (Option.some.inj k)).2⟩
section
variable {rows : List Row} {one : Str} {B : Last}
theorem Tree.reach (T : Tree rows one B) : ∀ (i : Nat) (p : Str) (o : Option Row), B[i]? = some (p, o) → Reach rows one p := by
  intro i
  induction i using Nat.strongRecOn with
  | ind i ih =>
    intro p o h
    by_cases h0 : 0 < i
    · obtain ⟨s, j, q, rfl, hs, rfl, hj, hq⟩ := T.par i p o h h0
      exact (ih j hj _ _ hq).snoc hs
    · have e : i = 0 := by omega
      subst e
      rw [T.hd] at h
      cases h
      exact .refl _ _
theorem Tree.mem (T : Tree rows one B) {p : Str} (h : p ∈ B.keys) : Reach rows one p := by
  obtain ⟨i, o, e⟩ := Last.get_key h
  exact T.reach i p o e
theorem Tree.one_mem (T : Tree rows one B) : one ∈ B.keys := Last.mem_key T.hd
theorem Bfs.iff (T : Bfs rows one B) {p : Str} : p ∈ B.keys ↔ Reach rows one p :=
  ⟨T.toTree.mem, fun r => r.closed (S := fun p => p ∈ B.keys) T.clo T.one_mem⟩
/-- the first peg alone -/
theorem Tree.start (rows : List Row) (one : Str) : Tree rows one [(one, none)] where
  nd := by simp [Last.keys]
  hd := rfl
  par := fun i p o h h0 => by
    have : i < 1 := (List.getElem?_eq_some_iff.mp h).1
    omega
/-- one more peg -/
theorem Tree.snoc (T : Tree rows one B) {s : Row} {j : Nat} {q : Option Row} (hs : IsStep rows s) (hj : B[j]? = some (s.one, q)) (n : ¬ s.other ∈ B.keys) : Tree rows one (B ++ [(s.other, some s)]) where
  nd := by
    unfold Last.keys
    rw [List.map_append]
    exact nodup_snoc T.nd n
  hd := by
    have h0 : 0 < B.length := (List.getElem?_eq_some_iff.mp T.hd).1
    rw [List.getElem?_append_left h0]
    exact T.hd
  par := fun i p o h h0 => by
    have hjl : j < B.length := (List.getElem?_eq_some_iff.mp hj).1
    by_cases hi : i < B.length
    · rw [List.getElem?_append_left hi] at h
      obtain ⟨s', j', q', e1, e2, e3, e4, e5⟩ := T.par i p o h h0
      exact ⟨s', j', q', e1, e2, e3, e4, by rw [List.getElem?_append_left (by omega)]; exact e5⟩
    · have hl : i < (B ++ [(s.other, some s)]).length := (List.getElem?_eq_some_iff.mp h).1
      rw [List.length_append] at hl
      have e : i = B.length := by simp at hl; omega
      subst e
      rw [List.getElem?_append_right (Nat.le_refl _), Nat.sub_self] at h
      cases h
      exact ⟨s, j, q, rfl, hs, rfl, hjl, by rw [List.getElem?_append_left hjl]; exact hj⟩

/-! ### the way back: the places of the pegs rise along it -/
inductive Up (rows : List Row) (B : Last) : Nat → List Row → Nat → Prop where
  | nil {j : Nat} (h : j < B.length) : Up rows B j [] j
  | cons {s : Row} {ss : List Row} {i j k : Nat} {q : Option Row} (h : IsStep rows s) (hi : B[i]? = some (s.one, q)) (hj : B[j]? = some (s.other, some s)) (hl : i < j) (t : Up rows B j ss k) : Up rows B i (s :: ss) k
theorem Up.lt {i k : Nat} {ss : List Row} (u : Up rows B i ss k) : i < B.length := by
  cases u with
  | nil h => exact h
  | cons h hi hj hl t => exact (List.getElem?_eq_some_iff.mp hi).1
theorem Up.way {i k : Nat} {ss : List Row} (u : Up rows B i ss k) : ∀ {a b : Str} {o o' : Option Row}, B[i]? = some (a, o) → B[k]? = some (b, o') → Way rows a ss b := by
  induction u with
  | nil h =>
    intro a b o o' h1 h2
    rw [h1] at h2
    cases h2
    exact .nil _
  | @cons s ss i j k q h hi hj hl t ih =>
    intro a b o o' h1 h2
    rw [hi] at h1
    cases h1
    exact .cons h (ih hj h2)
theorem Up.above {i k : Nat} {ss : List Row} (u : Up rows B i ss k) : ∀ {b : Str} {o' : Option Row}, B[k]? = some (b, o') → ∀ p ∈ ss.map Row.one ++ [b], ∃ (m : Nat) (o : Option Row), i ≤ m ∧ B[m]? = some (p, o) := by
  induction u with
  | @nil j h =>
    intro b o' h2 p hp
    have e : p = b := by simpa using hp
    subst e
    exact ⟨_, _, Nat.le_refl _, h2⟩
  | @cons s ss i j k q h hi hj hl t ih =>
    intro b o' h2 p hp
    rw [List.map_cons, List.cons_append] at hp
    rcases List.mem_cons.mp hp with rfl | hp
    · exact ⟨i, q, Nat.le_refl _, hi⟩
    · obtain ⟨m, o, hm, e⟩ := ih h2 p hp
      exact ⟨m, o, by omega, e⟩
/-- no peg comes twice -/
def Simple (ss : List Row) (b : Str) : Prop := (ss.map Row.one ++ [b]).Nodup
theorem Up.simple (nd : B.keys.Nodup) {i k : Nat} {ss : List Row} (u : Up rows B i ss k) : ∀ {b : Str} {o' : Option Row}, B[k]? = some (b, o') → Simple ss b := by
  induction u with
  | nil h =>
    intro b o' h2
    simp [Simple]
  | @cons s ss i j k q h hi hj hl t ih =>
    intro b o' h2
    unfold Simple
    rw [List.map_cons, List.cons_append, List.nodup_cons]
    refine ⟨fun hm => ?_, ih h2⟩
    obtain ⟨m, o, hle, e⟩ := t.above h2 _ hm
    have := (Last.uniq nd e hi).1
    omega
end
end Peg

/-! PegH: how links and last steps lie in the heap. -/
namespace Peg
open PySem PySem.Spec PyProof.Rows L2 U

/-! ### dicts by their pairs -/
theorem nd_inj {α β : Type} {f : α → β} : ∀ {l : List α} {a b : α}, (l.map f).Nodup → a ∈ l → b ∈ l → f a = f b → a = b
  | [], _, _, _, ha, _, _ => by cases ha
  | x :: l, a, b, h, ha, hb, e => by
    rw [List.map_cons] at h
    obtain ⟨h1, h2⟩ := List.nodup_cons.mp h
    rcases List.mem_cons.mp ha with ea | ha2
    · rcases List.mem_cons.mp hb with eb | hb2
      · exact ea.trans eb.symm
      · exact absurd (List.mem_map.mpr ⟨b, hb2, by rw [← e, ea]⟩) h1
    · rcases List.mem_cons.mp hb with eb | hb2
      · exact absurd (List.mem_map.mpr ⟨a, ha2, by rw [e, eb]⟩) h1
      · exact nd_inj h2 ha2 hb2 e
section
variable {κ : Type} [DecidableEq κ]
theorem valV_mem : ∀ {kvs : List (κ × V)} {k : κ} {v : V}, (kvs.map (·.1)).Nodup → (k, v) ∈ kvs → valV kvs k = some v
  | [], _, _, _, h => by cases h
  | p :: r, k, v, nd, h => by
    rw [List.map_cons] at nd
    obtain ⟨h1, h2⟩ := List.nodup_cons.mp nd
    rcases List.mem_cons.mp h with e | h
    · subst e
      exact valV_pos rfl
    · rw [valV_neg (fun e => h1 (List.mem_map.mpr ⟨(k, v), h, e.symm⟩))]
      exact valV_mem h2 h
theorem valV_no : ∀ {kvs : List (κ × V)} {k : κ}, ¬ k ∈ kvs.map (·.1) → valV kvs k = none
  | [], _, _ => valV_nil
  | p :: r, k, h => by
    rw [List.map_cons, List.mem_cons, not_or] at h
    rw [valV_neg (fun e => h.1 e.symm)]
    exact valV_no h.2
end

/-! ### the links -/
structure Links (K : PySem.W.Frag) (H : Hp) (d : Addr) (S : List Row) (L : List (Str × Addr × List V)) : Prop where
  dict : H d = some (.dK (L.map fun e => ((Sum.inr e.1 : Key), V.ref e.2.1)))
  nd : (L.map (·.1)).Nodup
  na : (L.map (·.2.1)).Nodup
  it : ∀ e ∈ L, H e.2.1 = some (.lst e.2.2) ∧ DpAll K H e.2.2 ((from_ S e.1).map rowD)
  sub : ∀ s ∈ S, s.one ∈ L.map (·.1)
section
variable {K : PySem.W.Frag} {H H' : Hp} {d : Addr} {S : List Row} {L : List (Str × Addr × List V)}
theorem Links.mono (e : Same H H') (h : Links K H d S L) : Links K H' d S L :=
  ⟨e _ _ h.dict, h.nd, h.na, fun x hx => ⟨e _ _ (h.it x hx).1, dpAll_mono e (h.it x hx).2⟩, h.sub⟩
theorem Links.keys (h : Links K H d S L) : ((L.map fun e => ((Sum.inr e.1 : Key), V.ref e.2.1)).map (·.1)) = (L.map (·.1)).map Sum.inr := by
  rw [List.map_map, List.map_map]
  rfl
theorem nodup_inr {l : List Str} (h : l.Nodup) : (l.map (Sum.inr : Str → Key)).Nodup := by
  rw [List.nodup_iff_pairwise_ne, List.pairwise_map]
  exact (List.nodup_iff_pairwise_ne.mp h).imp fun {a b} n e => n (Sum.inr.inj e)
theorem Links.get (h : Links K H d S L) {e : Str × Addr × List V} (he : e ∈ L) : valV (L.map fun e => ((Sum.inr e.1 : Key), V.ref e.2.1)) (Sum.inr e.1) = some (.ref e.2.1) :=
  valV_mem (by rw [h.keys]; exact nodup_inr h.nd) (List.mem_map.mpr ⟨e, he, rfl⟩)
theorem Links.none (h : Links K H d S L) {p : Str} (hp : ¬ p ∈ L.map (·.1)) : valV (L.map fun e => ((Sum.inr e.1 : Key), V.ref e.2.1)) (Sum.inr p) = none :=
  valV_no (by
    rw [h.keys]
    intro m
    obtain ⟨q, hq, e⟩ := List.mem_map.mp m
    exact hp (Sum.inr.inj e ▸ hq))
theorem Links.empty (h : Links K H d S L) {p : Str} (hp : ¬ p ∈ L.map (·.1)) : from_ S p = [] := by
  unfold from_
  rw [List.filter_eq_nil_iff]
  intro s hs e
  exact hp (of_decide_eq_true e ▸ h.sub s hs)
/-- the list of a peg is another thing than the dict -/
theorem Links.ne (h : Links K H d S L) {e : Str × Addr × List V} (he : e ∈ L) : e.2.1 ≠ d := ne_of (h.it e he).1 h.dict (by intro z; cases z)

/-- a peg that has no list as yet -/
theorem Links.new (h : Links K H d S L) {k : Str} (hk : ¬ k ∈ L.map (·.1)) {z : Addr} {H1 H2 : Hp} (n : H z = Option.none) (s : Same H H1) (t : H1 z = some (.lst []))
    (c : Chd d H1 H2) (e : H2 d = some (.dK (putK (L.map fun e => ((Sum.inr e.1 : Key), V.ref e.2.1)) (Sum.inr k) (.ref z)))) : Links K H2 d S (L ++ [(k, z, [])]) := by
  have tp : Tups H H2 := (tups_of s).trans (tups_chd c (s _ _ h.dict) True.intro)
  have zd : z ≠ d := ne_of t (s _ _ h.dict) (by intro q; cases q)
  refine ⟨?_, ?_, ?_, fun x hx => ?_, fun s' hs => ?_⟩
  · rw [e, putK_new _ (h.none hk), List.map_append]
    rfl
  · rw [List.map_append]
    exact nodup_snoc h.nd hk
  · rw [List.map_append]
    refine nodup_snoc h.na fun m => ?_
    obtain ⟨x, hx, ex⟩ := List.mem_map.mp m
    have q := (h.it x hx).1
    rw [ex, n] at q
    cases q
  · rcases List.mem_append.mp hx with hx | hx
    · obtain ⟨a, b⟩ := h.it x hx
      exact ⟨c _ _ (h.ne hx) (s _ _ a), prows_tups tp b⟩
    · have ex : x = (k, z, []) := by simpa using hx
      subst ex
      refine ⟨c _ _ zd t, ?_⟩
      rw [h.empty hk]
      exact .nil
  · rw [List.map_append]
    exact List.mem_append_left _ (h.sub s' hs)
/-- one step more, at the end of its peg's list -/
theorem Links.add (h : Links K H d S L) {e : Str × Addr × List V} (he : e ∈ L) {s : Row} (hs : s.one = e.1) {v : V} (dv : Dp K H v (rowD s)) {H2 : Hp} (c : Chd e.2.1 H H2) (t : H2 e.2.1 = some (.lst (e.2.2 ++ [v]))) :
    Links K H2 d (S ++ [s]) (L.map fun x => if x.1 = e.1 then (x.1, x.2.1, x.2.2 ++ [v]) else x) := by
  have tp : Tups H H2 := tups_chd c (h.it e he).1 True.intro
  have m1 : (L.map fun x => if x.1 = e.1 then (x.1, x.2.1, x.2.2 ++ [v]) else x).map (·.1) = L.map (·.1) := by
    rw [List.map_map]
    refine List.map_congr_left fun x _ => ?_
    show (if x.1 = e.1 then (x.1, x.2.1, x.2.2 ++ [v]) else x).1 = x.1
    split <;> rfl
  have m2 : (L.map fun x => if x.1 = e.1 then (x.1, x.2.1, x.2.2 ++ [v]) else x).map (·.2.1) = L.map (·.2.1) := by
    rw [List.map_map]
    refine List.map_congr_left fun x _ => ?_
    show (if x.1 = e.1 then (x.1, x.2.1, x.2.2 ++ [v]) else x).2.1 = x.2.1
    split <;> rfl
  refine ⟨?_, by rw [m1]; exact h.nd, by rw [m2]; exact h.na, fun x hx => ?_, fun s' hs' => ?_⟩
  · rw [c _ _ (h.ne he).symm h.dict, List.map_map]
    refine congrArg (fun l => some (HO.dK l)) (List.map_congr_left fun x _ => ?_)
    show _ = ((Sum.inr (if x.1 = e.1 then (x.1, x.2.1, x.2.2 ++ [v]) else x).1 : Key), V.ref (if x.1 = e.1 then (x.1, x.2.1, x.2.2 ++ [v]) else x).2.1)
    split <;> rfl
  · obtain ⟨y, hy, ey⟩ := List.mem_map.mp hx
    by_cases q : y.1 = e.1
    · have ye : y = e := nd_inj h.nd hy he q
      subst ye
      rw [if_pos rfl] at ey
      subst ey
      refine ⟨t, ?_⟩
      show DpAll K H2 (y.2.2 ++ [v]) ((from_ (S ++ [s]) y.1).map rowD)
      rw [← hs, from_snoc_same, hs, List.map_append]
      exact dpAll_snoc (prows_tups tp (h.it y hy).2) (row_tups tp dv)
    · rw [if_neg q] at ey
      subst ey
      have ne : y.2.1 ≠ e.2.1 := fun z => q (by rw [nd_inj h.na hy he z])
      refine ⟨c _ _ ne (h.it y hy).1, ?_⟩
      rw [from_snoc_ne _ _ (by rw [hs]; exact q)]
      exact prows_tups tp (h.it y hy).2
  · rw [m1]
    rcases List.mem_append.mp hs' with q | q
    · exact h.sub s' q
    · have q : s' = s := by simpa using q
      subst q
      rw [hs]
      exact List.mem_map.mpr ⟨e, he, rfl⟩
end
/-- the links of the rows -/
def LinksOf (K : PySem.W.Frag) (H : Hp) (d : Addr) (rows : List Row) : Prop := ∃ L, Links K H d (adds rows) L ∧ ∀ p ∈ L.map (·.1), ∃ s, IsStep rows s ∧ s.one = p
theorem LinksOf.mono {K : PySem.W.Frag} {H H' : Hp} {d : Addr} {rows : List Row} (e : Same H H') (h : LinksOf K H d rows) : LinksOf K H' d rows := by
  obtain ⟨L, h, k⟩ := h
  exact ⟨L, h.mono e, k⟩

/-! ### the last steps -/
def OptRow (K : PySem.W.Frag) (H : Hp) (v : V) : Option Row → Prop
  | none => v = .non
  | some r => Dp K H v (rowD r)
theorem OptRow.tups {K : PySem.W.Frag} {H H' : Hp} (e : Tups H H') {v : V} : ∀ {o : Option Row}, OptRow K H v o → OptRow K H' v o
  | none, h => h
  | some _, h => row_tups e h
def LastKV (K : PySem.W.Frag) (H : Hp) : List (Key × V) → Last → Prop := Paired fun kv b => kv.1 = Sum.inr b.1 ∧ OptRow K H kv.2 b.2
def LastAt (K : PySem.W.Frag) (H : Hp) (p : Addr) (B : Last) : Prop := ∃ kvs, H p = some (.dK kvs) ∧ LastKV K H kvs B
section
variable {K : PySem.W.Frag} {H H' : Hp}
theorem LastKV.tups (e : Tups H H') {kvs : List (Key × V)} {B : Last} (h : LastKV K H kvs B) : LastKV K H' kvs B := Paired.mapP h fun a b q => ⟨q.1, q.2.tups e⟩
theorem LastAt.mono {p : Addr} {B : Last} (e : Same H H') (h : LastAt K H p B) : LastAt K H' p B := by
  obtain ⟨kvs, h1, h2⟩ := h
  exact ⟨kvs, e _ _ h1, h2.tups (tups_of e)⟩
theorem LastKV.keys : ∀ {kvs : List (Key × V)} {B : Last}, LastKV K H kvs B → kvs.map (·.1) = B.keys.map Sum.inr
  | _, _, .nil => rfl
  | _, _, .cons h t => by
    have ih := LastKV.keys t
    exact congr (congrArg List.cons h.1) ih
theorem LastKV.length {kvs : List (Key × V)} {B : Last} (h : LastKV K H kvs B) : kvs.length = B.length := Paired.length h
theorem LastKV.snoc : ∀ {kvs : List (Key × V)} {B : Last} {kv : Key × V} {b : Str × Option Row}, LastKV K H kvs B → (kv.1 = Sum.inr b.1 ∧ OptRow K H kv.2 b.2) → LastKV K H (kvs ++ [kv]) (B ++ [b])
  | _, _, _, _, .nil, e => .cons e .nil
  | _, _, _, _, .cons a t, e => .cons a (LastKV.snoc t e)
theorem LastKV.has {kvs : List (Key × V)} {B : Last} (h : LastKV K H kvs B) (p : Str) : (valV kvs (Sum.inr p)).isSome = decide (p ∈ B.keys) := by
  by_cases m : p ∈ B.keys
  · rw [decide_eq_true m]
    have q : (Sum.inr p : Key) ∈ kvs.map (·.1) := by rw [h.keys]; exact List.mem_map.mpr ⟨p, m, rfl⟩
    cases e : valV kvs (Sum.inr p) with
    | some v => rfl
    | none => exact absurd q (valV_not e)
  · rw [decide_eq_false m]
    have q : ¬ (Sum.inr p : Key) ∈ kvs.map (·.1) := by
      rw [h.keys]
      intro z
      obtain ⟨y, hy, e⟩ := List.mem_map.mp z
      exact m (Sum.inr.inj e ▸ hy)
    rw [valV_no q]
    rfl
theorem LastKV.get : ∀ {kvs : List (Key × V)} {B : Last} {i : Nat} {p : Str} {o : Option Row}, LastKV K H kvs B → B.keys.Nodup → B[i]? = some (p, o) → ∃ v, valV kvs (Sum.inr p) = some v ∧ OptRow K H v o
  | _, _, i, p, o, .nil, _, e => by simp at e
  | kv :: kvs, b :: B, 0, p, o, .cons h t, nd, e => by
    have e : b = (p, o) := Option.some.inj e
    subst e
    exact ⟨kv.2, valV_pos h.1, h.2⟩
  | kv :: kvs, b :: B, i + 1, p, o, .cons h t, nd, e => by
    have nd : (b.1 :: Last.keys B).Nodup := nd
    obtain ⟨n1, n2⟩ := List.nodup_cons.mp nd
    have e : B[i]? = some (p, o) := by simpa using e
    obtain ⟨v, h1, h2⟩ := LastKV.get t n2 e
    refine ⟨v, ?_, h2⟩
    rw [valV_neg]
    · exact h1
    · rw [h.1]
      intro q
      exact n1 (Sum.inr.inj q ▸ Last.mem_key e)
end
theorem any_row (rows : List Row) (s : Row) : (rows.map rowD).any (fun z => PyData.eqv z (rowD s)) = decide (s ∈ rows) := by
  induction rows with
  | nil => rfl
  | cons r rows ih =>
    rw [List.map_cons, List.any_cons, ih, rowD_eqv]
    by_cases h : r = s
    · subst h; simp
    · have h2 : ¬ s = r := fun e => h e.symm
      simp [h, h2]
end Peg

/-! PegX: list(reversed(list)). -/
namespace RTL
open PySem PySem.Spec PyProof.Rows RT
section
variable {prog : Program} {w : World} {A : Around} {E : Value → Shared → Prop} {s : Shared}
theorem extend_rev {it l S : Addr} {items : Array Value} {c0 : Nat} {res : Value} {R : Result → Shared → Prop} (hh : A.handled = none) (hit : s.heap.IsRevIter it l ((items.size : Int) - 1)) (hl : s.heap.IsList l items) (hne : l ≠ it) (hn : items.size ≤ sizeLine)
    (hSi : S ≠ it) (hSl : S ≠ l) (hS : s.heap.get? S = some { cls := .type "list", data := .seq #[] c0 })
    (hR : ∀ (h' : Heap) (tk : Nat) (acc : Array Value) (c : Nat), (∀ b o, b ≠ it → b ≠ S → s.heap.get? b = some o → h'.get? b = some o) → h'.get? S = some { cls := .type "list", dict := none, data := .seq acc c, slots := #[] } → ItemsOf (fun i v => items[items.size - 1 - i]? = some v) acc items.size → R (.ok (.ret res)) { s with heap := h', toks := tk }) :
    wpAny (model prog w) A.in1 (Builtin.List.listExtendWith (.ref S) (.ref it) res)
      (fun fin s' => match fin with | .done f => R (.ok f) s' | .again c' => c'.quiet = true ∧ codeAny (model prog w) A c' R s') (fun e s' => R (.error e) s') s := by
  have W := (Walks.listRev (prog := prog) (w := w) (A := A.in1) hh it l hne items).toS
  have hSf : S ∉ [it, l] := by simp only [List.mem_cons, List.not_mem_nil, or_false, not_or]; exact ⟨hSi, hSl⟩
  have hT : s.TypeIs (.ref it) "list_reverseiterator" := Heap.IsRevIter.typeIs hit
  have h1 : Builtin.List.listSameRef (.ref S) (.ref it) = false := by simp [Builtin.List.listSameRef, hSi]
  unfold Builtin.List.listExtendWith
  refine wpAny_bind (wpAny_typeOf hT ?_)
  rw [if_neg (by rw [h1]; decide)]
  refine wpAny_bind (wpAny_pyIter_revIter hit ?_)
  refine wpAny_bind (wpAny_holding ?_)
  unfold Builtin.List.listLengthHint
  refine wpAny_bind (wpAny_specialOf hT nolen_lri ?_)
  show wpAny _ A.in1 (specialOf (Value.ref it) (Str.ofString "__length_hint__") >>= _) _ _ _
  refine wpAny_bind (wpAny_specialOf hT hint_lri ?_)
  generalize hid : ("list_reverseiterator.__length_hint__" : String) = id0
  wp_delta
  rw [show splitId id0 = some ("list_reverseiterator", "__length_hint__") from by subst hid; decide +kernel]
  subst hid
  refine wpAny_bind (wpAny_isInstance (b := true) hT (by rw [isSubtype_type]; kernel_rfl) ?_)
  refine wpAny_pure ?_
  rw [if_neg (by decide)]
  have e0 : ((items.size : Nat) : Int) - 1 - ((0 : Nat) : Int) = (items.size : Int) - 1 := by omega
  refine wpAny_pure ⟨plainId_quiet F.plain_extend_loop _, codeAny_extend_loopS W hn _ hSf _ items.size 0 _ _ _ rfl (Nat.zero_le _) ⟨Nat.zero_le _, by rw [e0]; exact hit, hl⟩ hS (ItemsOf.nil _) fun s' acc' c' hm hS' hacc => ?_⟩
  rw [Moved.eq_with hm]
  refine hR s'.heap s'.toks acc' c' (fun b o hb hb2 e => hm.heap b o (fun hmem => ?_) e) hS' hacc
  rcases List.mem_cons.mp hmem with e' | hmem
  · exact hb2 e'
  · exact hb (List.mem_singleton.mp hmem)
theorem init_rev {it l S : Addr} {items : Array Value} {R : Result → Shared → Prop} (hh : A.handled = none) (hit : s.heap.IsRevIter it l ((items.size : Int) - 1)) (hl : s.heap.IsList l items) (hne : l ≠ it) (hn : items.size ≤ sizeLine)
    (hSi : S ≠ it) (hSl : S ≠ l) (hS : s.heap.get? S = some { cls := .type "list", data := .seq #[] })
    (hR : ∀ (h' : Heap) (tk : Nat) (acc : Array Value) (c : Nat), (∀ b o, b ≠ it → b ≠ S → s.heap.get? b = some o → h'.get? b = some o) → h'.get? S = some { cls := .type "list", dict := none, data := .seq acc c, slots := #[] } → ItemsOf (fun i v => items[items.size - 1 - i]? = some v) acc items.size → R (.ok (.ret .none)) { s with heap := h', toks := tk }) :
    wpAny (model prog w) A.in1 (Builtin.«list.__init__» ⟨[.ref S, .ref it], []⟩)
      (fun fin s' => match fin with | .done f => R (.ok f) s' | .again c' => c'.quiet = true ∧ codeAny (model prog w) A c' R s') (fun e s' => R (.error e) s') s := by
  show wpAny _ _ (do let old ← Builtin.List.listItems (.ref S); Builtin.List.listUpdate (.ref S) (fun _ => #[]); letGo old.toList.reverse; Builtin.List.listExtendWith (.ref S) (.ref it) .none) _ _ s
  refine wpAny_bind ?_
  unfold Builtin.List.listItems
  refine wpAny_bind (wpAny_seqItems hS rfl (wpAny_pure ?_))
  show wpAny _ _ (updateSeq S (fun _ => #[]) >>= fun _ => letGo (#[] : Array Value).toList.reverse >>= fun _ => Builtin.List.listExtendWith (.ref S) (.ref it) .none) _ _ s
  refine wpAny_bind (wpAny_updateSeq hS rfl ?_)
  have hS₂ := Heap.get?_update_self (Obj.mapSeq (fun _ => (#[] : Array Value))) hS rfl
  have oth : ∀ b o, b ≠ S → s.heap.get? b = some o → (s.heap.update S (Obj.mapSeq (fun _ => (#[] : Array Value)))).get? b = some o :=
    fun b o hb e => (Heap.get?_update_other _ _ (Ne.symm hb)).trans e
  refine wpAny_bind (wpAny_letGo ?_)
  obtain ⟨ol, hol, xl⟩ := id hl
  refine extend_rev hh (hit.at fun o e => oth it o hSi.symm e) ⟨ol, oth l ol hSl.symm hol, xl⟩ hne hn hSi hSl hS₂ fun h' tk acc c hk hS' hacc => hR h' tk acc c (fun b o hb hb2 e => hk b o hb hb2 (oth b o hb2 e)) hS' hacc
theorem call_list_rev {it l : Addr} {items : Array Value} {Q : Value → Shared → Prop} (hh : A.handled = none) (hit : s.heap.IsRevIter it l ((items.size : Int) - 1)) (hl : s.heap.IsList l items) (hne : l ≠ it) (hn : items.size ≤ sizeLine)
    (hQ : ∀ (h' : Heap) (tk : Nat) (acc : Array Value) (c : Nat), (∀ b o, b ≠ it → s.heap.get? b = some o → h'.get? b = some o) → h'.get? s.heap.objs.size = some { cls := .type "list", dict := none, data := .seq acc c, slots := #[] } → ItemsOf (fun i v => items[items.size - 1 - i]? = some v) acc items.size → Q (.ref s.heap.objs.size) { s with heap := h', toks := tk }) :
    wpAny (model prog w) A (call (.type "list") [.ref it]) Q E s := by
  refine callType_codes (Q₁ := fun obj s₁ => obj = .ref s.heap.objs.size ∧ s₁ = { s with heap := s.heap.push { cls := .type "list", data := .seq #[] } }) PySem.F.called_list (PySem.F.typeCall_list_1 _) PySem.F.entry_list_init
    (code_list_new _ ⟨rfl, rfl⟩) fun obj s₁ h₁ => ?_
  obtain ⟨rfl, rfl⟩ := h₁
  have hS : (s.heap.push { cls := .type "list", data := .seq #[] }).get? s.heap.objs.size = some { cls := .type "list", data := .seq #[] } := Heap.get?_push_size _ rfl
  have hr : it < s.heap.objs.size := let ⟨_, ho, _⟩ := hit; Heap.lt_size ho
  have hd : l < s.heap.objs.size := let ⟨_, ho, _⟩ := hl; Heap.lt_size ho
  refine ⟨⟨_, hS, rfl⟩, PySem.F.args_list_init_2 _ _, init_rev (A := A.in1) hh (hit.at fun o e => Heap.get?_push_of_some _ e) (hl.push _) hne hn (Nat.ne_of_gt hr) (Nat.ne_of_gt hd) hS fun h' tk acc c hk hS' hacc => ?_⟩
  exact ⟨rfl, hQ h' tk acc c (fun b o hb e => hk b o hb (Nat.ne_of_lt (Heap.lt_size e)) (Heap.get?_push_of_some _ e)) hS' hacc⟩
end
end RTL
namespace U
open PySem PySem.Spec PyProof.Rows L2
/-- list(reversed(x)), x a list -/
def uListRev (K : PySem.W.Frag) (te : TE) : TE := fun σ H Q => te σ H fun x H1 => match x with
  | .ref a => ∃ xs, SqL K H1 a xs ∧ New H1 (.lst xs.reverse) fun p H2 => Q (.ref p) H2
  | _ => False
theorem e_listRev {X : Cx} {e : Expr} {te : TE} {p p2 pos pos2 : Pos} (hc : X.calm = true) (hg : Gl X "list") (hm : X.mg "list" = none) (hv : bootBuiltins "list" = some (.type "list")) (hg2 : Gl X "reversed") (hm2 : X.mg "reversed" = none) (he : PE X e te)
    (hs : starEach [e] X.env = (false, eval e X.env) :: starEach [] X.env := by rfl)
    (hs2 : starEach [.Call (.Name "reversed" p2) [e] [] pos2] X.env = (false, eval (.Call (.Name "reversed" p2) [e] [] pos2) X.env) :: starEach [] X.env := by rfl) :
    PE X (.Call (.Name "list" p) [.Call (.Name "reversed" p2) [e] [] pos2] [] pos) (uListRev X.K te) := by
  refine ⟨fun pins s σ H Q I h => ?_⟩
  refine Call_ (ld_blt I hg hm hv (PyProof.Rows.callWith_type1 (args_cons (Call_ (ld_blt I hg2 hm2 PyProof.Rows.boot_reversed (PyProof.Rows.callWith_type1 (args_cons (thn (he.run pins s σ H _ I h) fun u s1 ⟨v, H1, I1, r1, q1⟩ => args_nil ?_) hs) hs rfl))) hs2) hs2 rfl))
  cases v with
  | ref a =>
    obtain ⟨xs, hq, q⟩ := q1
    obtain rfl : u = Value.ref a := r1
    obtain ⟨its, rv, p', hz⟩ := I1.list hq
    refine call_reversed_list p'.isList (args_nil ?_)
    have hl := p'.isList
    obtain ⟨ol, hol, _⟩ := id hl
    have hne : a ≠ s1.heap.objs.size := Nat.ne_of_lt (Heap.lt_size hol)
    have hn : its.toArray.size ≤ sizeLine := by rw [List.size_toArray, ← rv.length]; exact hz
    refine RTL.call_list_rev (s := { s1 with heap := s1.heap.push (revObj a ((its.toArray.size : Int) - 1)) }) (I1.ok.hd hc) ⟨_, Heap.get?_push_size _ rfl, rfl, rfl⟩ (hl.push _) hne hn fun h' tk acc c hk hS hi => ?_
    have kp : ∀ b o', s1.heap.get? b = some o' → h'.get? b = some o' := fun b o' e => hk b o' (Nat.ne_of_lt (Heap.lt_size e)) (Heap.get?_push_of_some _ e)
    have le : s1.heap.objs.size ≤ (s1.heap.push (revObj a ((its.toArray.size : Int) - 1))).objs.size := by rw [Heap.size_push]; exact Nat.le_succ _
    exact ⟨.ref _, _, I1.laid (t' := tk) kp le (show ObjOk X.prog X.w _ h' _ (.lst xs.reverse) from ⟨by rw [List.length_reverse]; exact hz, acc.toList, c, RT.vals_rev rv hi, by rw [Array.toArray_toList]; exact hS⟩), rfl, New.at q _ (I1.hok.fresh le)⟩
  | _ => exact False.elim q1
end U

/-! PegE: classes, errors held as values. -/
namespace U
open PySem PySem.Spec PyProof.Rows L2

/-! ### list(d.values()) -/
theorem vals_pt : ∀ {xs : List V} {us : List Value}, xs.length = us.length → (∀ (i : Nat) (u : Value), us[i]? = some u → ∃ x, xs[i]? = some x ∧ RelV x u) → Vals xs us
  | [], [], _, _ => .nil
  | [], _ :: _, h, _ => by simp at h
  | _ :: _, [], h, _ => by simp at h
  | x :: xs, u :: us, h, k => by
    obtain ⟨y, e, r⟩ := k 0 u rfl
    have e : x = y := Option.some.inj e
    subst e
    exact .cons r (vals_pt (by simpa using h) fun i v hv => by
      obtain ⟨y, e, r⟩ := k (i + 1) v (by simpa using hv)
      exact ⟨y, by simpa using e, r⟩)
def uListVals (td : TE) : TE := fun σ H Q => td σ H fun x H1 => match x with
  | .ref a => ∃ kvs, H1 a = some (.dK kvs) ∧ New H1 (.lst (kvs.map (·.2))) fun p H2 => Q (.ref p) H2
  | _ => False
theorem e_listVals {X : Cx} {e : Expr} {te : TE} {p apos cpos pos : Pos} (hc : X.calm = true) (he : PE X e te) (hg : Gl X "list") (hm : X.mg "list" = none) (hv : bootBuiltins "list" = some (.type "list")) (hbase : attributeBase e "values" X.env (eval e X.env) = eval e X.env := by rfl) (hline : (apos.endLine == cpos.line) = true := by rfl)
    (hs : starEach [.Call (.Attribute e "values" apos) [] [] cpos] X.env = (false, eval (.Call (.Attribute e "values" apos) [] [] cpos) X.env) :: starEach [] X.env := by rfl) :
    PE X (.Call (.Name "list" p) [.Call (.Attribute e "values" apos) [] [] cpos] [] pos) (uListVals te) := by
  refine ⟨fun pins s σ H Q I hq => ?_⟩
  refine wpAny_Call_Name_kw (ld_blt I hg hm hv ?_)
  refine PyProof.Rows.callWith_type1 ?_ hs rfl
  rw [hs]
  show wpAny _ _ (spliced ((false, eval (.Call (.Attribute e "values" apos) [] [] cpos) X.env) :: backTo pos (starEach [] X.env))) _ _ s
  refine Calls.spliced_cons ?_
  refine wpAny_Call_method (T := "dict") (id := "dict.values") hbase rfl hline F.plainAttrs_dict F.slot_dict_values F.type_dict_values (thn (he.run pins s σ H _ I hq) fun u s1 ⟨x, H1, I1, rx, q⟩ => ?_)
  cases x with
  | ref d =>
    obtain ⟨kvs, hd, q⟩ := q
    obtain rfl : u = Value.ref d := rx
    obtain ⟨hz, hs0, vs, kv, hdo⟩ := I1.hok d _ hd
    obtain ⟨ep, hat⟩ := hdo.dictAt
    have lk : kvs.length = vs.length := Paired.length kv
    refine ⟨hdo.typeIs, hdo.mapOf.noDict, ?_⟩
    show wpAny _ _ (callWith cpos (.builtin "dict.values") [.ref d] [] []) _ X.xe s1
    refine method_meetsIn F.slot_dict_values F.entry_dict_values rfl (PySem.evalArgs_none ⟨rfl, hdo.typeIs, F.args_dict_values_1 _, _, meets_dict_values (mixKind X.prog X.w) d hs0, ⟨vs, hdo⟩, ?_⟩)
    refine Calls.spliced_nil ?_
    have k1 : ∀ b u, s1.heap.get? b = some u → (s1.heap.push { cls := .type "dict_values", data := .fields #[.ref d] }).get? b = some u := fun b u e => Heap.get?_push_of_some _ e
    refine PySem.W.kdl_call (s := { s1 with heap := s1.heap.push { cls := .type "dict_values", data := .fields #[.ref d] } }) (PySem.W.kdl_values (knd := mixKind X.prog X.w) (r := s1.heap.objs.size) (d := d) (kvs := vs) (ep := ep)) (I1.ok.hd hc) ⟨⟨_, Heap.get?_push_size _ rfl, rfl, rfl⟩, hat.push _⟩ (by rw [← lk]; exact hz) fun h' tk acc c hk hS hi => ?_
    have le : s1.heap.objs.size ≤ (s1.heap.push { cls := .type "dict_values", data := .fields #[.ref d] }).objs.size := by rw [Heap.size_push]; exact Nat.le_succ _
    refine ⟨.ref _, _, I1.laid (t' := tk) (fun b o e => hk b o (k1 b o e)) le (show ObjOk X.prog X.w _ h' _ (.lst (kvs.map (·.2))) from ⟨by rw [List.length_map]; exact hz, acc.toList, c, vals_pt ?_ fun i u hu => ?_, by rw [Array.toArray_toList]; exact hS⟩), rfl, New.at q _ (I1.hok.fresh le)⟩
    · rw [List.length_map, lk, Array.length_toList]
      exact hi.1.symm
    · obtain ⟨k, e⟩ := hi.2 i u (by rw [← Array.getElem?_toList]; exact hu)
      obtain ⟨x, e1, e2⟩ := KV.at' kv e
      exact ⟨x, by rw [List.getElem?_map, e1]; rfl, e2⟩
  | _ => exact False.elim q

/-! ### what is never come to -/
theorem ps_never {X : Cx} {st : Stmt} : PS X st (fun _ _ _ => False) := ⟨fun _ _ _ _ _ _ h => h.elim⟩

/-! ### an error held as a value -/
def ErO (cls : Value) (d : Option Addr) (a : Addr) : HO := .ext fun h => ∃ (oe : Obj) (vs : Array Value), h.get? a = some oe ∧ Zc cls d oe ∧ oe.data = .fields vs
theorem adopt {X : Cx} {pins : List (Addr × Obj)} {σ : L2.St} {H : Hp} {s : Shared} {a : Addr} {oe : Obj} {cls : Value} {d : Option Addr} (I : Inv X ((a, oe) :: pins) σ H s) (hz : Zc cls d oe) (hd : ∃ vs, oe.data = .fields vs) (n0 : X.s_0.heap.get? a = none) (np : ∀ p ∈ X.pn ++ pins, p.1 ≠ a) : Inv X pins σ (upd H a (ErO cls d a)) s := by
  obtain ⟨vs, hv⟩ := hd
  obtain ⟨ea, na, nL, nF, nc⟩ := I.pin (a, oe) (List.mem_append_right _ (List.mem_cons_self ..))
  have ne0 : ∀ b o, X.s_0.heap.get? b = some o → b ≠ a := fun b o e z => by
    rw [z, n0] at e
    cases e
  refine ⟨I.ok, I.os, I.bare, ⟨I.base.keep, I.base.slot, fun b o e n hb => ?_, I.base.there, fun b xs e => ?_, fun b o u e => ?_, fun b ps e => ?_⟩, I.loc, I.cell, ?_, fun x c e => ?_, fun p hp => ?_, fun b u e => ?_, I.len⟩
  · rw [upd_ne (ne0 b o e)]
    exact I.base.free b o e n hb
  · have q := I.base.tups b xs e
    rw [upd_ne (ne_of_none q na)]
    exact q
  · have q := I.base.frzs b o u e
    rw [upd_ne (ne_of_none q na)]
    exact q
  · obtain ⟨m, q⟩ := I.base.tbls b ps e
    exact ⟨m, by rw [upd_ne (ne_of_none q na)]; exact q⟩
  · rw [upd_ne (fun z => nL z.symm)]
    exact I.free
  · have hc : c ≠ a := fun z => by
      obtain ⟨v, o, ho, hdv⟩ := I.cell x c e
      rw [z] at ho
      rw [ea] at ho
      cases ho
      exact nc v hdv
    rw [upd_ne hc]
    exact I.freeC x c e
  · have hp' : p ∈ X.pn ++ (a, oe) :: pins := by
      rcases List.mem_append.mp hp with h | h
      · exact List.mem_append_left _ h
      · exact List.mem_append_right _ (List.mem_cons_of_mem _ h)
    obtain ⟨e, n, ne, nf, dd⟩ := I.pin p hp'
    exact ⟨e, by rw [upd_ne (np p hp)]; exact n, ne, nf, dd⟩
  · by_cases hb : b = a
    · subst hb
      rw [upd_same] at e
      cases e
      exact ⟨⟨oe, vs, ea, hz, hv⟩, ⟨oe, ea⟩, fun _ _ ⟨o, v, q, r⟩ k => ⟨o, v, k o q, r⟩⟩
    · rw [upd_ne hb] at e
      exact (I.hok b u e).stay (fun c v _ q => q) (fun c q => by rw [upd_ne (ne_of_none q na)]; exact q) fun c xs q => by rw [upd_ne (ne_of_none q na)]; exact q
/-- what the clause 'except x as n' wishes; behind its suite the error is tracked -/
def wKeep (K : PySem.W.Frag) (c : Value) (i : Nat) (ts : Addr → Value → Option Addr → TS) (Wout : WX) (D : Ends) : WX := fun cls d σ H =>
  ∃ b, PySem.W.exmOne K cls c = some b ∧ (b = true → ∀ a, H a = none → ts a cls d { nx := fun σ' H' => ∀ H2, H' a = none → Same H' H2 → H2 a = some (ErO cls d a) → D.nx (σ'.set i none) H2, rt := D.rt, bk := fun σ' H' => D.bk (σ'.set i none) H', ct := fun σ' H' => D.ct (σ'.set i none) H' } (σ.set i (some (.ref a))) H) ∧
    (b = false → Wout cls d σ H)
section
variable {X : Cx} {x n : Str} {c : Value} {i : Nat} {body suite : List Stmt} {b₀ : Stmt} {np pos pos' : Pos} {tb : WX → TS} {ts : Addr → Value → Option Addr → TS} {Wout : WX}
theorem ps_try_keep (hs : X.stack = X.env :: X.outer) (hf : X.env.frame = some X.env.locals) (hex : X.ex = []) (hN : X.N.Nodup) (hi : X.N[i]? = some n) (hln : X.env.kindOf n = some .local) (hc : Names X x c) (tk : L2.Takes X Wout)
    (hb : ∀ (W : WX) (pn : List (Addr × Obj)) (xe : Value → Shared → Prop), L2.Takes (X.tr pn xe) W → PassesOwn (model X.prog X.w) X.A X.env xe → PSs (X.tr pn xe) body (tb W))
    (hsu : ∀ (a : Addr) (oe : Obj) (cls : Value) (d : Option Addr) (pn : List (Addr × Obj)), Zc cls d oe → (∃ vs, oe.data = .fields vs) → PSs (X.suite a ((a, oe) :: pn)) (b₀ :: suite) (ts a cls d)) :
    PS X (.Try body [.ExceptHandler (some (.Name x np)) (some n) (b₀ :: suite) pos'] [] [] pos) (fun D σ H => tb (wKeep X.K c i ts Wout D) D σ H) := by
  refine ⟨fun pins s σ H D I h => ?_⟩
  have ok := I.ok
  have hfr : X.A.frames = some (X.env :: X.outer) := by rw [ok.frames, hs]
  have hloc : Loc X.env.scope n := .inl hln
  refine wpAny_Try_except ?_
  refine wpAny_mono ((hb (wKeep X.K c i ts Wout D) (X.pn ++ pins) (fun e s₁ => wpAny (model X.prog X.w) X.A (noteFrame e X.env) (fun _ s₂ => wpAny (model X.prog X.w) X.A (setFlight e none) (fun _ s₃ =>
    wpAny (model X.prog X.w) X.A (handleBy e X.env [.ExceptHandler (some (.Name x np)) (some n) (b₀ :: suite) pos']) (SP X pins D) X.xe s₃) X.xe s₂) X.xe s₁) (fun u s' xx => ?_) PassesOwn.looking).run [] s σ H D (I.toTry _) h) (fun f s1 hsp => ?_) (fun e s1 he => he)
  · -- the catch
    obtain ⟨a, B, sI, pins', σ', H', cls, d, rfl, J', nb, up, sky, na, os, ag, b, hb1, hyes, hno⟩ := xx
    have J : Inv X pins σ' H' sI := J'.ofTry ok
    have sky' : Sky B (X.env :: X.outer) a (Zc cls d) X.env.locals s'.heap := by rw [← hs]; exact sky
    have Ba : B.get? a = none := by
      rcases sky' with ⟨_, q, _⟩ | ⟨_, q, _⟩ | ⟨_, q, _⟩ <;> exact q
    show wpAny _ X.A (noteFrame (.ref a) X.env) _ _ _
    refine Sky.land Zc.steady hfr hf sky' fun h3 fl3 up3 => ?_
    have J3 : Inv X pins σ' H' { s' with heap := h3 } := J.landed nb fl3.1 (up.trans up3) os ag
    obtain ⟨oe3, vs3, he3, hz3, hd3⟩ := fl3.there
    have notFr : ∀ {h : Heap} {o : Obj} {vs : Array Value}, h.FunFrames B (X.env :: X.outer) → h.get? a = some o → o.data = .fields vs → a ∉ frs (X.env :: X.outer) := fun {h o vs} ff e dd hm => by
      obtain ⟨_, o', e', hnf⟩ := ff.mem hm
      rw [e] at e'; cases e'
      exact hnf _ dd
    have nfr := notFr fl3.2.2.1 he3 hd3
    have nL : a ≠ X.env.locals := fun z => nfr (List.mem_filterMap.mpr ⟨X.env, List.mem_cons_self, by rw [hf, z]⟩)
    have nF : a ∉ X.fs := fun hm => by
      obtain ⟨e, he, q⟩ := List.mem_filterMap.mp hm
      exact nfr (List.mem_filterMap.mpr ⟨e, List.mem_cons_of_mem _ he, q⟩)
    have sIa : sI.heap.get? a = none := by
      cases e : sI.heap.get? a with
      | none => rfl
      | some o =>
        have z := nb a o e (by rw [hs]; exact nfr)
        rw [Ba] at z
        cases z
    have n0 : X.s_0.heap.get? a = none := by
      cases e : X.s_0.heap.get? a with
      | none => rfl
      | some o =>
        obtain ⟨o', z⟩ := J.base.there a o e (by rw [hex]; exact fun z => nomatch z)
        rw [sIa] at z
        cases z
    have npin : ∀ p ∈ X.pn ++ pins, p.1 ≠ a := fun p hp z => by
      have q := (J.pin p hp).1
      rw [z, sIa] at q
      cases q
    have S3 := J3.suite he3 hd3 na nL nF
    refine wpAny_handleBy_cons (codeAny_handlers_test ?_) (by intro q; cases q)
    have LT : PySem.W.Looks (model X.prog X.w) h3 (typeOf (.ref a)) cls := fun A Q E s k q => wpAny_typeOf_ref (k _ _ he3) (by rw [hz3.1]; exact q)
    have LM := PySem.W.exm_one (M := model X.prog X.w) (J3.kIn) LT hb1
    have test : ∀ {Q : Value → Shared → Prop} {E : Value → Shared → Prop}, Q c { s' with heap := h3 } → wpAny (model X.prog X.w) (X.A.mark (some (.ref a))) (eval (.Name x np) X.env) Q E { s' with heap := h3 } := fun {Q E} q => by
      obtain ⟨hg, hdbg, hm | ⟨hm, hv, hnn⟩⟩ := hc
      · exact ld_glob (X := X.suite a ((a, oe3) :: (X.pn ++ pins))) S3 hg hm q hdbg
      · exact ld_blt (X := X.suite a ((a, oe3) :: (X.pn ++ pins))) S3 hg hm hv q hnn hdbg
    refine test (LM.here ?_)
    cases b with
    | true =>
      refine codeAny_handlers_suite_as ?_
      refine HandSPX.lands_againZ fl3 fun h4 fl4 up4 => ?_
      have J4 : Inv X pins σ' H' { s' with heap := h4 } := J.landed nb fl4.1 ((up.trans up3).trans up4) os ag
      obtain ⟨oe4, vs4, he4, hz4, hd4⟩ := fl4.there
      have S4 := J4.suite he4 hd4 na nL nF
      refine store_ok (X := X.suite a ((a, oe4) :: (X.pn ++ pins))) (v := .ref a) S4 hN hi hloc rfl (fun s5 S5 => ?_) (.inr hln)
      refine wpAny_mono ((hsu a oe4 cls d (X.pn ++ pins) hz4 ⟨_, hd4⟩).run [] s5 _ H' _ S5 (hyes rfl a na)) (fun f s6 hsp => ?_) (fun _ _ z => False.elim z)
      have end_ : ∀ {σ6 : L2.St} {H6 : Hp} {Q : Shared → Prop}, Inv (X.suite a ((a, oe4) :: (X.pn ++ pins))) [] σ6 H6 s6 → (∀ s7, Inv X pins (σ6.set i none) H6 s7 → Q s7) →
          wpAny (model X.prog X.w) X.A (do bindName X.env n .none; unbindBehindTheSuite X.env n pos') (fun _ s7 => Q s7) X.xe s6 := fun {σ6 H6 Q} S6 hq => gone_ok (S6.unsuite ok) hN hi hln hq
      cases f with
      | next =>
        obtain ⟨σ6, H6, S6, q6⟩ := hsp
        have S6' : Inv X ((a, oe4) :: pins) σ6 H6 s6 := ⟨ok, S6.os, S6.bare, S6.base, S6.loc, S6.cell, S6.free, S6.freeC, fun p hp => S6.pin p (List.mem_append_left _ (by
          rcases List.mem_append.mp hp with h | h
          · exact List.mem_cons_of_mem _ (List.mem_append_left _ h)
          · rcases List.mem_cons.mp h with h | h
            · rw [h]; exact List.mem_cons_self ..
            · exact List.mem_cons_of_mem _ (List.mem_append_right _ h))), S6.hok, S6.len⟩
        have na6 : H6 a = none := (S6'.pin (a, oe4) (List.mem_append_right _ (List.mem_cons_self ..))).2.1
        exact gone_ok S6' hN hi hln fun s7 J7 => ⟨_, _, adopt J7 hz4 ⟨_, hd4⟩ n0 npin, q6 _ na6 (same_upd na6) upd_same⟩
      | brk =>
        obtain ⟨σ6, H6, S6, q6⟩ := hsp
        exact end_ S6 fun s7 J7 => ⟨_, _, J7, q6⟩
      | cont =>
        obtain ⟨σ6, H6, S6, q6⟩ := hsp
        exact end_ S6 fun s7 J7 => ⟨_, _, J7, q6⟩
      | ret u =>
        obtain ⟨v6, σ6, H6, S6, r6, q6⟩ := hsp
        exact end_ S6 fun s7 J7 => ⟨_, _, _, J7, r6, q6⟩
    | false =>
      show wpAny _ X.A (handleBy (.ref a) X.env []) _ _ _
      refine wpAny_handleBy_nil ?_
      obtain ⟨k1, k2, k3, oe, vs, T, oT, ts', he, hz, hd, h1, hr⟩ := id fl3
      unfold PySem.passOn
      refine wpAny_bind (wpAny_field he hd h1 ?_)
      rw [if_neg (show ¬ ((Value.ref T == Value.none) = true) from by simp)]
      have fin : wpAny (model X.prog X.w) X.A (setFlight (.ref a) X.env.frame) (fun _ s4 => wpAny (model X.prog X.w) X.A (throw (.ref a) : Sem Flow) (SP X pins D) X.xe s4) X.xe { s' with heap := h3 } := by
        rw [hf]
        refine HandSPX.setFlight_upZ fl3 fun h4 hh4 up4 => wpAny_throw (tk _ _ ?_)
        exact ⟨a, B, sI, pins, σ', H', cls, d, rfl, J, nb, (up.trans up3).trans up4, .inr (.inr (by rw [hs]; exact hh4)), na, os, ag, hno rfl⟩
      first
        | exact wpAny_bind (wpAny_pure (wpAny_bind fin))
        | exact wpAny_bind fin
  · cases f with
    | next =>
      obtain ⟨σ', H', J', q⟩ := hsp
      exact wpAny_execs_nil ⟨σ', H', J'.ofTry ok, q⟩
    | brk =>
      obtain ⟨σ', H', J', q⟩ := hsp
      exact ⟨σ', H', J'.ofTry ok, q⟩
    | cont =>
      obtain ⟨σ', H', J', q⟩ := hsp
      exact ⟨σ', H', J'.ofTry ok, q⟩
    | ret u =>
      obtain ⟨v, σ', H', J', r, q⟩ := hsp
      exact ⟨v, σ', H', J'.ofTry ok, r, q⟩
def uTryK (K : PySem.W.Frag) (c : Value) (i : Nat) (ts : Addr → Value → Option Addr → TS) (tb : WX → TS) : TS := fun D σ H => tb (wKeep K c i ts (fun _ _ _ _ => False) D) D σ H
end
/-- isinstance(e, c), e an error without a dict of its own -/
def cIsE (K : PySem.W.Frag) : List V → Hp → VK → Prop := fun xs H Q => match xs with
  | [.ref a, c] => ∃ (D : Addr) (cv : Value) (b : Bool), H a = some (ErO (.ref D) none a) ∧ ExcC K D ∧ ClsV c cv ∧ PySem.W.kitOne K (.ref D) cv = some b ∧ Q (.bl b) H
  | _ => False
theorem b_isE {X : Cx} : CallR X (.builtin "isinstance") (cIsE X.K) := by
  intro pins s σ H xs us Q I r h
  match xs, h with
  | [.ref a, c], h =>
    obtain ⟨D, cv, b, ha, C, kc, e, q⟩ := h
    cases r with
    | cons rx rr =>
      cases rr with
      | cons rt rr =>
        cases rr
        cases rx
        have ec := kc.eq rt
        subst ec
        obtain ⟨⟨oe, vs, hget, hz, hv⟩, _, _⟩ := I.hok a _ ha
        have J : PySem.W.InstAt s.heap a oe D none := by
          obtain ⟨oc, od, oda, osl⟩ := oe
          obtain ⟨h1, h2⟩ := hz
          dsimp only at h1 h2 hv
          subst h1 h2 hv
          exact ⟨hget, rfl, rfl, trivial⟩
        exact PySem.W.kia_one (PySem.W.handS_kitx_exc C.hg C.hk C.hs C.hd C.ha C.hn C.ht C.hm) I.kIn J e (fun z => nomatch z) fun tk => ⟨.bl b, H, I.kept (t' := tk) fun _ _ z => z, rfl, q⟩

/-- isinstance(x, C), C an own class -/
def cIsO (K : PySem.W.Frag) : List V → Hp → VK → Prop := fun xs H Q => match xs with
  | [x, .ref C] => ∃ (t : Value) (b : Bool), TyX K H x t ∧ PySem.W.kitOne K t (.ref C) = some b ∧ Q (.bl b) H
  | _ => False
theorem b_isO {X : Cx} : CallR X (.builtin "isinstance") (cIsO X.K) := call_imp call_isi fun xs H Q q => by
  match xs, q with
  | [x, .ref C], q =>
    obtain ⟨t, b, h1, h2, q⟩ := q
    exact ⟨x, .ref C, t, .ref C, b, rfl, .own C, h1, h2, q⟩

/-! ### methods -/
structure CalM (P : Program) (w : World) (K : PySem.W.Frag) (mg : Str → Option Value) (base : Heap) (CX : CXT) (k : Nat) (C : Addr) (m : Str) (ps : List Str) (sp : Sp) : Prop where
  ex : ∃ (f : Addr) (fd : FuncData), FnOk P w K mg base CX k f fd ps sp ∧ Meth K C m f ∧ Binds K fd ps []
def uMeth (C : Addr) (m : Str) (sp : Sp) (E : XK) (ta : TE) (t : TA) : TE := fun σ H Q => ta σ H fun x H1 => match x with
  | .ref a => (∃ dx fs, H1 a = some (.ins C dx fs) ∧ fs.lookup m = none) ∧ t σ H1 fun vs H2 => sp (.ref a :: vs) H2 Q E
  | _ => False
def uMethS (C : Addr) (m : Str) (sp : Sp) (E : L2.St → XK) (ta : TE) (t : TA) : TE := fun σ H Q => ta σ H fun x H1 => match x with
  | .ref a => (∃ dx fs, H1 a = some (.ins C dx fs) ∧ fs.lookup m = none) ∧ t σ H1 fun vs H2 => sp (.ref a :: vs) H2 Q (E σ)
  | _ => False
section
variable {X : Cx} {CX : CXT} {k : Nat} {C : Addr} {m : Str} {ps : List Str} {sp : Sp} {E : XK} {e o : Expr} {es : List Expr} {ta : TE} {t : TA} {apos pos : Pos} {pl : Sem Bool}
theorem CalM.pe (c : CalM X.prog X.w X.K X.mg X.base CX k C m ps sp) (T : Cls X.K C) (hr : Room k X.A) (hx : Passes CX X E) (he : PE X o ta) (ha : PA X (e :: es) t)
    (hst : starEach (e :: es) X.env = (false, eval e X.env) :: starEach es X.env := by rfl) (hpl : (backTo pos (starEach es X.env)).any (·.1) = false := by rfl)
    (ht : eval (.Call (.Attribute o m apos) (e :: es) [] pos) X.env = (do
      let ov ← eval o X.env
      standAt apos.atName
      let (f, first) ← holding [ov] (getMethod ov m pl)
      callWith pos f first (backTo pos (starEach (e :: es) X.env)) (backToKw pos (keywordEach [] X.env))) := by rfl) :
    PE X (.Call (.Attribute o m apos) (e :: es) [] pos) (uMeth C m sp E ta t) := by
  obtain ⟨f, fd, F, hm, b⟩ := c.ex
  refine pe_imp (pe_meth (pl := pl) (pe_up he) T hm F hr b .nil hx ha hst hpl ht) fun σ H Q q => ⟨_, q, fun x H1 q1 => ?_⟩
  cases x with
  | ref a =>
    obtain ⟨⟨dx, fs, h1, h2⟩, q1⟩ := q1
    refine ⟨a, dx, fs, rfl, h1, h2, ?_⟩
    have ee : (fun (vs : List V) (H2 : Hp) => sp (.ref a :: (vs ++ [])) H2 Q E) = fun vs H2 => sp (.ref a :: vs) H2 Q E := by
      funext vs H2
      rw [List.append_nil]
    rw [ee]
    exact q1
  | _ => exact False.elim q1
theorem CalM.pe0 (c : CalM X.prog X.w X.K X.mg X.base CX k C m ps sp) (T : Cls X.K C) (hr : Room k X.A) (hx : Passes CX X E) (he : PE X o ta)
    (ht : eval (.Call (.Attribute o m apos) [] [] pos) X.env = (do
      let ov ← eval o X.env
      standAt apos.atName
      let (f, first) ← holding [ov] (getMethod ov m pl)
      callWith pos f first (backTo pos (starEach [] X.env)) (backToKw pos (keywordEach [] X.env))) := by rfl) :
    PE X (.Call (.Attribute o m apos) [] [] pos) (uMeth C m sp E ta tNil) := by
  obtain ⟨f, fd, F, hm, b⟩ := c.ex
  refine pe_imp (pe_meth0 (pl := pl) (pe_up he) T hm F hr b .nil hx ht) fun σ H Q q => ⟨_, q, fun x H1 q1 => ?_⟩
  cases x with
  | ref a =>
    obtain ⟨⟨dx, fs, h1, h2⟩, q1⟩ := q1
    exact ⟨a, dx, fs, rfl, h1, h2, q1⟩
  | _ => exact False.elim q1
/-- within a try: what it raises is wished for at the slots as they stand -/
theorem CalM.peS {E : L2.St → XK} (c : CalM X.prog X.w X.K X.mg X.base CX k C m ps sp) (T : Cls X.K C) (hr : Room k X.A) (hx : ∀ σ, PassesAt CX X σ (E σ)) (he : PE X o ta) (ha : PA X (e :: es) t)
    (hst : starEach (e :: es) X.env = (false, eval e X.env) :: starEach es X.env := by rfl) (hpl : (backTo pos (starEach es X.env)).any (·.1) = false := by rfl)
    (ht : eval (.Call (.Attribute o m apos) (e :: es) [] pos) X.env = (do
      let ov ← eval o X.env
      standAt apos.atName
      let (f, first) ← holding [ov] (getMethod ov m pl)
      callWith pos f first (backTo pos (starEach (e :: es) X.env)) (backToKw pos (keywordEach [] X.env))) := by rfl) :
    PE X (.Call (.Attribute o m apos) (e :: es) [] pos) (uMethS C m sp E ta t) := by
  obtain ⟨f, fd, F, hm, hb⟩ := c.ex
  refine ⟨fun pins s σ H Q I h => ?_⟩
  refine PySem.W.methodCall_KW (pl := pl) (thn (he.run pins s σ H _ I h) fun u s1 ⟨x, H1, I1, rx, q⟩ => ?_) ht
  cases x with
  | ref a =>
    obtain ⟨⟨dx, fs, ea, l⟩, q⟩ := q
    obtain rfl : u = Value.ref a := rx
    refine getmeth_ok I1 ea T hm l ?_
    refine PySem.W.callWith_K (first := [.ref a]) (h₀ := X.base) I.ok.mod.kin hm.kp (thn (ha.run pos pins s1 σ H1 _ I1 q) fun us s2 ⟨vs, H2, I2, r, q2⟩ => ⟨I2.kIn, ?_⟩) hst hpl
    exact run_fnS (us := .ref a :: us) (vs := .ref a :: vs) F hr hb (hx σ) I2 (.cons rfl r) q2
  | _ => exact False.elim q
end
/-! ### a class that makes, its last parameter with a default -/
structure CalK (P : Program) (w : World) (K : PySem.W.Frag) (mg : Str → Option Value) (base : Heap) (k : Nat) (C : Addr) (x : Str) (ps : List Str) (sp : Sp) (dvs : List V) : Prop where
  ex : ∃ (f : Addr) (fd : FuncData), Mk K C f ∧ FnOk P w K mg base CX0 k f fd ps sp ∧ mg x = some (.ref C) ∧ Binds K fd ps [] ∧ ∃ ds, Vals dvs ds ∧ Binds K fd ps ds
section
variable {X : Cx} {k : Nat} {C : Addr} {x : Str} {ps : List Str} {sp : Sp} {dvs : List V} {e : Expr} {es : List Expr} {t : TA} {p pos : Pos}
theorem CalK.pe (c : CalK X.prog X.w X.K X.mg X.base k C x ps sp dvs) (hr : Room (k + 1) X.A) (ha : PA X (e :: es) t) (hg : Gl X x := by rfl) (hdb : (x == ("__debug__" : Str)) = false := by decide)
    (he : starEach (e :: es) X.env = (false, eval e X.env) :: starEach es X.env := by rfl) (hpl : (backTo pos (starEach es X.env)).any (·.1) = false := by rfl) : PE X (.Call (.Name x p) (e :: es) [] pos) (tMake C sp [] E0 t) := by
  obtain ⟨f, fd, M, F, m, b, _⟩ := c.ex
  exact pe_make M F hr hg m b .nil pass0 ha hdb he hpl
theorem CalK.pe0 (c : CalK X.prog X.w X.K X.mg X.base k C x ps sp dvs) (hr : Room (k + 1) X.A) (hg : Gl X x := by rfl) (hdb : (x == ("__debug__" : Str)) = false := by decide) : PE X (.Call (.Name x p) [] [] pos) (tMake C sp dvs E0 tNil) := by
  obtain ⟨f, fd, M, F, m, _, ds, hd, b⟩ := c.ex
  exact pe_make0 M F hr hg m b hd pass0 hdb
end
abbrev uRaise (E : XK) (C : Addr) : TS := fun _ _ H => E (.ref C) none H
abbrev uNever : TS := fun _ _ _ => False
def uTryO (K : PySem.W.Frag) (c : Value) (ts : Addr → Value → Option Addr → TS) (tb : WX → TS) : TS := fun D σ H => tb (wOnly K c ts (fun _ _ _ _ => False) D) D σ H

/-! ### more of lists -/
def cPopAt : V → List V → Hp → VK → Prop := fun x xs H Q => match x, xs with
  | .ref l, [.int i] => ∃ (zs : List V) (k : Nat) (y : V), H l = some (.lst zs) ∧ i = (k : Int) ∧ k < 100000 ∧ zs[k]? = some y ∧ Chg l H (.lst (zs.eraseIdx k)) fun H2 => Q y H2
  | _, _ => False
theorem m_popAt {X : Cx} : MtR X "list.pop" cPopAt := mt_imp mt_popAt fun x xs H Q q => by
  match x, xs, q with
  | .ref l, [.int i], q =>
    obtain ⟨zs, k, y, h1, rfl, hk, h2, q⟩ := q
    exact ⟨l, zs, _, k, y, rfl, rfl, h1, by omega, by omega, seqIndex_of (by omega) (by have := (List.getElem?_eq_some_iff.mp h2).1; omega), h2, q.at⟩
theorem inV_int (a : Int) (C : List Int) : inV (.int a) (C.map V.int) = decide (a ∈ C) := by
  unfold inV
  induction C with
  | nil => rfl
  | cons c C ih =>
    rw [List.map_cons, List.any_cons, ih]
    show ((c == a) || decide (a ∈ C)) = _
    by_cases h : c = a
    · subst h; simp
    · have h2 : ¬ a = c := fun e => h e.symm
      simp [h, h2]
theorem flatI (C : List Int) : (C.map V.int).all flatV = true := by
  rw [List.all_map, List.all_eq_true]
  intro c _
  rfl
def cInI (K : PySem.W.Frag) (b : Bool) : R2 := fun x y H Q => match x, y with
  | .int a, .ref p => ∃ C : List Int, SqL K H p (C.map V.int) ∧ Q (.bl (if b then decide (a ∈ C) else !decide (a ∈ C))) H
  | _, _ => False
theorem o_inI {X : Cx} : OpR X (compareOp .In) (cInI X.K true) := op_imp op_in_seq fun x y H Q q => by
  cases x <;> cases y <;> first
    | (obtain ⟨C, h, q⟩ := q; refine ⟨_, _, rfl, .inl h, rfl, flatI C, ?_⟩; rw [inV_int]; exact q)
    | exact False.elim q
theorem o_notInI {X : Cx} : OpR X (compareOp .NotIn) (cInI X.K false) := op_imp op_notIn_seq fun x y H Q q => by
  cases x <;> cases y <;> first
    | (obtain ⟨C, h, q⟩ := q; refine ⟨_, _, rfl, .inl h, rfl, flatI C, ?_⟩; rw [inV_int]; exact q)
    | exact False.elim q
end U

/-! PegB: the classes, a book in the heap. -/
namespace Peg
open PySem PySem.Spec PyProof.Rows L2 U

/-- where the classes lie -/
structure Ad where
  Book : Addr
  PegError : Addr
  NoSighting : Addr
  Full : Addr
  Against : Addr
  NoNumber : Addr
  NoWay : Addr
  NoText : Addr
/-- the refusals -/
inductive Er
  | sighting
  | full
  | against
  | number
  | way
  | text
deriving DecidableEq
def Ad.er (A : Ad) : Er → Addr
  | .sighting => A.NoSighting
  | .full => A.Full
  | .against => A.Against
  | .number => A.NoNumber
  | .way => A.NoWay
  | .text => A.NoText
/-- what is said of the classes -/
structure Tx (K : PySem.W.Frag) (A : Ad) : Prop where
  cl : Cls K A.Book
  nMost : NoAttr K A.Book "most"
  nTaken : NoAttr K A.Book "taken"
  nBy : NoAttr K A.Book "by_number"
  sub : ∀ e : Er, PySem.W.subIn K (.ref (A.er e)) (.ref A.PegError) = some true
  pB : PySem.W.subIn K (.ref A.PegError) (.type "BaseException") = some true
  pD : PySem.W.hasDictIn K A.PegError = true
  pT : PySem.W.typeIn K (.ref A.PegError) = some (.type "type")
  exc : ∀ e : Er, ExcC K (A.er e)
  kit : ∀ e c : Er, PySem.W.kitOne K (.ref (A.er e)) (.ref (A.er c)) = some (decide (e = c))
  kitP : ∀ e : Er, PySem.W.kitOne K (.ref (A.er e)) (.ref A.PegError) = some true
  kitV : ∀ e : Er, PySem.W.kitOne K (.ref (A.er e)) (.type "ValueError") = some true
  bHa : PySem.W.findIn K (.ref A.Book) "__class__" = some (some (.builtin "object.__class__"))
  bHm : PySem.W.mroIn K A.Book (.type "object") = some true
  full : PySem.W.exmOne K (.ref A.Full) (.ref A.Full) = some true
  exm : ∀ e c : Er, PySem.W.exmOne K (.ref (A.er e)) (.ref (A.er c)) = some (decide (e = c))
  iRd : PySem.W.readsIn K A.PegError (.type "type") = true
  iGa : PySem.W.specialIn K (.ref A.PegError) "__getattribute__" = some (some (.builtin "type.__getattribute__"))
  iVi : PySem.W.findCls K (.ref A.PegError) (.type "type") "__init__" = some (.val (.builtin "ValueError.__init__"))
  o_Against : OexC K A.Against
  o_NoWay : OexC K A.NoWay
  n_trail : PySem.W.findIn K (.ref A.Against) "trail" = some none
  n_near : PySem.W.findIn K (.ref A.NoWay) "near" = some none
theorem Tx.peg {K : PySem.W.Frag} {A : Ad} (T : Tx K A) (e : Er) : PySem.W.exmOne K (.ref (A.er e)) (.ref A.PegError) = some true := PySem.W.exm_ref T.pB T.pD T.pT (T.sub e)

theorem Tx.slf {K : PySem.W.Frag} {A : Ad} (T : Tx K A) (e : Er) : PySem.W.exmOne K (.ref (A.er e)) (.ref (A.er e)) = some true := by
  rw [T.exm e e, decide_eq_true rfl]
theorem Tx.xf {K : PySem.W.Frag} {A : Ad} (T : Tx K A) (e : Er) : XfC K (A.er e) := ⟨(T.exc e).hg, (T.exc e).hk, (T.exc e).hs, (T.exc e).hd⟩
theorem Tx.isB {K : PySem.W.Frag} {A : Ad} (T : Tx K A) {H : Hp} {a dx : Addr} {fs : List (Str × V)} (h : H a = some (.ins A.Book dx fs)) : TyX K H (.ref a) (.ref A.Book) := .base (.ins h T.cl T.bHa (T.exc .full).hn (T.exc .full).ht T.bHm)
theorem kit_self {K : PySem.W.Frag} {t : Value} : PySem.W.kitOne K t t = some true := by
  unfold PySem.W.kitOne
  rw [if_pos (beq_self_eq_true _)]

/-! ### a book -/
def bF (most taken : Int) (d : Addr) : List (Str × V) := [("most", .int most), ("taken", .int taken), ("by_number", .ref d)]
def RowsKV (K : PySem.W.Frag) (H : Hp) : List (Key × V) → List Row → Prop := Paired fun kv r => kv.1 = Sum.inl r.n ∧ Dp K H kv.2 (rowD r)
structure BookAt (K : PySem.W.Frag) (A : Ad) (H : Hp) (b d : Addr) (most taken : Int) (rows : List Row) : Prop where
  ins : ∃ dx, H b = some (.ins A.Book dx (bF most taken d))
  dict : ∃ kvs, H d = some (.dK kvs) ∧ RowsKV K H kvs rows
  nd : (rows.map Row.n).Nodup
  le : ∀ r ∈ rows, 1 ≤ r.n ∧ r.n ≤ taken
/-- all but two things stand -/
def Chd2 (p q : Addr) (H H' : Hp) : Prop := ∀ b o, b ≠ p → b ≠ q → H b = some o → H' b = some o
section
variable {K : PySem.W.Frag} {A : Ad} {H H' : Hp} {b d : Addr} {most taken : Int} {rows : List Row}
theorem RowsKV.tups (e : Tups H H') {kvs : List (Key × V)} (h : RowsKV K H kvs rows) : RowsKV K H' kvs rows := Paired.mapP h fun a b q => ⟨q.1, row_tups e q.2⟩
theorem BookAt.mono (e : Same H H') (h : BookAt K A H b d most taken rows) : BookAt K A H' b d most taken rows := by
  obtain ⟨⟨dx, h1⟩, ⟨kvs, h2, h3⟩, h4, h5⟩ := h
  exact ⟨⟨dx, e _ _ h1⟩, ⟨kvs, e _ _ h2, h3.tups (tups_of e)⟩, h4, h5⟩
theorem RowsKV.vals : ∀ {kvs : List (Key × V)} {rows : List Row}, RowsKV K H kvs rows → DpAll K H (kvs.map (·.2)) (rows.map rowD)
  | _, _, .nil => .nil
  | _, _, .cons h t => .cons h.2 (RowsKV.vals t)
theorem RowsKV.keys : ∀ {kvs : List (Key × V)} {rows : List Row}, RowsKV K H kvs rows → kvs.map (·.1) = rows.map fun r => Sum.inl r.n
  | _, _, .nil => rfl
  | _, _, .cons h t => congr (congrArg List.cons h.1) (RowsKV.keys t)
theorem RowsKV.snoc : ∀ {kvs : List (Key × V)} {rows : List Row} {kv : Key × V} {r : Row}, RowsKV K H kvs rows → (kv.1 = Sum.inl r.n ∧ Dp K H kv.2 (rowD r)) → RowsKV K H (kvs ++ [kv]) (rows ++ [r])
  | _, _, _, _, .nil, e => .cons e .nil
  | _, _, _, _, .cons a t, e => .cons a (RowsKV.snoc t e)
theorem RowsKV.length {kvs : List (Key × V)} (h : RowsKV K H kvs rows) : kvs.length = rows.length := Paired.length h
theorem RowsKV.not {kvs : List (Key × V)} (h : RowsKV K H kvs rows) {n : Int} (hn : ∀ r ∈ rows, r.n ≠ n) : valV kvs (Sum.inl n) = none := valV_no (by
  rw [h.keys]
  intro m
  obtain ⟨r, hr, e⟩ := List.mem_map.mp m
  exact hn r hr (Sum.inl.inj e))
theorem RowsKV.get : ∀ {kvs : List (Key × V)} {rows : List Row}, RowsKV K H kvs rows → (rows.map Row.n).Nodup → ∀ r ∈ rows, ∃ v, valV kvs (Sum.inl r.n) = some v ∧ Dp K H v (rowD r)
  | _, _, .nil, _, r, hr => by cases hr
  | _, _, .cons (a := kv) (b := r0) h t, nd, r, hr => by
    rw [List.map_cons] at nd
    obtain ⟨n1, n2⟩ := List.nodup_cons.mp nd
    rcases List.mem_cons.mp hr with e | hr
    · subst e
      exact ⟨_, valV_pos h.1, h.2⟩
    · obtain ⟨v, h1, h2⟩ := RowsKV.get t n2 r hr
      refine ⟨v, ?_, h2⟩
      rw [valV_neg]
      · exact h1
      · rw [h.1]
        intro e
        exact n1 (Sum.inl.inj e ▸ List.mem_map.mpr ⟨r, hr, rfl⟩)
/-- the row of a number goes -/
theorem RowsKV.drop {n : Int} : ∀ {kvs : List (Key × V)} {rows : List Row}, RowsKV K H kvs rows → RowsKV K H (dropK kvs (Sum.inl n)) (rows.filter fun r => decide (r.n ≠ n))
  | _, _, .nil => .nil
  | _, _, .cons (a := kv) (b := r) (l₁ := kvs) (l₂ := rows) h t => by
    have ih := RowsKV.drop (n := n) t
    unfold dropK at ih ⊢
    by_cases e : r.n = n
    · have e1 : decide (kv.1 ≠ Sum.inl n) = false := decide_eq_false (by rw [h.1, e]; exact fun z => z rfl)
      rw [List.filter_cons, List.filter_cons, e1, decide_eq_false (fun z => z e)]
      exact ih
    · have e1 : decide (kv.1 ≠ Sum.inl n) = true := decide_eq_true (by rw [h.1]; exact fun z => e (Sum.inl.inj z))
      rw [List.filter_cons, List.filter_cons, e1, decide_eq_true e]
      exact .cons h ih
end

/-! ### comprehensions, by data -/
/-- data that stays where tuples stay -/
def TStay (d : PyData) : Prop := ∀ (K : PySem.W.Frag) (H H' : Hp) (v : V), Tups H H' → Dp K H v d → Dp K H' v d
theorem TStay.row (r : Row) : TStay (rowD r) := fun _ _ _ _ e h => row_tups e h
theorem TStay.int (i : Int) : TStay (.int i) := fun _ _ _ _ _ h => by rw [dp_int h]; exact .int i
theorem TStay.bl (b : Bool) : TStay (.bool b) := fun _ _ _ _ _ h => by rw [dp_bl h]; exact .bl b
theorem TStay.str (z : Str) : TStay (.str z) := fun _ _ _ _ _ h => by rw [dp_str h]; exact .str z
theorem TStay.all {K : PySem.W.Frag} {H H' : Hp} (e : Tups H H') : ∀ {ds : List PyData} {vs : List V}, (∀ d ∈ ds, TStay d) → DpAll K H vs ds → DpAll K H' vs ds
  | _, _, _, .nil => .nil
  | _, _, k, .cons a b => .cons (k _ (List.mem_cons_self ..) K _ _ _ e a) (TStay.all e (fun d hd => k d (List.mem_cons_of_mem _ hd)) b)
theorem dp_ints {K : PySem.W.Frag} {H : Hp} : ∀ {ns : List Int} {vs : List V}, DpAll K H vs (ns.map PyData.int) → vs = ns.map V.int
  | [], _, .nil => rfl
  | _ :: _, _, .cons a b => by rw [dp_int a, dp_ints b]; rfl
section
variable {K : PySem.W.Frag} {H : Hp}
theorem filt_snoc {α : Type} (f : Nat → Option α) (i : Nat) : (List.range (i + 1)).filterMap f = (List.range i).filterMap f ++ (f i).toList := by
  rw [List.range_succ, List.filterMap_append]
  congr 1
/-- one turn -/
theorem lcd_turn {f : Nat → Option PyData} {te : TE} {tt : TT} {σ : L2.St} {i : Nat} {D : Addr} {H' : Hp} (hst : ∀ i d, f i = some d → TStay d) (hD : H D = none) (hi : i < 100000)
    (P : Same H H' ∧ ∃ vs, H' D = some (.lst vs) ∧ vs.length ≤ i ∧ DpAll K H' vs ((List.range i).filterMap f))
    (ht : ∀ (R : Bool → Hp → Prop), R (f i).isSome H' → tt σ H' R)
    (he : ∀ (d : PyData) (R : VK), f i = some d → (∀ (v : V) (H2 : Hp), Same H' H2 → Dp K H2 v d → R v H2) → te σ H' R) :
    tt σ H' fun b H3 => if b = true then te σ H3 fun y H4 => ∃ acc, H4 D = some (.lst acc) ∧ acc.length < sizeLine ∧ (Same H (upd H4 D (.lst (acc ++ [y]))) ∧ ∃ vs, (upd H4 D (.lst (acc ++ [y]))) D = some (.lst vs) ∧ vs.length ≤ i + 1 ∧ DpAll K (upd H4 D (.lst (acc ++ [y]))) vs ((List.range (i + 1)).filterMap f))
      else (Same H H3 ∧ ∃ vs, H3 D = some (.lst vs) ∧ vs.length ≤ i + 1 ∧ DpAll K H3 vs ((List.range (i + 1)).filterMap f)) := by
  obtain ⟨s, vs, hd, hlen, dp⟩ := P
  refine ht _ ?_
  cases hf : f i with
  | none =>
    show Same H H' ∧ _
    refine ⟨s, vs, hd, by omega, ?_⟩
    rw [filt_snoc, hf]
    simpa using dp
  | some d =>
    show te σ H' _
    refine he d _ hf fun v H2 s2 dv => ⟨vs, s2 _ _ hd, szl (by omega), same_mut (s.trans s2) hD, vs ++ [v], upd_same, by rw [List.length_append]; exact Nat.succ_le_succ hlen, ?_⟩
    have tp2 : Tups H2 (upd H2 D (.lst (vs ++ [v]))) := (Tups.refl H2).mut (s2 _ _ hd) True.intro
    have tp : Tups H' (upd H2 D (.lst (vs ++ [v]))) := (tups_of s2).trans tp2
    rw [filt_snoc, hf]
    refine dpAll_append (TStay.all tp (fun d hd => ?_) dp) (.cons (hst i d hf K _ _ _ tp2 dv) .nil)
    obtain ⟨m, _, e⟩ := List.mem_filterMap.mp hd
    exact hst m d e
theorem lcd_listT {a : Addr} {xs : List V} {te : TE} {tt : TT} {j : Nat} {σ : L2.St} {Q : VK} (f : Nat → Option PyData) (hst : ∀ i d, f i = some d → TStay d) (hl : SqL K H a xs) (hz : xs.length < 100000) (hw : ∀ x, wipe ((wipe σ [j]).set j (some x)) [j] = wipe σ [j])
    (ht : ∀ (i : Nat) (x : V) (H1 : Hp) (R : Bool → Hp → Prop), xs[i]? = some x → Same H H1 → R (f i).isSome H1 → tt ((wipe σ [j]).set j (some x)) H1 R)
    (he : ∀ (i : Nat) (x : V) (d : PyData) (H1 : Hp) (R : VK), xs[i]? = some x → f i = some d → Same H H1 → (∀ (v : V) (H2 : Hp), Same H1 H2 → Dp K H2 v d → R v H2) → te ((wipe σ [j]).set j (some x)) H1 R)
    (q : ∀ (p : Addr) (H2 : Hp) (vs : List V), H p = none → Same H H2 → H2 p = some (.lst vs) → DpAll K H2 vs ((List.range xs.length).filterMap f) → Q (.ref p) H2) : tLc (iList K (tC (.ref a))) (gName j) tt te [j] σ H Q := by
  refine ⟨a, rfl, ⟨xs, hl⟩, fun D hD => lc_list (K := K) (a := a) (xs := xs) (fun i H' => Same H H' ∧ ∃ vs, H' D = some (.lst vs) ∧ vs.length ≤ i ∧ DpAll K H' vs ((List.range i).filterMap f)) ⟨same_new hD, [], upd_same, Nat.le_refl _, .nil⟩ (fun i H' _ h => same_l h.1 hl) ?_ ?_⟩
  · intro i x H' e P
    have hi : i < xs.length := (List.getElem?_eq_some_iff.mp e).1
    exact ⟨hw x, lcd_turn hst hD (by omega) P (fun R k => ht i x H' R e P.1 k) fun d R hf k => he i x d H' R e hf P.1 k⟩
  · rintro H' ⟨s, vs, hd, hlen, dp⟩
    exact q D H' vs hD s hd dp
theorem lcd_list {a : Addr} {xs : List V} {tl te : TE} {tt : TT} {j : Nat} {σ : L2.St} {Q : VK} (f : Nat → Option PyData) (hst : ∀ i d, f i = some d → TStay d) (hl : SqL K H a xs) (htl : ∀ R, R (.ref a) H → tl σ H R) (hz : xs.length < 100000) (hw : ∀ x, wipe ((wipe σ [j]).set j (some x)) [j] = wipe σ [j])
    (ht : ∀ (i : Nat) (x : V) (H1 : Hp) (R : Bool → Hp → Prop), xs[i]? = some x → Same H H1 → R (f i).isSome H1 → tt ((wipe σ [j]).set j (some x)) H1 R)
    (he : ∀ (i : Nat) (x : V) (d : PyData) (H1 : Hp) (R : VK), xs[i]? = some x → f i = some d → Same H H1 → (∀ (v : V) (H2 : Hp), Same H1 H2 → Dp K H2 v d → R v H2) → te ((wipe σ [j]).set j (some x)) H1 R)
    (q : ∀ (p : Addr) (H2 : Hp) (vs : List V), H p = none → Same H H2 → H2 p = some (.lst vs) → DpAll K H2 vs ((List.range xs.length).filterMap f) → Q (.ref p) H2) : uLc (iList K tl) (gName j) tt te [j] σ H Q :=
  uLc_of (htl _ (lcd_listT f hst hl hz hw ht he q))
theorem filt_at {α β : Type} (g : α → Option β) : ∀ l : List α, (List.range l.length).filterMap (fun i => (l[i]?).bind g) = l.filterMap g
  | [] => rfl
  | x :: l => by
    have e : (fun i => ((x :: l)[i]?).bind g) ∘ Nat.succ = fun i => (l[i]?).bind g := by
      funext i
      simp
    rw [List.length_cons, List.range_succ_eq_map, List.filterMap_cons, List.filterMap_map, e, filt_at g l, List.filterMap_cons]
    rfl
theorem filt_rows (rows : List Row) (P : Row → Bool) : (List.range rows.length).filterMap (fun i => (rows[i]?).bind fun r => if P r then some (rowD r) else none) = (rows.filter P).map rowD := by
  rw [filt_at]
  induction rows with
  | nil => rfl
  | cons r rows ih =>
    rw [List.filterMap_cons, ih, List.filter_cons]
    cases h : P r <;> simp
theorem lcd_range {n : Nat} {ta : TA} {te : TE} {tt : TT} {j : Nat} {σ : L2.St} {Q : VK} (f : Nat → Option PyData) (hst : ∀ i d, f i = some d → TStay d) (hta : ∀ R, R [.int (n : Int)] H → ta σ H R) (hz : n < 100000) (hw : ∀ x, wipe ((wipe σ [j]).set j (some x)) [j] = wipe σ [j])
    (ht : ∀ (i : Nat) (H1 : Hp) (R : Bool → Hp → Prop), i < n → Same H H1 → R (f i).isSome H1 → tt ((wipe σ [j]).set j (some (.int (0 + i)))) H1 R)
    (he : ∀ (i : Nat) (d : PyData) (H1 : Hp) (R : VK), i < n → f i = some d → Same H H1 → (∀ (v : V) (H2 : Hp), Same H1 H2 → Dp K H2 v d → R v H2) → te ((wipe σ [j]).set j (some (.int (0 + i)))) H1 R)
    (q : ∀ (p : Addr) (H2 : Hp) (vs : List V), H p = none → Same H H2 → H2 p = some (.lst vs) → DpAll K H2 vs ((List.range n).filterMap f) → Q (.ref p) H2) : uLc (iRng1 ta) (gName j) tt te [j] σ H Q := by
  refine uLc_of (hta _ ⟨n, rfl, by omega, by omega, fun D hD => lc_range (lo := 0) (n := (n : Int).toNat) (fun i H' => Same H H' ∧ ∃ vs, H' D = some (.lst vs) ∧ vs.length ≤ i ∧ DpAll K H' vs ((List.range i).filterMap f)) ⟨same_new hD, [], upd_same, Nat.le_refl _, .nil⟩ ?_ ?_⟩)
  · intro i H' hi P
    have hi : i < n := by omega
    exact ⟨hw _, lcd_turn hst hD (by omega) P (fun R k => ht i H' R hi P.1 k) fun d R hf k => he i d H' R hi hf P.1 k⟩
  · rintro H' ⟨s, vs, hd, hlen, dp⟩
    have e : (n : Int).toNat = n := by omega
    rw [e] at dp
    exact q D H' vs hD s hd dp
end
theorem int_eqv (a b : Int) : PyData.eqv (.int a) (.int b) = decide (a = b) := by
  rw [PyData.eqv]
  exact Bool.beq_eq_decide_eq ..

/-! ### heights: what a way sums up to -/
theorem total_cons (s : Row) (ss : List Row) : (((s :: ss).map Row.rise).sum : Int) = s.rise + (ss.map Row.rise).sum := by rw [List.map_cons, List.sum_cons]
theorem way_sum {rows : List Row} {f : Str → Int} (h : ∀ r ∈ rows, r.rise = f r.other - f r.one) {a b : Str} {ss : List Row} (w : Way rows a ss b) : (ss.map Row.rise).sum = f b - f a := by
  induction w with
  | nil a => simp
  | @cons s ss b k t ih =>
    rw [total_cons, ih]
    have e : s.rise = f s.other - f s.one := by
      rcases k with k | k
      · exact h s k
      · have q := h _ k
        have q : 0 - s.rise = f s.one - f s.other := q
        omega
    omega

/-! ### more of data -/
theorem dpAll_erase {K : PySem.W.Frag} {H : Hp} {ds : List PyData} {vs : List V} (k : Nat) (h : DpAll K H vs ds) : DpAll K H (vs.eraseIdx k) (ds.eraseIdx k) := by
  rw [List.eraseIdx_eq_take_drop_succ, List.eraseIdx_eq_take_drop_succ]
  exact dpAll_append (dpAll_take k h) (dpAll_drop (k + 1) h)
theorem erase_filter : ∀ {rows : List Row} {k : Nat} {r : Row}, (rows.map Row.n).Nodup → rows[k]? = some r → rows.eraseIdx k = rows.filter fun s => decide (s.n ≠ r.n)
  | [], _, _, _, h => by simp at h
  | x :: rows, 0, r, nd, h => by
    have e : x = r := by simpa using h
    subst e
    rw [List.map_cons] at nd
    obtain ⟨n1, n2⟩ := List.nodup_cons.mp nd
    rw [List.eraseIdx_cons_zero, List.filter_cons_of_neg (by simp)]
    symm
    rw [List.filter_eq_self]
    intro s hs
    refine decide_eq_true fun e => n1 ?_
    rw [← e]
    exact List.mem_map.mpr ⟨s, hs, rfl⟩
  | x :: rows, k + 1, r, nd, h => by
    rw [List.map_cons] at nd
    obtain ⟨n1, n2⟩ := List.nodup_cons.mp nd
    have h : rows[k]? = some r := by simpa using h
    have ne : x.n ≠ r.n := fun e => n1 (by rw [e]; exact List.mem_map.mpr ⟨r, List.mem_of_getElem? h, rfl⟩)
    rw [List.eraseIdx_cons_succ, erase_filter n2 h, List.filter_cons, if_pos (decide_eq_true ne)]
def sigD (a b : Str) (c : Int) : PyData := .tuple [.str a, .str b, .int c]
theorem sigD_mk {K : PySem.W.Frag} {H : Hp} {t : Addr} {a b : Str} {c : Int} (h : SqT K H t [.str a, .str b, .int c]) : Dp K H (.ref t) (sigD a b c) := .tup h (.cons (.str _) (.cons (.str _) (.cons (.int _) .nil)))
theorem sigD_eqv (a b : Str) (c : Int) : PyData.eqv (sigD a b c) (sigD a b c) = true := by simp [sigD, PyData.eqv, PyData.eqvAll]
theorem sigD_shaped {a b : Str} {c : Int} (h1 : PyData.strOk a = true) (h2 : PyData.strOk b = true) : SeqAt.shaped (sigD a b c) = true := by
  have e : (sigD a b c).depth = 1 := by simp [sigD, PyData.depth, PyData.depthAll]
  show ((sigD a b c).canLay0 && decide ((sigD a b c).depth ≤ 64)) = true
  rw [Bool.and_eq_true, e]
  exact ⟨by simp [sigD, PyData.canLay0, PyData.canLayAll0, h1, h2], by decide⟩
theorem tups_chd2 {H H' : Hp} {p q : Addr} {u w : HO} (c : Chd2 p q H H') (hp : H p = some u) (hq : H q = some w) (kp : Plain u) (kq : Plain w) : Tups H H' := fun b xs h => by
  have e1 : b ≠ p := fun e => by
    subst e
    rcases h with h | ⟨o, h⟩ <;> (rw [hp] at h; cases h; exact kp)
  have e2 : b ≠ q := fun e => by
    subst e
    rcases h with h | ⟨o, h⟩ <;> (rw [hq] at h; cases h; exact kq)
  rcases h with h | ⟨o, h⟩
  · exact .inl (c _ _ e1 e2 h)
  · exact .inr ⟨o, c _ _ e1 e2 h⟩
theorem made_same {H H1 : Hp} {b dx C : Addr} (nb : H b = none) (ndx : H dx = none) (c : Chd b (upd (upd H dx (.own b)) b (.ins C dx [])) H1) : Same H H1 := fun a o e => c a o (ne_of_none e nb) (by
  rw [upd_ne (ne_of_none e nb), upd_ne (ne_of_none e ndx)]
  exact e)
theorem made_free {H : Hp} {b dx d : Addr} {o o' : HO} (h : (upd (upd H dx o) b o') d = none) : H d = none := by
  have e1 : d ≠ b := fun e => by rw [e, upd_same] at h; cases h
  rw [upd_ne e1] at h
  have e2 : d ≠ dx := fun e => by rw [e, upd_same] at h; cases h
  rw [upd_ne e2] at h
  exact h
theorem filtMap {α β : Type} (P : α → Bool) (h : α → β) : ∀ l : List α, l.filterMap (fun x => if P x then some (h x) else none) = (l.filter P).map h
  | [] => rfl
  | x :: l => by
    rw [List.filterMap_cons, filtMap P h l, List.filter_cons]
    cases e : P x <;> simp

/-! ### what isinstance says of an error -/
theorem kit_ref {K : PySem.W.Frag} {D C : Addr} {b : Bool} (hc : PySem.W.isClsIn K C = true) (ht : PySem.W.typeIn K (.ref C) = some (.type "type")) (hs : PySem.W.subIn K (.ref D) (.ref C) = some b) (self : PySem.W.subIn K (.ref C) (.ref C) = some true) : PySem.W.kitOne K (.ref D) (.ref C) = some b := by
  unfold PySem.W.kitOne
  by_cases e : D = C
  · subst e
    rw [self] at hs
    rw [if_pos (beq_self_eq_true _)]
    exact hs
  · have ne : ¬ (Value.ref D == Value.ref C) = true := fun q => e (Value.ref.inj (beq_iff_eq.mp q))
    rw [if_neg ne]
    have e1 : ((PySem.W.clsIn K C).isSome && PySem.W.typeIn K (.ref C) == some (.type "type")) = true := by
      have hc' : (PySem.W.clsIn K C).isSome = true := hc
      rw [hc', ht]
      rfl
    show (if ((PySem.W.clsIn K C).isSome && PySem.W.typeIn K (.ref C) == some (.type "type")) = true then PySem.W.subIn K (.ref D) (.ref C) else none) = some b
    rw [if_pos e1]
    exact hs
theorem kit_tyV {K : PySem.W.Frag} {D : Addr} {T : String} {b : Bool} (hm : PySem.W.kitMeta T = true) (hs : PySem.W.subIn K (.ref D) (.type T) = some b) : PySem.W.kitOne K (.ref D) (.type T) = some b := by
  unfold PySem.W.kitOne
  have ne : ¬ (Value.ref D == Value.type T) = true := fun q => by
    have q := beq_iff_eq.mp q
    cases q
  rw [if_neg ne]
  show (if PySem.W.kitMeta T = true then PySem.W.subIn K (.ref D) (.type T) else none) = some b
  rw [if_pos hm]
  exact hs
end Peg

/-! PegF: errors with an attribute of their own. -/
namespace PySem.W
open PySem PySem.Spec PySem.Calls PyProof.Rows
section
variable {prog : Program} {w : World} {A : Around} {E : Value → Shared → Prop} {s : Shared} {K : Frag} {x D : Addr} {ox : Obj} {o : Option Obj}
theorem findObj_dataO {C : Addr} {name : Str} {a g : Value} (hc : (clsIn K C).isSome = true) (ha : findIn K (.ref C) name = some (some a)) (hg : specialIn K a "__get__" = some (some g)) (ht : takesIn K a = some true) : findObj K C o name = some (.bind g a) := by
  obtain ⟨cd, hc⟩ := Option.isSome_iff_exists.mp hc
  unfold findObj
  rw [hc, Option.bind_some, ha, Option.bind_some]
  simp [hg, ht]
theorem kin_classO {Q : Option Value → Shared → Prop} (hga : findIn K (.ref D) "__getattribute__" = some (some (.builtin "BaseException.__getattribute__"))) (hgt : findIn K (.ref D) "__getattr__" = some none) (hsub : subIn K (.ref D) (.type "BaseException") = some true)
    (hdct : hasDictIn K D = true) (ha : findIn K (.ref D) "__class__" = some (some (.builtin "object.__class__")))
    (hn : specialIn K (.builtin "object.__class__") "__get__" = some (some (.builtin "getset_descriptor.__get__"))) (htk : takesIn K (.builtin "object.__class__") = some true) (hm : mroIn K D (.type "object") = some true)
    (X : K.In s.heap) (I : InstAt s.heap x ox D o) (h : Q (some (.ref D)) { s with toks := s.toks + 1 }) : wpAny (model prog w) A (getAttr? (.ref x) "__class__") Q E s := by
  have hf : findObj K D o "__class__" = some (.bind (.builtin "getset_descriptor.__get__") (.builtin "object.__class__")) := findObj_dataO (by obtain ⟨cd, hc, _⟩ := any_some hdct; rw [hc]; rfl) ha hn htk
  obtain ⟨hp, g, d, t, os⟩ := s
  have L0 := I.type (M := model prog w)
  have L1 := looks_findIn (M := model prog w) X hga
  have L2 := looks_findIn (M := model prog w) X hgt
  have L3 := looks_find (M := model prog w) X I hf
  have sub : Looks (model prog w) hp (isInstance (.ref x) (.type "BaseException")) true := L0.andThen (looks_subIn X hsub)
  have hx0 : (false && onTheHeap (Value.builtin "BaseException.__getattribute__")) = false := rfl
  have hx2 : (Value.builtin "BaseException.__getattribute__" == Value.builtin "object.__getattribute__") = false := by decide +kernel
  have hx1 : (onTheHeap (Value.ref D) && Value.builtin "BaseException.__getattribute__" == Value.builtin "object.__getattribute__") = false := by rw [hx2]; rfl
  unfold getAttr? getAttrBy? getAttrBy
  refine wpAny_bind (wpAny_mkText (wpAny_bind (wpAny_attempt (wpAny_holding (wpAny_bind (L0.at (wpAny_bind (L1.at ?_))))))))
  show wpAny _ _ (if (onTheHeap (Value.ref D) && Value.builtin "BaseException.__getattribute__" == Value.builtin "object.__getattribute__") = true then _ else _) _ _ _
  rw [hx1, if_neg Bool.false_ne_true]
  unfold getAttrByItsOwn hookBefore
  refine wpAny_bind ?_
  rw [if_pos (show onTheHeap (Value.ref D) = true from rfl)]
  refine L2.at ?_
  refine wpAny_bind (wpAny_attempt (wpAny_holding ?_))
  unfold callGetattribute
  rw [hx0, if_neg Bool.false_ne_true]
  unfold boundAndCalled
  rw [PySem.F.excAttr_ValueError.ga.bind (.ref x)]
  refine wpAny_bind (wpAny_pure ?_)
  show wpAny _ _ (call (.builtin "BaseException.__getattribute__") [.ref x, .str "__class__" t]) _ _ _
  refine wpAny_call (codeAny_call_builtin PySem.F.excAttr_ValueError.ga.plain PySem.F.entry_bexc_ga ?_)
  refine @check_slot (model prog w) _ _ ⟨hp, g, d, t + 1, os⟩ "BaseException.__getattribute__" "BaseException" "__getattribute__" (.ref x) [.str "__class__" t] [] _ (by decide +kernel) (by decide +kernel) sub (PySem.F.args_bexc_ga (.ref x) (.str "__class__" t)) ?_
  unfold Builtin.«object.__getattribute__»
  refine wpAny_bind (wpAny_of_eq (a := ((Value.ref x : Value), [Value.str "__class__" t])) (by first | rfl | (simp only [slotArgs]; rfl)) ?_)
  refine wpAny_bind (wpAny_pure (wpAny_bind (L0.at (wpAny_bind (L3.at ?_)))))
  show wpAny _ _ (holding [Value.builtin "object.__class__"] (call (.builtin "getset_descriptor.__get__") [.builtin "object.__class__", .ref x, .ref D]) >>= ret) _ _ _
  refine wpAny_bind (wpAny_holding (wpAny_call (class_get (s := ⟨hp, g, d, t + 1, os⟩) (ox := ox) (od := o) X I hm ?_)))
  refine wpAny_pure ?_
  show wpAny _ _ (handedOut (.ref D)) _ _ _
  rw [handedOut_of (v := .ref D) rfl]
  first
    | exact wpAny_pure (wpAny_pure h)
    | exact wpAny_pure h
    | exact wpAny_pure (wpAny_bind (wpAny_pure (wpAny_pure h)))
theorem kitx_excO (hga : findIn K (.ref D) "__getattribute__" = some (some (.builtin "BaseException.__getattribute__"))) (hgt : findIn K (.ref D) "__getattr__" = some none) (hsub : subIn K (.ref D) (.type "BaseException") = some true) (hdct : hasDictIn K D = true) (ha : findIn K (.ref D) "__class__" = some (some (.builtin "object.__class__")))
    (hn : specialIn K (.builtin "object.__class__") "__get__" = some (some (.builtin "getset_descriptor.__get__"))) (htk : takesIn K (.builtin "object.__class__") = some true) (hm : mroIn K D (.type "object") = some true) :
    KitX K (.ref x) (.ref D) (fun h => InstAt h x ox D o) where
  ty := fun _ _ _ I => I.type
  it := fun _ _ X _ => by
    obtain ⟨cdD, hcD, _⟩ := any_some hdct
    unfold clsIn at hcD
    split at hcD
    · rename_i c' d' cd' sl' ho
      intro A' Q' E' s' k q
      unfold isType loadHead
      exact wpAny_bind (wpAny_loadPart (k _ _ (X _ _ ho)) (wpAny_pure q))
    · cases hcD
  ne := fun h tp dd its n sl X htp => by
    obtain ⟨cdD, hcD, _⟩ := any_some hdct
    refine Bool.eq_false_iff.mpr fun q => ?_
    have e : D = tp := Value.ref.inj (beq_iff_eq.mp q)
    subst e
    unfold clsIn at hcD
    split at hcD
    · rename_i c' d' cd' sl' ho
      have z := (X _ _ ho).symm.trans htp
      cases z
    · cases hcD
  ca := fun X I k => kin_classO hga hgt hsub hdct ha hn htk hm X I k
end
end PySem.W
namespace U
open PySem PySem.Spec PyProof.Rows L2
/-- where the error's own dict, if it has one, is tracked -/
def DictOk (H : Hp) : Option Addr → Prop
  | none => True
  | some dd => ∃ fs, H dd = some (.xd fs)
/-- isinstance(e, c), e an error held, with a dict of its own or none -/
def cIsX (K : PySem.W.Frag) : List V → Hp → VK → Prop := fun xs H Q => match xs with
  | [.ref a, c] => ∃ (D : Addr) (d : Option Addr) (cv : Value) (b : Bool), H a = some (ErO (.ref D) d a) ∧ DictOk H d ∧ ExcC K D ∧ ClsV c cv ∧ PySem.W.kitOne K (.ref D) cv = some b ∧ Q (.bl b) H
  | _ => False
theorem b_isX {X : Cx} : CallR X (.builtin "isinstance") (cIsX X.K) := by
  intro pins s σ H xs us Q I r h
  match xs, h with
  | [.ref a, c], h =>
    obtain ⟨D, d, cv, b, ha, hd, C, kc, e, q⟩ := h
    cases r with
    | cons rx rr =>
      cases rr with
      | cons rt rr =>
        cases rr
        cases rx
        have ec := kc.eq rt
        subst ec
        obtain ⟨⟨oe, vs, hget, hz, hv⟩, _, _⟩ := I.hok a _ ha
        have J : ∃ o, PySem.W.InstAt s.heap a oe D o := by
          obtain ⟨oc, od, oda, osl⟩ := oe
          obtain ⟨h1, h2⟩ := hz
          dsimp only at h1 h2 hv
          subst h1 h2 hv
          cases od with
          | none => exact ⟨none, hget, rfl, rfl, trivial⟩
          | some dd =>
            obtain ⟨fs, hfs⟩ := hd
            have hx : ObjOk X.prog X.w H s.heap dd (.xd fs) := I.hok dd _ hfs
            obtain ⟨mA, hns, hr⟩ := hx
            obtain ⟨o1, ho, hl⟩ := lookIn_ns hns
            exact ⟨some o1, hget, rfl, rfl, ho⟩
        obtain ⟨o, J⟩ := J
        exact PySem.W.kia_one (PySem.W.kitx_excO C.hg C.hk C.hs C.hd C.ha C.hn C.ht C.hm) I.kIn J e (fun z => nomatch z) fun tk => ⟨.bl b, H, I.kept (t' := tk) fun _ _ z => z, rfl, q⟩
/-- B.__init__(self, ..), B an own class over ValueError without an __init__ of its own -/
theorem pe_ownInit {X : Cx} {e : Expr} {es : List Expr} {ta : TA} {x : Str} {C : Addr} {mc : Value} {p1 p2 pos : Pos} {pl : Sem Bool} (hg : Gl X x) (hm : X.mg x = some (.ref C)) (rd : PySem.W.readsIn X.K C mc = true)
    (ga : PySem.W.specialIn X.K (.ref C) "__getattribute__" = some (some (.builtin "type.__getattribute__"))) (vV : PySem.W.findCls X.K (.ref C) mc "__init__" = some (.val (.builtin "ValueError.__init__"))) (ha : PA X (e :: es) ta)
    (hc : eval (.Call (.Attribute (.Name x p1) "__init__" p2) (e :: es) [] pos) X.env = (do
      let ov ← eval (.Name x p1) X.env
      standAt p2.atName
      let (f, first) ← holding [ov] (getMethod ov "__init__" pl)
      callWith pos f first (backTo pos (starEach (e :: es) X.env)) (backToKw pos (keywordEach [] X.env))) := by rfl)
    (hdb : (x == ("__debug__" : Str)) = false := by decide)
    (he : starEach (e :: es) X.env = (false, eval e X.env) :: starEach es X.env := by rfl) (hpl : (backTo pos (starEach es X.env)).any (·.1) = false := by rfl) :
    PE X (.Call (.Attribute (.Name x p1) "__init__" p2) (e :: es) [] pos) (tVeI X.K ta) := by
  refine ⟨fun pins s σ H Q I h => ?_⟩
  refine PySem.W.methodCall_KW (ld_glob I hg hm ?_ hdb) hc
  refine PySem.W.method_cls I.kIn ga (PySem.W.cls_value I.kIn rd vV (by decide +kernel) ?_)
  show wpAny _ _ (callWith pos (Value.builtin "ValueError.__init__") [] (backTo pos (starEach (e :: es) X.env)) []) _ _ _
  refine PyProof.Rows.callWith_method1 (thn (ha.run pos pins _ σ H _ (I.tok _) h) fun us s1 ⟨vs, H1, I1, r1, a, C', ws, ev, hl, T, ea, q⟩ => ?_) he hpl
  subst ev
  cases r1 with
  | @cons _ u0 _ ur ra rw' =>
    obtain rfl : u0 = Value.ref a := ra
    have hlen : ur.length ≤ sizeLine := by
      rw [← Paired.length rw', sizeLine_eq]
      omega
    exact oinit_ok T I1 ea hlen fun s' J => ⟨.non, H1, J, rfl, q⟩
end U

/-! PegG: list.remove of data, tuple + tuple, an own error with an __init__ of its own. -/
namespace U
open PySem PySem.Spec PyProof.Rows L2

/-! ### tuples put together, cut -/
def cCatT (K : PySem.W.Frag) : R2 := fun x y H Q => match x, y with
  | .ref a, .ref b => ∃ xs ys, SqT K H a xs ∧ SqT K H b ys ∧ xs ≠ [] ∧ ys ≠ [] ∧ xs.length + ys.length ≤ sizeLine ∧ New H (.tup (xs ++ ys)) fun p H2 => Q (.ref p) H2
  | _, _ => False
theorem o_catT {X : Cx} : OpR X (binaryOp .Add) (cCatT X.K) := op_imp op_catA fun x y H Q q => by
  cases x <;> cases y <;> first
    | (obtain ⟨xs, ys, h1, h2, n1, n2, hz, q⟩ := q; exact ⟨_, _, xs, ys, rfl, rfl, h1, h2, hz, fun z => absurd z n1, fun _ z => absurd z n2, fun _ _ => New.at q⟩)
    | exact False.elim q
def cSlT (K : PySem.W.Frag) : V → Option Int → Option Int → Hp → VK → Prop := fun x lo hi H Q => match x with
  | .ref a => ∃ xs, SqT K H a xs ∧ ¬ (HT.sIx xs.length 0 lo = 0 ∧ HT.sIx xs.length xs.length hi = xs.length) ∧ New H (.tup (cutV xs lo hi)) fun p H2 => Q (.ref p) H2
  | _ => False
theorem s_tup {X : Cx} : SlR X (cSlT X.K) := sl_imp sl_tup fun x l u H Q q => by
  cases x <;> first
    | (obtain ⟨xs, h, n, q⟩ := q; exact ⟨_, _, rfl, h, n, New.at q⟩)
    | exact False.elim q

/-! ### l.remove(x), data -/
def cRemD (K : PySem.W.Frag) : V → List V → Hp → VK → Prop := fun x xs H Q => match x, xs with
  | .ref a, [y] => ∃ (zs : List V) (d : PyData) (ds : List PyData) (j : Nat) (z : PyData), H a = some (.lst zs) ∧ DpAll K H zs ds ∧ Dp K H y d ∧ SeqAt.shaped (.list ds) = true ∧ SeqAt.shaped d = true ∧
      ds[j]? = some z ∧ PyData.eqv z d = true ∧ (∀ (m : Nat) (z' : PyData), m < j → ds[m]? = some z' → PyData.eqv z' d = false) ∧ Chg a H (.lst (zs.eraseIdx j)) fun H2 => Q .non H2
  | _, _ => False
theorem m_removeD {X : Cx} (hu : X.A.units + 65 < cLine) : MtM X "list.remove" (cRemD X.K) := by
  intro pins s σ H x xs v us Q I rx rxs h
  match x, xs, h with
  | .ref a, [y], h =>
    obtain ⟨zs, d, ds, j, z, hH, hall, hy, sl, sd, hz, hzj, hno, q⟩ := h
    cases rx
    cases rxs with
    | cons ry rt =>
      rename_i uy ut
      cases rt
      obtain ⟨bs, r1⟩ := Dp.reads I d y uy hy ry
      have hxs : PyData.canLayAll0 ds = true := SeqAt.canLay_of_shaped sl
      have hroom : X.A.units + 1 + min (PyData.depthAll ds) d.depth < cLine := room_in_shaped sd hu
      obtain ⟨zl, its, n, r, hl, e⟩ := I.lstM hH
      obtain ⟨as, h4⟩ := Dp.readsAll I ds _ its hall r
      have hn : its.length = ds.length := SeqAt.ReadsAll.length ds its as h4
      have hmap : its.map (SeqAt.readOf s.heap) = ds := SeqAt.readsAll_map ds its as hxs h4
      obtain ⟨hjd, _⟩ := List.getElem?_eq_some_iff.mp hz
      have hjl : j < its.length := by omega
      have hj : j < its.toArray.size := by simpa using hjl
      have at_ : ∀ (m : Nat) (hm : m < its.toArray.size) (z' : PyData), ds[m]? = some z' → SeqAt.readOf s.heap its.toArray[m] = z' := by
        intro m hm z' hz'
        have hml : m < its.length := by simpa using hm
        rw [← hmap, List.getElem?_map, List.getElem?_eq_getElem hml] at hz'
        have e1 : SeqAt.readOf s.heap its[m] = z' := Option.some.inj (show some (SeqAt.readOf s.heap its[m]) = some z' from hz')
        simpa using e1
      refine call_meets PySem.F.slot_list_remove ⟨_, e, rfl⟩ PySem.F.entry_list_remove (PySem.F.args_list_remove_2 _ _)
        (SeqAt.list_removeAt a its.toArray n none #[] uy (fun u => PyData.eqv (SeqAt.readOf s.heap u) d) j hj ?_ ?_ (by rw [List.size_toArray]; omega)) ⟨e, SeqAt.items_eqAt (vs := its.toArray) (show ReadsAll s.heap its.toArray.toList ds as from h4) r1 hxs (SeqAt.canLay_of_shaped sd) hroom, ?_⟩
      · show PyData.eqv (SeqAt.readOf s.heap its.toArray[j]) d = true
        rw [at_ j hj z hz]
        exact hzj
      · intro m hm hmj
        have hmd : m < ds.length := by omega
        have hz' : ds[m]? = some ds[m] := List.getElem?_eq_getElem hmd
        show PyData.eqv (SeqAt.readOf s.heap its.toArray[m]) d = false
        rw [at_ m hm _ hz']
        exact hno m _ hmj hz'
      · have rr := r.eraseIdx j
        refine ⟨.non, _, I.lset (its' := its.eraseIdx j) (t' := s.toks) hH e ?_ rr ?_, rfl, q.at⟩
        · show its.toArray.eraseIdxIfInBounds j = (its.eraseIdx j).toArray
          rw [List.eraseIdxIfInBounds_toArray]
        · have z2 := len_erase zs j
          omega

/-! ### an own error with an __init__ of its own -/
structure CalE (P : Program) (w : World) (K : PySem.W.Frag) (mg : Str → Option Value) (base : Heap) (k : Nat) (C : Addr) (x : Str) (ps : List Str) (sp : Sp) : Prop where
  ex : ∃ (f : Addr) (fd : FuncData), OexC K C ∧ PySem.W.findIn K (.ref C) "__init__" = some (some (.ref f)) ∧ PySem.W.typeIn K (.ref f) = some (.type "function") ∧ FnOk P w K mg base CX0 k f fd ps sp ∧ mg x = some (.ref C) ∧ Binds K fd ps []
theorem CalE.pmk {X : Cx} {k : Nat} {C : Addr} {x : Str} {ps : List Str} {sp : Sp} {e : Expr} {es : List Expr} {ta : TA} {p pos : Pos} (c : CalE X.prog X.w X.K X.mg X.base k C x ps sp) (hr : Room (k + 1) X.A) (ha : PA X (e :: es) ta) (hg : Gl X x := by rfl)
    (hdb : (x == ("__debug__" : Str)) = false := by decide) (he : starEach (e :: es) X.env = (false, eval e X.env) :: starEach es X.env := by rfl) (hpl : (backTo pos (starEach es X.env)).any (·.1) = false := by rfl) :
    PMk X (.Call (.Name x p) (e :: es) [] pos) (tMkO C sp [] ta) := by
  obtain ⟨f, fd, T, iC, tI, F, m, b⟩ := c.ex
  exact pmk_oex T iC tI F hr b .nil pass0 hg m ha hdb he hpl
def uMkO (E : XK) (C : Addr) (sp : Sp) (ta : TA) : TS := fun _ σ H => tMkO C sp [] ta σ H fun cls d H' => E cls d H'
/-- what its __init__ does, one field -/
def uVeI (K : PySem.W.Frag) (ta : TA) : TE := tVeI K ta
end U

/-! PegZ: zip of three lists. -/
namespace U
open PySem PySem.Spec PyProof.Rows L2
def Itz3 (K : PySem.W.Frag) (a b c : Addr) : It :=
  ⟨fun i H => ∃ (xs ys zs : List V) (x y z : V), SqL K H a xs ∧ SqL K H b ys ∧ SqL K H c zs ∧ xs[i]? = some x ∧ ys[i]? = some y ∧ zs[i]? = some z,
    fun i H v H' => ∃ T x y z, v = .ref T ∧ H T = none ∧ H' = upd H T (.tup [x, y, z]) ∧ (∀ xs, SqL K H a xs → xs[i]? = some x) ∧ (∀ ys, SqL K H b ys → ys[i]? = some y) ∧ ∀ zs, SqL K H c zs → zs[i]? = some z,
    fun i H => ∃ xs ys zs : List V, SqL K H a xs ∧ SqL K H b ys ∧ SqL K H c zs ∧ xs.length = i ∧ ys.length = i ∧ zs.length = i⟩
theorem turn_zip3 {P : Program} {w : World} {K : PySem.W.Frag} {elts : List Expr} {kk : Nat} {tpos : Pos} {a b c z TI TO i1 i2 i3 : Addr} (D : ZipSep3 z TI TO i1 i2 i3 [i1, a] [i2, b] [i3, c]) (n1 : a ≠ i1) (n2 : b ≠ i2) (n3 : c ≠ i3) :
    Turn P w K (.Tuple elts kk tpos) (Itz3 K a b c) [z, TI, TO, i1, i2, i3] z (fun i h => IsZip h z TI TO .none ∧ IsTupOf3 h TI (.ref i1) (.ref i2) (.ref i3) ∧ (∃ x y u, IsTupOf3 h TO x y u) ∧ h.IsListIter i1 a i ∧ h.IsListIter i2 b i ∧ h.IsListIter i3 c i) where
  mem := by simp
  obj := fun i h st q hq => by
    obtain ⟨hz, hTI, ⟨x, y, u, hTO⟩, ⟨o1, e1, _, d1⟩, ⟨o2, e2, _, d2⟩, ⟨o3, e3, _, d3⟩⟩ := st
    have e' : q = z ∨ q = TI ∨ q = TO ∨ q = i1 ∨ q = i2 ∨ q = i3 := by simpa using hq
    rcases e' with e | e | e | e | e | e
    · rw [e]; exact ⟨_, hz, fun v q => nomatch q⟩
    · rw [e]; exact ⟨_, hTI, fun v q => nomatch q⟩
    · rw [e]; exact ⟨_, hTO, fun v q => nomatch q⟩
    · rw [e]; exact ⟨o1, e1, fun v q => by rw [d1] at q; cases q⟩
    · rw [e]; exact ⟨o2, e2, fun v q => by rw [d2] at q; cases q⟩
    · rw [e]; exact ⟨o3, e3, fun v q => by rw [d3] at q; cases q⟩
  keep := fun i h h' st k => by
    obtain ⟨hz, hTI, ⟨x, y, u, hTO⟩, h1, h2, h3⟩ := st
    exact ⟨k z (by simp) _ hz, k TI (by simp) _ hTI, ⟨x, y, u, k TO (by simp) _ hTO⟩, h1.at fun o q => k i1 (by simp) o q, h2.at fun o q => k i2 (by simp) o q, h3.at fun o q => k i3 (by simp) o q⟩
  item := by
    intro X hP hw hK hc i pins s σ H E I hf st hg
    subst hP hw hK
    obtain ⟨hz, hTI, ⟨x0, y0, u0, hTO⟩, h1, h2, h3⟩ := st
    obtain ⟨xs, ys, zs, x, y, v, hqx, hqy, hqz, hx, hy, hv⟩ := hg
    obtain ⟨its, rv, p, _⟩ := I.list hqx
    obtain ⟨its2, rv2, p2, _⟩ := I.list hqy
    obtain ⟨its3, rv3, p3, _⟩ := I.list hqz
    obtain ⟨u, hu, ru⟩ := rv.get hx
    obtain ⟨u2, hu2, ru2⟩ := rv2.get hy
    obtain ⟨u3, hu3, ru3⟩ := rv3.get hv
    have hzl : z < s.heap.objs.size := Heap.lt_size hz
    have l1 : i < its.toArray.size := by rw [List.size_toArray]; exact (List.getElem?_eq_some_iff.mp hu).1
    have l2 : i < its2.toArray.size := by rw [List.size_toArray]; exact (List.getElem?_eq_some_iff.mp hu2).1
    have l3 : i < its3.toArray.size := by rw [List.size_toArray]; exact (List.getElem?_eq_some_iff.mp hu3).1
    refine wpAny_pyNext_zipD3_item D (Draws.list (prog := X.prog) (w := X.w) (A := X.A.in1) (I.ok.hd hc) i1 a n1 its.toArray) (Draws.list (prog := X.prog) (w := X.w) (A := X.A.in1) (I.ok.hd hc) i2 b n2 its2.toArray) (Draws.list (prog := X.prog) (w := X.w) (A := X.A.in1) (I.ok.hd hc) i3 c n3 its3.toArray) hz hTI hTO ⟨h1, p.isList⟩ ⟨h2, p2.isList⟩ ⟨h3, p3.isList⟩ l1 l2 l3 fun x1 x2 x3 h' tk y1 y2 y3 z' TO' h1' h2' h3' hT hsz hk => ?_
    have ex1 : x1 = u := by
      have y1 : its.toArray[i]? = some x1 := y1
      rw [List.getElem?_toArray] at y1
      exact Option.some.inj (y1.symm.trans hu)
    have ex2 : x2 = u2 := by
      have y2 : its2.toArray[i]? = some x2 := y2
      rw [List.getElem?_toArray] at y2
      exact Option.some.inj (y2.symm.trans hu2)
    have ex3 : x3 = u3 := by
      have y3 : its3.toArray[i]? = some x3 := y3
      rw [List.getElem?_toArray] at y3
      exact Option.some.inj (y3.symm.trans hu3)
    subst ex1 ex2 ex3
    refine ⟨_, rfl, wpAny_letOwnedTupleGo_zip (s := { s with heap := h', toks := tk }) z' fun h'' z'' sb => ?_⟩
    have hT2 : h''.get? s.heap.objs.size = some { cls := .type "tuple", data := .seq #[x1, x2, x3] } := (sb.2 _ (Nat.ne_of_gt hzl)).trans hT
    have new : ObjOk X.prog X.w (upd H s.heap.objs.size (.tup [x, y, v])) h'' s.heap.objs.size (.tup [x, y, v]) :=
      ⟨by show 3 ≤ sizeLine; decide, [x1, x2, x3], .cons ru (.cons ru2 (.cons ru3 .nil)), ⟨_, hT2, rfl, _, rfl⟩⟩
    have I1 : Inv X pins σ (upd H s.heap.objs.size (.tup [x, y, v])) { s with heap := h'', toks := tk } :=
      I.turnedNew (t' := tk) (ch := [z, TI, TO, i1, i2, i3]) (fun c o hb q => (sb.2 c (fun q' => hb (by simp [q']))).trans (hk c o (fun q' => hb (by simp [q'])) (fun q' => hb (by simp [q'])) (fun q' => hb (by simp [q'])) (fun q' => hb (by simp [q'])) (fun q' => hb (by simp [q'])) q)) hf (Nat.le_refl _) new
    refine ⟨.ref s.heap.objs.size, _, I1, rfl, ⟨_, x, y, v, rfl, I.hok.fresh (Nat.le_refl _), rfl, fun l hl => by rw [I.list_inj hl hqx]; exact hx, fun l hl => by rw [I.list_inj hl hqy]; exact hy, fun l hl => by rw [I.list_inj hl hqz]; exact hv⟩, ⟨z'', ?_, ⟨x1, x2, x3, ?_⟩, ?_, ?_, ?_⟩, fun q hqm => ?_⟩
    · exact (sb.2 _ D.TIz).trans (hk _ _ D.TIz D.TITO D.TIi1 D.TIi2 D.TIi3 hTI)
    · exact (sb.2 _ D.TOz).trans TO'
    · exact h1'.1.at fun o q => (sb.2 _ D.zi1.symm).trans q
    · exact h2'.1.at fun o q => (sb.2 _ D.zi2.symm).trans q
    · exact h3'.1.at fun o q => (sb.2 _ D.zi3.symm).trans q
    · have hlt : q < s.heap.objs.size := by
        have e' : q = z ∨ q = TI ∨ q = TO ∨ q = i1 ∨ q = i2 ∨ q = i3 := by simpa using hqm
        rcases e' with e | e | e | e | e | e
        · rw [e]; exact hzl
        · rw [e]; exact Heap.lt_size hTI
        · rw [e]; exact Heap.lt_size hTO
        · rw [e]; obtain ⟨_, e1, _⟩ := h1; exact Heap.lt_size e1
        · rw [e]; obtain ⟨_, e2, _⟩ := h2; exact Heap.lt_size e2
        · rw [e]; obtain ⟨_, e3, _⟩ := h3; exact Heap.lt_size e3
      rw [upd_ne (Nat.ne_of_lt hlt)]
      exact (hf q hqm).1
  done := by
    intro X hP hw hK hc i pins s σ H E I hf st hg
    subst hP hw hK
    obtain ⟨hz, hTI, ⟨x0, y0, u0, hTO⟩, h1, h2, h3⟩ := st
    obtain ⟨xs, ys, zs, hqx, hqy, hqz, e1, e2, e3⟩ := hg
    obtain ⟨its, rv, p, _⟩ := I.list hqx
    obtain ⟨its2, rv2, p2, _⟩ := I.list hqy
    obtain ⟨its3, rv3, p3, _⟩ := I.list hqz
    have l1 := rv.length
    have l2 := rv2.length
    have l3 := rv3.length
    exact wpAny_pyNext_zipD3_end D (Draws.list (prog := X.prog) (w := X.w) (A := X.A.in1) (I.ok.hd hc) i1 a n1 its.toArray) (Draws.list (prog := X.prog) (w := X.w) (A := X.A.in1) (I.ok.hd hc) i2 b n2 its2.toArray) (Draws.list (prog := X.prog) (w := X.w) (A := X.A.in1) (I.ok.hd hc) i3 c n3 its3.toArray) hz hTI hTO ⟨h1, p.isList⟩ ⟨h2, p2.isList⟩ ⟨h3, p3.isList⟩
      (by rw [List.size_toArray]; omega) (by rw [List.size_toArray]; omega) (by rw [List.size_toArray]; omega) (.inl (by rw [List.size_toArray]; omega)) fun h' tk hk => ⟨rfl, I.turnedL (t' := tk) (ch := [z, TI, TO, i1, i2, i3]) (fun c o hb q =>
      hk c o (fun q' => hb (by simp [q'])) (fun q' => hb (by simp [q'])) (fun q' => hb (by simp [q'])) (fun q' => hb (by simp [q'])) (fun q' => hb (by simp [q'])) q) hf⟩
  self := fun A i s Q E st h => wpAny_pyIter_zip st.1 h
def iZip3 (K : PySem.W.Frag) (ta : TA) : TI := fun σ H R => ta σ H fun vs H1 => ∃ a b c xs ys zs, vs = [.ref a, .ref b, .ref c] ∧ SqL K H1 a xs ∧ SqL K H1 b ys ∧ SqL K H1 c zs ∧ R (Itz3 K a b c) H1
theorem pi_zip3 {X : Cx} {e e2 e3 : Expr} {ta : TA} {p pos tpos : Pos} {elts : List Expr} {kk : Nat} (hg : Gl X "zip") (hm : X.mg "zip" = none) (ha : PA X [e, e2, e3] ta)
    (hs : starEach [e, e2, e3] X.env = (false, eval e X.env) :: starEach [e2, e3] X.env := by rfl) (hpl : (backTo pos (starEach [e2, e3] X.env)).any (·.1) = false := by rfl) :
    PI X (.Tuple elts kk tpos) (.Call (.Name "zip" p) [e, e2, e3] [] pos) (iZip3 X.K ta) := by
  refine ⟨fun pins s σ H R I h => ?_⟩
  refine Call_ (ld_blt I hg hm PyProof.Rows.boot_zip (PyProof.Rows.callWith_type1 (thn (ha.run pos pins s σ H _ I h) fun us s1 ⟨vs, H1, I1, r1, q1⟩ => ?_) hs hpl))
  obtain ⟨a, b, c, xs, ys, zs, ex, hqx, hqy, hqz, q⟩ := q1
  subst ex
  cases r1 with
  | cons r rr =>
    cases rr with
    | cons r' rr =>
      cases rr with
      | cons r'' rr =>
        cases rr
        cases r
        cases r'
        cases r''
        obtain ⟨its, rv, p1, _⟩ := I1.list hqx
        obtain ⟨its2, rv2, p2, _⟩ := I1.list hqy
        obtain ⟨its3, rv3, p3, _⟩ := I1.list hqz
        have la : a < s1.heap.objs.size := p1.lt
        have lb : b < s1.heap.objs.size := p2.lt
        have lc : c < s1.heap.objs.size := p3.lt
        refine zip_begins3 (begins_list a its.toArray) (begins_list b its2.toArray) (begins_list c its3.toArray) p1.isList p2.isList p3.isList fun h' hz hTI hTO g1 g2 g3 hsz hk => wpAny_pyIter_zip hz ?_
        have I2 : Inv X pins σ H1 { s1 with heap := h' } := I1.kept (t' := s1.toks) hk
        have mem1 : ∀ x : Addr, ∀ y : Addr, y < s1.heap.objs.size → x ∈ [y] → x < s1.heap.objs.size := fun x y hy hx => by
          rw [List.mem_singleton.mp hx]
          exact hy
        refine ⟨s1.heap.objs.size + 5, [s1.heap.objs.size + 5, s1.heap.objs.size + 3, s1.heap.objs.size + 4, s1.heap.objs.size, s1.heap.objs.size + 1, s1.heap.objs.size + 2], _, _, H1, rfl, I2, turn_zip3 (zip_sep3 (fun x hx => mem1 x a la hx) (fun x hx => mem1 x b lb hx) (fun x hx => mem1 x c lc hx)) (Nat.ne_of_lt la) (Nat.ne_of_lt (Nat.lt_succ_of_lt lb)) (Nat.ne_of_lt (Nat.lt_of_lt_of_le lc (Nat.le_add_right _ 2))), ⟨hz, hTI, ⟨_, _, _, hTO⟩, ⟨_, g1, rfl, rfl⟩, ⟨_, g2, rfl, rfl⟩, ⟨_, g3, rfl, rfl⟩⟩, fun q hqm => ?_, q⟩
        have e' : q = s1.heap.objs.size + 5 ∨ q = s1.heap.objs.size + 3 ∨ q = s1.heap.objs.size + 4 ∨ q = s1.heap.objs.size ∨ q = s1.heap.objs.size + 1 ∨ q = s1.heap.objs.size + 2 := by simpa using hqm
        have hle : s1.heap.objs.size ≤ q := by
          rcases e' with z | z | z | z | z | z
          · rw [z]; exact Nat.le_add_right _ _
          · rw [z]; exact Nat.le_add_right _ _
          · rw [z]; exact Nat.le_add_right _ _
          · rw [z]; exact Nat.le_refl _
          · rw [z]; exact Nat.le_add_right _ _
          · rw [z]; exact Nat.le_add_right _ _
        exact I1.fpOk hle (I1.hok.fresh hle) |> fun f => by
          have f2 := I2
          exact ⟨I1.hok.fresh hle, f.2⟩
end U

/-! PegT: texts. -/
namespace U
open PySem PySem.Spec PyProof.Rows L2
def cSplit : V → List V → Hp → VK → Prop := fun x xs H Q => match x, xs with
  | .str a, [.str b] => (b.length == 0) = false ∧ a.length + 2 ≤ sizeLine ∧ New H (.lst ((Txt.split a b).map V.str)) fun p H2 => Q (.ref p) H2
  | _, _ => False
theorem m_split {X : Cx} : MtR X "str.split" cSplit := mt_imp mt_split fun x xs H Q q => by
  match x, xs, q with
  | .str a, [.str b], q =>
    obtain ⟨h1, h2, q⟩ := q
    exact ⟨a, b, rfl, rfl, h1, h2, New.at q⟩
theorem e_split {X : Cx} {o e : Expr} {to te : TE} {apos pos : Pos} (ho : PE X o to) (he : PE X e te) (hs : starEach [e] X.env = [(false, eval e X.env)] := by rfl) (hbase : attributeBase o "split" X.env (eval o X.env) = eval o X.env := by rfl) (hline : (apos.endLine == pos.line) = true := by rfl) :
    PE X (.Call (.Attribute o "split" apos) [e] [] pos) (tM1 cSplit to te) := pe_m1 F.slot_str_split F.type_str_split m_split ho he hs hbase hline
def cJoin (K : PySem.W.Frag) : V → List V → Hp → VK → Prop := fun x xs H Q => match x, xs with
  | .str a, [.ref p] => ∃ ys : List Str, SqL K H p (ys.map V.str) ∧ (ys.map (·.length)).sum + ys.length * a.length ≤ 16777216 ∧ Q (.str (Txt.join a ys)) H
  | _, _ => False
theorem m_join {X : Cx} : MtR X "str.join" (cJoin X.K) := mt_imp mt_join fun x xs H Q q => by
  match x, xs, q with
  | .str a, [.ref p], q =>
    obtain ⟨ys, h1, h2, q⟩ := q
    exact ⟨a, p, ys, rfl, rfl, .inl h1, h2, q⟩
theorem e_join {X : Cx} {o e : Expr} {to te : TE} {apos pos : Pos} (ho : PE X o to) (he : PE X e te) (hs : starEach [e] X.env = [(false, eval e X.env)] := by rfl) (hbase : attributeBase o "join" X.env (eval o X.env) = eval o X.env := by rfl) (hline : (apos.endLine == pos.line) = true := by rfl) :
    PE X (.Call (.Attribute o "join" apos) [e] [] pos) (tM1 (cJoin X.K) to te) := pe_m1 F.slot_str_join F.type_str_join m_join ho he hs hbase hline

/-! ### a def whose last parameter has a default -/
structure CalD (P : Program) (w : World) (K : PySem.W.Frag) (mg : Str → Option Value) (base : Heap) (CX : CXT) (k : Nat) (x : Str) (ps : List Str) (sp : Sp) (dvs : List V) : Prop where
  ex : ∃ (f : Addr) (fd : FuncData), FnOk P w K mg base CX k f fd ps sp ∧ mg x = some (.ref f) ∧ PySem.W.keepIn K (.ref f) = true ∧ Binds K fd ps [] ∧ ∃ ds, Vals dvs ds ∧ Binds K fd ps ds
section
variable {X : Cx} {CX : CXT} {k : Nat} {x : Str} {ps : List Str} {sp : Sp} {dvs : List V} {e : Expr} {es : List Expr} {t : TA} {p pos : Pos}
theorem CalD.pe {E : XK} (c : CalD X.prog X.w X.K X.mg X.base CX k x ps sp dvs) (hr : Room k X.A) (hx : Passes CX X E)
    (ha : PA X (e :: es) t) (hg : Gl X x := by rfl) (hdb : (x == ("__debug__" : Str)) = false := by decide) (he : starEach (e :: es) X.env = (false, eval e X.env) :: starEach es X.env := by rfl) (hpl : (backTo pos (starEach es X.env)).any (·.1) = false := by rfl) :
    PE X (.Call (.Name x p) (e :: es) [] pos) (tCall sp [] E t) := by
  obtain ⟨f, fd, F, m, kp, b, _⟩ := c.ex
  exact pe_call F hr hg m kp b .nil hx ha hdb he hpl
theorem CalD.peD {E : XK} (c : CalD X.prog X.w X.K X.mg X.base CX k x ps sp dvs) (hr : Room k X.A) (hx : Passes CX X E)
    (ha : PA X (e :: es) t) (hg : Gl X x := by rfl) (hdb : (x == ("__debug__" : Str)) = false := by decide) (he : starEach (e :: es) X.env = (false, eval e X.env) :: starEach es X.env := by rfl) (hpl : (backTo pos (starEach es X.env)).any (·.1) = false := by rfl) :
    PE X (.Call (.Name x p) (e :: es) [] pos) (tCall sp dvs E t) := by
  obtain ⟨f, fd, F, m, kp, _, ds, hd, b⟩ := c.ex
  exact pe_call F hr hg m kp b hd hx ha hdb he hpl
theorem CalD.peS {E : L2.St → XK} (c : CalD X.prog X.w X.K X.mg X.base CX k x ps sp dvs) (hr : Room k X.A) (hx : ∀ σ, PassesAt CX X σ (E σ))
    (ha : PA X (e :: es) t) (hg : Gl X x := by rfl) (hdb : (x == ("__debug__" : Str)) = false := by decide) (he : starEach (e :: es) X.env = (false, eval e X.env) :: starEach es X.env := by rfl) (hpl : (backTo pos (starEach es X.env)).any (·.1) = false := by rfl) :
    PE X (.Call (.Name x p) (e :: es) [] pos) (tCallS sp E t) := by
  obtain ⟨f, fd, F, m, kp, b, _⟩ := c.ex
  exact pe_callS F hr hg m kp b hx ha hdb he hpl
end
end U
namespace Peg
open PySem PySem.Spec PyProof.Rows L2 U
/-! ### numbers as texts -/
def numS (c : Int) : Str := toString c
theorem numS_pos (n : Nat) : (numS (n : Int)).cps.toList = TL.numL n := TL.tl_num n
theorem numS_neg (n : Nat) (h : 0 < n) : (numS (-(n : Int))).cps.toList = 45 :: TL.numL n := by
  obtain ⟨m, rfl⟩ : ∃ m, n = m + 1 := ⟨n - 1, by omega⟩
  have e : (toString (-((m + 1 : Nat) : Int)) : String) = "-" ++ toString ((m + 1 : Nat) : Int) := rfl
  show (Str.ofString (toString (-((m + 1 : Nat) : Int)))).cps.toList = _
  have q := TL.tl_num (m + 1)
  have q : (Str.ofString (toString ((m + 1 : Nat) : Int))).cps.toList = TL.numL (m + 1) := q
  rw [Str.ofString_eq_toList] at q
  rw [e, Str.ofString_eq_toList, ← q]
  simp [String.toList_append]
theorem numL_head {n : Nat} (h : 0 < n) : ∃ d r, TL.numL n = d :: r ∧ d ≠ 48 := by
  induction n using Nat.strongRecOn with
  | _ n ih =>
    by_cases h10 : n < 10
    · exact ⟨48 + n, [], TL.numL_lt h10, by omega⟩
    · obtain ⟨d, r, e, ne⟩ := ih (n / 10) (by omega) (by omega)
      exact ⟨d, r ++ [48 + n % 10], by rw [TL.numL_step (by omega), e]; rfl, ne⟩
/-- a number's text, by its sign -/
theorem numS_cases (c : Int) : (0 ≤ c ∧ (numS c).cps.toList = TL.numL c.toNat) ∨ (c < 0 ∧ (numS c).cps.toList = 45 :: TL.numL c.natAbs) := by
  by_cases h : 0 ≤ c
  · refine .inl ⟨h, ?_⟩
    have e : c = ((c.toNat : Nat) : Int) := by omega
    have q := numS_pos c.toNat
    rw [← e] at q
    exact q
  · refine .inr ⟨by omega, ?_⟩
    have e : c = -((c.natAbs : Nat) : Int) := by omega
    have q := numS_neg c.natAbs (by omega)
    rw [← e] at q
    exact q
theorem numS_signs (c : Int) : ∀ x ∈ (numS c).cps.toList, x = 45 ∨ (48 ≤ x ∧ x ≤ 57) := fun x hx => by
  rcases numS_cases c with ⟨_, e⟩ | ⟨_, e⟩
  · rw [e] at hx
    exact .inr (TL.numL_digits _ x hx)
  · rw [e] at hx
    rcases List.mem_cons.mp hx with h | h
    · exact .inl h
    · exact .inr (TL.numL_digits _ x h)
def Bnd (c : Int) : Prop := -(10 ^ 60) < c ∧ c < 10 ^ 60
theorem numL_60 {n : Nat} (h : n < 10 ^ 60) : (TL.numL n).length ≤ 60 := TL.numL_len (by decide) h
theorem numS_len {c : Int} (h : Bnd c) : (numS c).length ≤ 61 := by
  rw [str_len]
  have h1 := h.1
  have h2 := h.2
  rcases numS_cases c with ⟨h0, e⟩ | ⟨h0, e⟩
  · rw [e]
    have := numL_60 (n := c.toNat) (by omega)
    omega
  · rw [e, List.length_cons]
    have := numL_60 (n := c.natAbs) (by omega)
    omega
theorem numS_int {c : Int} (h : Bnd c) : intText? (numS c) = some c := by
  have hl := numS_len h
  rcases numS_cases c with ⟨h0, e⟩ | ⟨h0, e⟩
  · have q := intText_digits (x := numS c) (by rw [e]; exact TL.numL_digits _) (by rw [e]; exact TL.numL_ne _) (by omega)
    rw [e, TL.numL_val] at q
    rw [q]
    congr 1
    omega
  · have q := intText_neg (x := numS c) e (TL.numL_digits _) (TL.numL_ne _) (by omega)
    rw [TL.numL_val] at q
    rw [q]
    congr 1
    omega
theorem log_bnd {c : Int} (h : Bnd c) : c.natAbs.log2 < 1920 := by
  have h1 := h.1
  have h2 := h.2
  by_cases e : c.natAbs = 0
  · rw [e]
    decide
  · refine (Nat.log2_lt e).mpr (Nat.lt_of_lt_of_le (m := 2 ^ 300) ?_ (Nat.pow_le_pow_right (by decide) (by decide)))
    omega

/-! ### sightings as texts -/
abbrev Sg := Str × Str × Int
def showR (a b : Str) (c : Int) : Str := a ++ " " ++ b ++ " " ++ numS c
def showS (s : Sg) : Str := showR s.1 s.2.1 s.2.2
def showAll (l : List Sg) : Str := Txt.join "; " (l.map showS)
def sgOf (r : Row) : Sg := (r.one, r.other, r.rise)
def Pg (z : Str) : Prop := ∃ n, Az z n ∧ 1 ≤ n ∧ n ≤ 8
theorem Pg.sz {z : Str} (h : Pg z) : z.length ≤ 8 := by
  obtain ⟨n, a, _, b⟩ := h
  rw [a.len]
  exact b
theorem Pg.ok {z : Str} (h : Pg z) : PyData.strOk z = true := let ⟨_, a, _⟩ := h; a.ok
theorem Pg.signs {z : Str} (h : Pg z) : ∀ c ∈ z.cps.toList, 97 ≤ c ∧ c ≤ 122 := let ⟨_, a, _⟩ := h; a.all
structure GoodS (s : Sg) : Prop where
  one : Pg s.1
  other : Pg s.2.1
  bnd : Bnd s.2.2
theorem blank_tl : (" " : Str).cps.toList = [32] := by decide +kernel
theorem semi_tl : ("; " : Str).cps.toList = 59 :: [32] := by decide +kernel
theorem showR_tl (a b : Str) (c : Int) : (showR a b c).cps.toList = a.cps.toList ++ 32 :: (b.cps.toList ++ 32 :: (numS c).cps.toList) := by
  unfold showR
  simp only [str_app_codes, blank_tl, List.append_assoc, List.cons_append, List.nil_append]
theorem blank_len : (" " : Str).length = 1 := by decide +kernel
theorem semi_len : ("; " : Str).length = 2 := by decide +kernel
theorem GoodS.len {s : Sg} (h : GoodS s) : (showS s).length ≤ 79 := by
  have h1 := h.one.sz
  have h2 := h.other.sz
  have h3 := numS_len h.bnd
  unfold showS showR
  rw [str_app_len, str_app_len, str_app_len, str_app_len, blank_len]
  omega
theorem GoodS.free {s : Sg} (h : GoodS s) : 59 ∉ (showS s).cps.toList := fun m => by
  unfold showS at m
  rw [showR_tl] at m
  rcases List.mem_append.mp m with m | m
  · have := h.one.signs 59 m
    omega
  rcases List.mem_cons.mp m with m | m
  · omega
  rcases List.mem_append.mp m with m | m
  · have := h.other.signs 59 m
    omega
  rcases List.mem_cons.mp m with m | m
  · omega
  · have := numS_signs _ 59 m
    omega
theorem split_all {l : List Sg} (hne : l ≠ []) (h : ∀ s ∈ l, GoodS s) : Txt.split (showAll l) "; " = l.map showS := by
  refine TL.split_join (s := 59) (S := [32]) semi_tl (by decide +kernel) (fun e => hne (List.map_eq_nil_iff.mp e)) fun p hp => ?_
  obtain ⟨s, hs, rfl⟩ := List.mem_map.mp hp
  exact (h s hs).free
theorem split_one {s : Sg} (h : GoodS s) : Txt.split (showS s) " " = [s.1, s.2.1, numS s.2.2] := by
  have e : showS s = Txt.join " " [s.1, s.2.1, numS s.2.2] := by
    rw [TL.join_eq]
    refine TL.ext_tl ?_
    rw [TL.tl_join]
    show (showS s).cps.toList = s.1.cps.toList ++ ((" " : Str).cps.toList ++ (s.2.1.cps.toList ++ ((" " : Str).cps.toList ++ (numS s.2.2).cps.toList)))
    unfold showS
    rw [showR_tl, blank_tl]
    rfl
  rw [e]
  refine TL.split_join (s := 32) (S := []) blank_tl (by decide +kernel) (by simp) fun p hp => ?_
  rcases List.mem_cons.mp hp with rfl | hp
  · intro m
    have := h.one.signs 32 m
    omega
  rcases List.mem_cons.mp hp with rfl | hp
  · intro m
    have := h.other.signs 32 m
    omega
  rcases List.mem_cons.mp hp with rfl | hp
  · intro m
    have := numS_signs _ 32 m
    omega
  · cases hp
theorem all_sum : ∀ {l : List Sg}, (∀ s ∈ l, GoodS s) → ((l.map showS).map (·.length)).sum ≤ 79 * l.length
  | [], _ => Nat.le_refl _
  | s :: l, h => by
    have h1 := (h s (List.mem_cons_self ..)).len
    have h2 := all_sum (l := l) fun t ht => h t (List.mem_cons_of_mem _ ht)
    rw [List.map_cons, List.map_cons, List.sum_cons, List.length_cons]
    omega
theorem showAll_len {l : List Sg} (h : ∀ s ∈ l, GoodS s) : (showAll l).length ≤ 81 * l.length := by
  have e := StrLaws.join_length_le "; " (l.map showS)
  rw [← TL.join_eq] at e
  have q := all_sum h
  rw [List.length_map, semi_len] at e
  have e : (showAll l).length ≤ _ := e
  omega
theorem showAll_ne {s : Sg} {l : List Sg} : showAll (s :: l) ≠ "" := fun e => by
  have m : 32 ∈ (showAll (s :: l)).cps.toList := by
    have e1 : (showAll (s :: l)).cps.toList = TL.joinL ("; " : Str).cps.toList (((s :: l).map showS).map TL.tl) := by
      unfold showAll
      rw [TL.join_eq]
      exact TL.tl_join _ _
    rw [e1]
    have m1 : 32 ∈ TL.tl (showS s) := by
      show 32 ∈ (showS s).cps.toList
      unfold showS
      rw [showR_tl]
      simp
    cases l with
    | nil => exact m1
    | cons t r => exact List.mem_append_left _ m1
  rw [e] at m
  exact absurd m (by decide +kernel)
theorem showAll_nil : showAll [] = "" := by decide +kernel
theorem dp_strs {K : PySem.W.Frag} {H : Hp} : ∀ {ns : List Str} {vs : List V}, DpAll K H vs (ns.map PyData.str) → vs = ns.map V.str
  | [], _, .nil => rfl
  | _ :: _, _, .cons a b => by rw [dp_str a, dp_strs b]; rfl
def sgD (s : Sg) : PyData := sigD s.1 s.2.1 s.2.2
def sgV (s : Sg) : List V := [.str s.1, .str s.2.1, .int s.2.2]
theorem sg_at {K : PySem.W.Frag} {H : Hp} {v : V} {s : Sg} (h : Dp K H v (sgD s)) : ∃ a, v = .ref a ∧ SqT K H a (sgV s) := by
  obtain ⟨a, xs, rfl, h, al⟩ := dp_tup h
  obtain ⟨_, _, rfl, h1, al⟩ := dpAll_cons al
  obtain ⟨_, _, rfl, h2, al⟩ := dpAll_cons al
  obtain ⟨_, _, rfl, h3, al⟩ := dpAll_cons al
  obtain rfl := dpAll_nil al
  obtain rfl := dp_str h1
  obtain rfl := dp_str h2
  obtain rfl := dp_int h3
  exact ⟨a, rfl, h⟩
theorem sg_mk {K : PySem.W.Frag} {H : Hp} {a : Addr} {s : Sg} (h : SqT K H a (sgV s)) : Dp K H (.ref a) (sgD s) := sigD_mk h
theorem TStay.sg (s : Sg) : TStay (sgD s) := fun K H H' v e h => by
  obtain ⟨a, rfl, h2⟩ := sg_at h
  exact sg_mk (tups_t e h2)
def Pot (f : Str → Int) (l : List Sg) : Prop := ∀ s ∈ l, s.2.2 = f s.2.1 - f s.1
def numb : Nat → List Sg → List Row
  | _, [] => []
  | k, s :: l => ⟨(k : Int) + 1, s.1, s.2.1, s.2.2⟩ :: numb (k + 1) l
theorem numb_snoc : ∀ (k : Nat) (l : List Sg) (s : Sg), numb k (l ++ [s]) = numb k l ++ [⟨((k + l.length : Nat) : Int) + 1, s.1, s.2.1, s.2.2⟩]
  | k, [], s => rfl
  | k, t :: l, s => by
    show _ :: numb (k + 1) (l ++ [s]) = _ :: (numb (k + 1) l ++ _)
    rw [numb_snoc (k + 1) l s, List.length_cons]
    have e : k + 1 + l.length = k + (l.length + 1) := by omega
    rw [e]
theorem numb_len : ∀ (k : Nat) (l : List Sg), (numb k l).length = l.length
  | _, [] => rfl
  | k, _ :: l => by
    show (numb (k + 1) l).length + 1 = l.length + 1
    rw [numb_len]
theorem numb_sg : ∀ (k : Nat) (l : List Sg), (numb k l).map sgOf = l
  | _, [] => rfl
  | k, s :: l => by
    show _ :: (numb (k + 1) l).map sgOf = _
    rw [numb_sg (k + 1) l]
    rfl
theorem numb_at : ∀ (k : Nat) (l : List Sg) (i : Nat) (r : Row) (s : Sg), (numb k l)[i]? = some r → l[i]? = some s → r = ⟨((k + i : Nat) : Int) + 1, s.1, s.2.1, s.2.2⟩
  | _, [], i, r, s, h, _ => by simp [numb] at h
  | k, t :: l, 0, r, s, h, h2 => by
    have e1 : (⟨(k : Int) + 1, t.1, t.2.1, t.2.2⟩ : Row) = r := Option.some.inj h
    have e2 : t = s := Option.some.inj h2
    rw [← e1, e2]
    rfl
  | k, t :: l, i + 1, r, s, h, h2 => by
    have e := numb_at (k + 1) l i r s h (by simpa using h2)
    rw [e]
    have e2 : k + 1 + i = k + (i + 1) := by omega
    rw [e2]
theorem numb_mem {k : Nat} {l : List Sg} {r : Row} (h : r ∈ numb k l) : sgOf r ∈ l := by
  rw [← numb_sg k l]
  exact List.mem_map.mpr ⟨r, h, rfl⟩
theorem pot_rows {f : Str → Int} {rows : List Row} {l : List Sg} (h : Pot f l) (e : ∀ r ∈ rows, sgOf r ∈ l) : ∀ r ∈ rows, r.rise = f r.other - f r.one := fun r hr => h _ (e r hr)
theorem same_chd2' {H H1 H2 : Hp} {p q : Addr} (s : Same H H1) (c : Chd2 p q H1 H2) (hp : H p = none) (hq : H q = none) : Same H H2 := fun a o e => c a o (ne_of_none e hp) (ne_of_none e hq) (s a o e)
theorem nums_sign {c : Nat} (h : 48 ≤ c ∧ c ≤ 57) : c ∈ ("0123456789" : Str).cps.toList := by
  have e : ("0123456789" : Str).cps.toList = (List.range 10).map (· + 48) := by decide +kernel
  rw [e, List.mem_map]
  exact ⟨c - 48, List.mem_range.mpr (by omega), by omega⟩
/-- a comprehension over a range, each value of a kind -/
theorem lcr_range {K : PySem.W.Frag} {H : Hp} {n : Nat} {ta : TA} {te : TE} {j : Nat} {σ : L2.St} {Q : VK} (G : V → Prop) (hta : ∀ R, R [.int (n : Int)] H → ta σ H R) (hz : n < 100000) (hw : ∀ x, wipe ((wipe σ [j]).set j (some x)) [j] = wipe σ [j])
    (he : ∀ (i : Nat) (H1 : Hp) (R : VK), i < n → Same H H1 → (∀ (v : V) (H2 : Hp), Same H1 H2 → G v → R v H2) → te ((wipe σ [j]).set j (some (.int (0 + i)))) H1 R)
    (q : ∀ (p : Addr) (H2 : Hp) (vs : List V), H p = none → Same H H2 → H2 p = some (.lst vs) → vs.length = n → (∀ v ∈ vs, G v) → Q (.ref p) H2) : uLc (iRng1 ta) (gName j) tYes te [j] σ H Q := by
  refine uLc_of (hta _ ⟨n, rfl, by omega, by omega, fun D hD => lc_range (lo := 0) (n := (n : Int).toNat) (fun i H' => Same H H' ∧ ∃ vs, H' D = some (.lst vs) ∧ vs.length = i ∧ ∀ v ∈ vs, G v) ⟨same_new hD, [], upd_same, rfl, fun v h => (by cases h)⟩ ?_ ?_⟩)
  · rintro i H' hi ⟨s, vs, hd, hlen, g⟩
    have hi : i < n := by omega
    refine ⟨hw _, ?_⟩
    unfold tYes
    dsimp only
    rw [if_pos rfl]
    refine he i H' _ hi s fun v H2 s2 gv => ⟨vs, s2 _ _ hd, szl (by omega), same_mut (s.trans s2) hD, vs ++ [v], upd_same, by rw [List.length_append, hlen]; rfl, fun x hx => ?_⟩
    rcases List.mem_append.mp hx with h | h
    · exact g x h
    · have e : x = v := by simpa using h
      rw [e]
      exact gv
  · rintro H' ⟨s, vs, hd, hlen, g⟩
    exact q D H' vs hD s hd (by omega) g
/-! ### two sightings that agree -/
def second (s : Sg) (one other : Str) (r : Int) : Int := if one = other then 0 else if one = s.1 ∧ other = s.2.1 then s.2.2 else if one = s.2.1 ∧ other = s.1 then 0 - s.2.2 else r
theorem second_bnd {s : Sg} {one other : Str} {r : Int} (h : Bnd s.2.2) (k : Bnd r) : Bnd (second s one other r) := by
  have h1 := h.1
  have h2 := h.2
  unfold second
  split
  · exact ⟨by decide, by decide⟩
  split
  · exact h
  split
  · exact ⟨by omega, by omega⟩
  · exact k
theorem second_pot {s : Sg} (h : s.1 = s.2.1 → s.2.2 = 0) (one other : Str) (r : Int) : ∃ f, Pot f [s, (one, other, second s one other r)] := by
  have mk : ∀ f : Str → Int, s.2.2 = f s.2.1 - f s.1 → second s one other r = f other - f one → ∃ f, Pot f [s, (one, other, second s one other r)] := fun f h1 h2 => ⟨f, fun t ht => by
    rcases List.mem_cons.mp ht with rfl | ht
    · exact h1
    · have e : t = (one, other, second s one other r) := by simpa using ht
      subst e
      exact h2⟩
  have f1 : s.2.2 = (if s.2.1 = s.2.1 then s.2.2 else 0) - (if s.1 = s.2.1 then s.2.2 else 0) := by
    rw [if_pos rfl]
    by_cases e : s.1 = s.2.1
    · rw [if_pos e, h e]
      rfl
    · rw [if_neg e]
      omega
  by_cases e0 : one = other
  · refine mk (fun z => if z = s.2.1 then s.2.2 else 0) f1 ?_
    unfold second
    rw [if_pos e0, e0]
    omega
  by_cases e1 : one = s.1 ∧ other = s.2.1
  · refine mk (fun z => if z = s.2.1 then s.2.2 else 0) f1 ?_
    unfold second
    rw [if_neg e0, if_pos e1, e1.1, e1.2]
    exact f1
  by_cases e2 : one = s.2.1 ∧ other = s.1
  · refine mk (fun z => if z = s.2.1 then s.2.2 else 0) f1 ?_
    unfold second
    rw [if_neg e0, if_neg e1, if_pos e2, e2.1, e2.2]
    have f1 := f1
    omega
  have es : second s one other r = r := by
    unfold second
    rw [if_neg e0, if_neg e1, if_neg e2]
  by_cases e3 : other = s.1 ∨ other = s.2.1
  · -- then the one is new
    have n1 : one ≠ s.1 ∧ one ≠ s.2.1 := by
      constructor
      · intro q
        rcases e3 with e3 | e3
        · exact e0 (q.trans e3.symm)
        · exact e1 ⟨q, e3⟩
      · intro q
        rcases e3 with e3 | e3
        · exact e2 ⟨q, e3⟩
        · exact e0 (q.trans e3.symm)
    refine mk (fun z => if z = one then (if other = s.2.1 then s.2.2 else 0) - r else (if z = s.2.1 then s.2.2 else 0)) ?_ ?_
    · rw [if_neg n1.2.symm, if_neg n1.1.symm]
      exact f1
    · rw [es, if_neg (fun q => e0 q.symm), if_pos rfl]
      omega
  · have n1 : s.1 ≠ other ∧ s.2.1 ≠ other := ⟨fun q => e3 (.inl q.symm), fun q => e3 (.inr q.symm)⟩
    refine mk (fun z => if z = other then (if one = s.2.1 then s.2.2 else 0) + r else (if z = s.2.1 then s.2.2 else 0)) ?_ ?_
    · rw [if_neg n1.2, if_neg n1.1]
      exact f1
    · rw [es, if_pos rfl, if_neg e0]
      omega
end Peg

/-! the law's own tops: a weighted union, in plain Lean -/
open PySem PySem.W
namespace Peg
structure Tops where
  D : List Str
  rt : Str → Str
  of : Str → Int
def Tops.ens (T : Tops) (p : Str) : Tops := if p ∈ T.D then T else ⟨T.D ++ [p], T.rt, T.of⟩
theorem Tops.ens_rt (T : Tops) (p : Str) : (T.ens p).rt = T.rt := by unfold Tops.ens; split <;> rfl
theorem Tops.ens_of (T : Tops) (p : Str) : (T.ens p).of = T.of := by unfold Tops.ens; split <;> rfl
theorem Tops.ens_mem (T : Tops) (p q : Str) : q ∈ (T.ens p).D ↔ q ∈ T.D ∨ q = p := by
  unfold Tops.ens
  split
  · exact ⟨.inl, fun h => h.elim id fun e => by rw [e]; assumption⟩
  · show q ∈ T.D ++ [p] ↔ _
    rw [List.mem_append, List.mem_singleton]
theorem Tops.ens_nodup (T : Tops) (p : Str) (h : T.D.Nodup) : (T.ens p).D.Nodup := by
  unfold Tops.ens
  split
  · exact h
  · rename_i n
    show (T.D ++ [p]).Nodup
    rw [List.nodup_append]
    exact ⟨h, by simp, fun a ha b hb e => by
      have eb : b = p := by simpa using hb
      rw [e, eb] at ha
      exact n ha⟩
def Tops.both (T : Tops) (r : Row) : Tops := (T.ens r.one).ens r.other
/-- what the pegs of the second's part get -/
def Tops.lay (T : Tops) (r : Row) : Tops := if T.rt r.one = T.rt r.other then T.both r else
  ⟨(T.both r).D, fun z => if T.rt z = T.rt r.other then T.rt r.one else T.rt z, fun z => if T.rt z = T.rt r.other then T.of z + (T.of r.one + r.rise - T.of r.other) else T.of z⟩
def Tops.nil : Tops := ⟨[], fun z => z, fun _ => 0⟩
def tops (rows : List Row) : Tops := rows.foldl Tops.lay Tops.nil
def Tops.gap (T : Tops) (a b : Str) : Option Int := if T.rt a = T.rt b then some (T.of b - T.of a) else none
structure TopOf (rows : List Row) (T : Tops) : Prop where
  nd : T.D.Nodup
  dom : ∀ p, p ∈ T.D ↔ ∃ r ∈ rows, p = r.one ∨ p = r.other
  out : ∀ p, ¬ p ∈ T.D → T.rt p = p ∧ T.of p = 0
  ins : ∀ p, p ∈ T.D → T.rt p ∈ T.D
  join : ∀ p q, T.rt p = T.rt q ↔ Reach rows p q
  rise : ∀ r ∈ rows, r.rise = T.of r.other - T.of r.one
theorem TopOf.nil : TopOf [] Tops.nil where
  nd := List.nodup_nil
  dom := fun p => ⟨fun h => (by cases h), fun ⟨r, h, _⟩ => (by cases h)⟩
  out := fun p _ => ⟨rfl, rfl⟩
  ins := fun p h => (by cases h)
  join := fun p q => ⟨fun e => by
    have e : p = q := e
    rw [e]
    exact Reach.refl _ _, fun h => h.closedR (S := fun x => p = x) (fun r h => (by cases h)) rfl⟩
  rise := fun r h => (by cases h)
theorem TopOf.gap_none {rows : List Row} {T : Tops} (h : TopOf rows T) {a b : Str} (g : T.gap a b = none) : ¬ Reach rows a b := fun k => by
  unfold Tops.gap at g
  rw [if_pos ((h.join a b).mpr k)] at g
  cases g
theorem TopOf.gap_some {rows : List Row} {T : Tops} (h : TopOf rows T) {a b : Str} {x : Int} (g : T.gap a b = some x) : Reach rows a b ∧ ∀ ss, Way rows a ss b → (ss.map Row.rise).sum = x := by
  unfold Tops.gap at g
  split at g
  · rename_i e
    refine ⟨(h.join a b).mp e, fun ss w => ?_⟩
    rw [way_sum h.rise w]
    exact Option.some.inj g
  · cases g
theorem Tops.both_mem (T : Tops) (r : Row) (q : Str) : q ∈ (T.both r).D ↔ q ∈ T.D ∨ q = r.one ∨ q = r.other := by
  unfold Tops.both
  rw [Tops.ens_mem, Tops.ens_mem, or_assoc]
theorem TopOf.lay {rows : List Row} {T : Tops} (h : TopOf rows T) (r : Row) (ag : ∀ x, T.gap r.one r.other = some x → x = r.rise) : TopOf (rows ++ [r]) (T.lay r) := by
  have nd : (T.both r).D.Nodup := Tops.ens_nodup _ _ (Tops.ens_nodup _ _ h.nd)
  have dom : ∀ p, p ∈ (T.both r).D ↔ ∃ s ∈ rows ++ [r], p = s.one ∨ p = s.other := fun p => by
    rw [Tops.both_mem, h.dom]
    constructor
    · rintro (⟨s, hs, e⟩ | e)
      · exact ⟨s, List.mem_append_left _ hs, e⟩
      · exact ⟨r, List.mem_append_right _ (List.mem_singleton.mpr rfl), e⟩
    · rintro ⟨s, hs, e⟩
      rcases List.mem_append.mp hs with hs | hs
      · exact .inl ⟨s, hs, e⟩
      · rw [List.mem_singleton.mp hs] at e
        exact .inr e
  have ins1 : ∀ p, p ∈ (T.both r).D → T.rt p ∈ (T.both r).D := fun p hp => by
    by_cases k : p ∈ T.D
    · exact (Tops.both_mem _ _ _).mpr (.inl (h.ins p k))
    · rw [(h.out p k).1]
      exact hp
  have mr : r ∈ rows ++ [r] := List.mem_append_right _ (List.mem_singleton.mpr rfl)
  have wider : ∀ s, IsStep rows s → IsStep (rows ++ [r]) s := fun s hs => hs.imp (List.mem_append_left _) (List.mem_append_left _)
  have m1 : r.one ∈ (T.both r).D := (Tops.both_mem _ _ _).mpr (.inr (.inl rfl))
  have m2 : r.other ∈ (T.both r).D := (Tops.both_mem _ _ _).mpr (.inr (.inr rfl))
  unfold Tops.lay
  by_cases e : T.rt r.one = T.rt r.other
  · rw [if_pos e]
    have ert : (T.both r).rt = T.rt := by unfold Tops.both; rw [Tops.ens_rt, Tops.ens_rt]
    have eof : (T.both r).of = T.of := by unfold Tops.both; rw [Tops.ens_of, Tops.ens_of]
    refine ⟨nd, dom, fun p hp => ?_, fun p hp => ?_, fun p q => ?_, fun s hs => ?_⟩
    · rw [ert, eof]
      exact h.out p fun k => hp ((Tops.both_mem _ _ _).mpr (.inl k))
    · rw [ert]
      exact ins1 p hp
    · rw [ert, h.join]
      refine ⟨fun k => k.mono wider, fun k => k.closedR (S := fun x => Reach rows p x) (fun s hs => ?_) (Reach.refl _ _)⟩
      rcases List.mem_append.mp hs with hs | hs
      · exact ⟨fun z => z.trans (.step (.inl hs)), fun z => z.trans (Reach.step (.inl hs)).symm⟩
      · rw [List.mem_singleton.mp hs]
        have z := (h.join r.one r.other).mp e
        exact ⟨fun y => y.trans z, fun y => y.trans z.symm⟩
    · rw [eof]
      rcases List.mem_append.mp hs with hs | hs
      · exact h.rise s hs
      · rw [List.mem_singleton.mp hs]
        refine (ag _ ?_).symm
        unfold Tops.gap
        rw [if_pos e]
  · rw [if_neg e]
    have one_not : ∀ x : Int, T.rt r.one = T.rt r.other → False := fun _ z => e z
    refine ⟨nd, dom, fun p hp => ?_, fun p hp => ?_, fun p q => ?_, fun s hs => ?_⟩
    · have hp1 : ¬ p ∈ T.D := fun k => hp ((Tops.both_mem _ _ _).mpr (.inl k))
      obtain ⟨o1, o2⟩ := h.out p hp1
      have ne : ¬ T.rt p = T.rt r.other := fun z => by
        rw [o1] at z
        rw [z] at hp
        exact hp (ins1 _ m2)
      exact ⟨by show (if _ then _ else _) = _; rw [if_neg ne, o1], by show (if _ then _ else _) = _; rw [if_neg ne, o2]⟩
    · show (if _ then _ else _) ∈ (T.both r).D
      split
      · exact ins1 _ m1
      · exact ins1 _ hp
    · show (if _ then _ else _) = (if _ then _ else _) ↔ _
      have st : Reach (rows ++ [r]) r.one r.other := .step (.inl mr)
      constructor
      · intro z
        split at z <;> rename_i c1 <;> split at z <;> rename_i c2
        · exact ((h.join p q).mp (c1.trans c2.symm)).mono wider
        · exact (((h.join _ _).mp c1).mono wider).trans (st.symm.trans (((h.join _ _).mp z).mono wider))
        · exact (((h.join _ _).mp z).mono wider).trans (st.trans (((h.join _ _).mp c2.symm).mono wider))
        · exact ((h.join p q).mp z).mono wider
      · intro k
        refine k.closedR (S := fun x => (if T.rt p = T.rt r.other then T.rt r.one else T.rt p) = (if T.rt x = T.rt r.other then T.rt r.one else T.rt x)) (fun s hs => ?_) rfl
        rcases List.mem_append.mp hs with hs | hs
        · have z := (h.join s.one s.other).mpr (.step (.inl hs))
          rw [z]
        · rw [List.mem_singleton.mp hs]
          rw [if_neg e, if_pos (rfl : T.rt r.other = T.rt r.other)]
    · show s.rise = (if T.rt s.other = T.rt r.other then T.of s.other + (T.of r.one + r.rise - T.of r.other) else T.of s.other) - (if T.rt s.one = T.rt r.other then T.of s.one + (T.of r.one + r.rise - T.of r.other) else T.of s.one)
      rcases List.mem_append.mp hs with hs | hs
      · have z := (h.join s.one s.other).mpr (.step (.inl hs))
        have z2 := h.rise s hs
        rw [z]
        split <;> omega
      · rw [List.mem_singleton.mp hs, if_neg e, if_pos rfl]
        omega
theorem TopOf.fold {f : Str → Int} : ∀ {ws rows : List Row} {T : Tops}, TopOf rows T → (∀ r ∈ rows ++ ws, r.rise = f r.other - f r.one) → TopOf (rows ++ ws) (ws.foldl Tops.lay T)
  | [], rows, T, h, _ => by rw [List.append_nil]; exact h
  | r :: ws, rows, T, h, ag => by
    have k := h.lay r fun x g => by
      obtain ⟨⟨ss, w⟩, all⟩ := h.gap_some g
      rw [← all ss w, way_sum (fun s hs => ag s (List.mem_append_left _ hs)) w]
      exact (ag r (List.mem_append_right _ (List.mem_cons_self ..))).symm
    have e : rows ++ r :: ws = (rows ++ [r]) ++ ws := by rw [List.append_assoc]; rfl
    rw [e]
    exact TopOf.fold k (by rw [← e]; exact ag)
/-- rows that agree: the law's tops are theirs -/
theorem top_of {f : Str → Int} {rows : List Row} (ag : ∀ r ∈ rows, r.rise = f r.other - f r.one) : TopOf rows (tops rows) := TopOf.fold (rows := []) TopOf.nil ag
end Peg

/-! PegW: the laws' own tops in the heap. -/
namespace Peg
open PySem PySem.Spec PyProof.Rows L2 U
/-- the tops in the heap -/
def TopAt (K : PySem.W.Frag) (H : Hp) (d : Addr) (T : Tops) : Prop := ∃ kvs : List (Key × V), H d = some (.dK kvs) ∧ kvs.map (·.1) = T.D.map Sum.inr ∧ ∀ z ∈ T.D, ∃ t, valV kvs (Sum.inr z) = some (.ref t) ∧ SqT K H t [.str (T.rt z), .int (T.of z)]
section
variable {K : PySem.W.Frag} {H H' : Hp} {d : Addr} {T : Tops}
theorem TopAt.mono (s : Same H H') (h : TopAt K H d T) : TopAt K H' d T := by
  obtain ⟨kvs, h1, h2, h3⟩ := h
  exact ⟨kvs, s _ _ h1, h2, fun z hz => by
    obtain ⟨t, a, b⟩ := h3 z hz
    exact ⟨t, a, same_t s b⟩⟩
theorem TopAt.get (h : TopAt K H d T) {z : Str} (hz : z ∈ T.D) : ∃ t, DGet H d (.str z) (some (.ref t)) ∧ SqT K H t [.str (T.rt z), .int (T.of z)] := by
  obtain ⟨kvs, h1, h2, h3⟩ := h
  obtain ⟨t, a, b⟩ := h3 z hz
  refine ⟨t, ?_, b⟩
  rw [← a]
  exact DGet.k (k := Sum.inr z) h1
theorem TopAt.no (h : TopAt K H d T) {z : Str} (hz : ¬ z ∈ T.D) : DGet H d (.str z) none := by
  obtain ⟨kvs, h1, h2, h3⟩ := h
  have e : valV kvs (Sum.inr z) = none := valV_no fun m => by
    rw [h2] at m
    obtain ⟨y, hy, ey⟩ := List.mem_map.mp m
    exact hz (by rw [← Sum.inr.inj ey]; exact hy)
  rw [← e]
  exact DGet.k (k := Sum.inr z) h1
theorem putK_keys {κ : Type} [DecidableEq κ] (kvs : List (κ × V)) (k : κ) (v : V) (h : k ∈ kvs.map (·.1)) : (putK kvs k v).map (·.1) = kvs.map (·.1) := by
  unfold putK
  split
  · rw [List.map_map]
    refine List.map_congr_left fun a _ => ?_
    show (if a.1 = k then (a.1, v) else a).1 = a.1
    split <;> rfl
  · rename_i n
    obtain ⟨p, hp, e⟩ := List.mem_map.mp h
    exact absurd (List.any_eq_true.mpr ⟨p, hp, decide_eq_true e⟩) n
theorem TopOf.gap_out {rows : List Row} (h : TopOf rows T) {a b : Str} (ne : a ≠ b) (o : ¬ a ∈ T.D ∨ ¬ b ∈ T.D) : T.gap a b = none := by
  have key : ∀ x y : Str, x ≠ y → ¬ x ∈ T.D → T.rt x ≠ T.rt y := fun x y nxy hx e => by
    rw [(h.out x hx).1] at e
    by_cases hy : y ∈ T.D
    · exact hx (by rw [e]; exact h.ins y hy)
    · rw [(h.out y hy).1] at e
      exact nxy e
  unfold Tops.gap
  rcases o with o | o
  · rw [if_neg (key a b ne o)]
  · rw [if_neg fun e => key b a (fun z => ne z.symm) o e.symm]
theorem TopAt.size (h : TopAt K H d T) : ∃ kvs : List (Key × V), H d = some (.dK kvs) ∧ kvs.length = T.D.length := by
  obtain ⟨kvs, h1, h2, _⟩ := h
  refine ⟨kvs, h1, ?_⟩
  have e := congrArg List.length h2
  rw [List.length_map, List.length_map] at e
  exact e
/-- a new peg is put, a tuple of its own beside -/
theorem TopAt.put_new (h : TopAt K H d T) {z : Str} (hz : ¬ z ∈ T.D) (o : T.rt z = z ∧ T.of z = 0) {kvs : List (Key × V)} (hk : H d = some (.dK kvs)) {t : Addr} (ht : SqT K H t [.str z, .int 0]) (c : Chd d H H') (e : H' d = some (.dK (putK kvs (Sum.inr z) (.ref t)))) : TopAt K H' d (T.ens z) := by
  obtain ⟨kvs1, h1, h2, h3⟩ := h
  rw [hk] at h1
  cases h1
  have tp : Tups H H' := tups_chd c hk True.intro
  have hn : valV kvs (Sum.inr z) = none := valV_no fun m => by
    rw [h2] at m
    obtain ⟨y, hy, ey⟩ := List.mem_map.mp m
    exact hz (by rw [← Sum.inr.inj ey]; exact hy)
  have eD : (T.ens z).D = T.D ++ [z] := by unfold Tops.ens; rw [if_neg hz]
  refine ⟨_, e, ?_, fun y hy => ?_⟩
  · rw [putK_new _ hn, eD, List.map_append, List.map_append, h2]
    rfl
  · rw [Tops.ens_rt, Tops.ens_of, valV_put]
    rw [eD] at hy
    by_cases ey : y = z
    · subst ey
      rw [if_pos rfl, o.1, o.2]
      exact ⟨t, rfl, tups_t tp ht⟩
    · rw [if_neg fun q => ey (Sum.inr.inj q)]
      rcases List.mem_append.mp hy with m | m
      · obtain ⟨t1, a, b⟩ := h3 y m
        exact ⟨t1, a, tups_t tp b⟩
      · exact absurd (List.mem_singleton.mp m) ey
theorem TopAt.same_ens (h : TopAt K H d T) {z : Str} (hz : z ∈ T.D) : TopAt K H d (T.ens z) := by
  unfold Tops.ens
  rw [if_pos hz]
  exact h
/-- a peg that is there is put anew -/
theorem TopAt.put_old (h : TopAt K H d T) {z : Str} (hz : z ∈ T.D) {kvs : List (Key × V)} (hk : H d = some (.dK kvs)) {t : Addr} {r : Str} {x : Int} (ht : SqT K H t [.str r, .int x]) (c : Chd d H H') (e : H' d = some (.dK (putK kvs (Sum.inr z) (.ref t)))) : TopAt K H' d ⟨T.D, fun y => if y = z then r else T.rt y, fun y => if y = z then x else T.of y⟩ := by
  obtain ⟨kvs1, h1, h2, h3⟩ := h
  rw [hk] at h1
  cases h1
  have tp : Tups H H' := tups_chd c hk True.intro
  have hm : Sum.inr z ∈ kvs.map (·.1) := by
    rw [h2]
    exact List.mem_map.mpr ⟨z, hz, rfl⟩
  refine ⟨_, e, ?_, fun y hy => ?_⟩
  · rw [putK_keys _ _ _ hm, h2]
  · show ∃ t_1, _ ∧ SqT K H' t_1 [.str (if y = z then r else T.rt y), .int (if y = z then x else T.of y)]
    rw [valV_put]
    by_cases ey : y = z
    · subst ey
      rw [if_pos rfl, if_pos rfl, if_pos rfl]
      exact ⟨t, rfl, tups_t tp ht⟩
    · rw [if_neg fun q => ey (Sum.inr.inj q), if_neg ey, if_neg ey]
      obtain ⟨t1, a, b⟩ := h3 y hy
      exact ⟨t1, a, tups_t tp b⟩
/-- only what stands at its pegs is asked for -/
theorem TopAt.congr (h : TopAt K H d T) {T' : Tops} (e : T'.D = T.D) (k : ∀ z ∈ T.D, T'.rt z = T.rt z ∧ T'.of z = T.of z) : TopAt K H d T' := by
  obtain ⟨kvs, h1, h2, h3⟩ := h
  refine ⟨kvs, h1, by rw [e]; exact h2, fun z hz => ?_⟩
  rw [e] at hz
  rw [(k z hz).1, (k z hz).2]
  exact h3 z hz
theorem Tops.ens_len (T : Tops) (p : Str) : (T.ens p).D.length ≤ T.D.length + 1 := by
  unfold Tops.ens
  split
  · exact Nat.le_succ _
  · show (T.D ++ [p]).length ≤ _
    rw [List.length_append]
    exact Nat.le_refl _
theorem Tops.lay_len (T : Tops) (r : Row) : (T.lay r).D.length ≤ T.D.length + 2 := by
  have h : (T.both r).D.length ≤ T.D.length + 2 := by
    unfold Tops.both
    have h1 := Tops.ens_len T r.one
    have h2 := Tops.ens_len (T.ens r.one) r.other
    omega
  unfold Tops.lay
  split <;> exact h
/-- what a gap is as a value -/
def gapV : Option Int → V
  | none => .non
  | some x => .int x
end
end Peg

/-! PegK: a law's book, the law's own rows and its count in the heap. -/
namespace Peg
open PySem PySem.Spec PyProof.Rows L2 U

theorem dpAll_ints {K : PySem.W.Frag} {H : Hp} : ∀ ns : List Int, DpAll K H (ns.map V.int) (ns.map PyData.int)
  | [] => .nil
  | n :: ns => .cons (.int n) (dpAll_ints ns)
theorem ints_shaped (ns : List Int) : SeqAt.shaped (.list (ns.map PyData.int)) = true := by
  have e1 : PyData.canLayAll0 (ns.map PyData.int) = true := by
    induction ns with
    | nil => simp [PyData.canLayAll0]
    | cons n ns ih => simp [PyData.canLayAll0, PyData.canLay0, ih]
  have e2 : PyData.depthAll (ns.map PyData.int) ≤ 1 := by
    clear e1
    induction ns with
    | nil => simp [PyData.depthAll]
    | cons n ns ih =>
      simp only [List.map_cons, PyData.depthAll, PyData.depth]
      omega
  show ((PyData.list (ns.map PyData.int)).canLay0 && decide ((PyData.list (ns.map PyData.int)).depth ≤ 64)) = true
  rw [Bool.and_eq_true]
  refine ⟨by simp only [PyData.canLay0]; exact e1, decide_eq_true ?_⟩
  simp only [PyData.depth]
  omega
/-- rows that agree: some heights tell them -/
def Agr (rows : List Row) : Prop := ∃ f : Str → Int, ∀ r ∈ rows, r.rise = f r.other - f r.one
theorem Agr.sub {rows rows' : List Row} (h : Agr rows) (s : ∀ r ∈ rows', r ∈ rows) : Agr rows' := let ⟨f, k⟩ := h; ⟨f, fun r hr => k r (s r hr)⟩
theorem TopOf.agr {rows : List Row} {T : Tops} (h : TopOf rows T) : Agr rows := ⟨T.of, h.rise⟩
def Pgs (rows : List Row) : Prop := ∀ r ∈ rows, Pg r.one ∧ Pg r.other
theorem Pgs.ok {rows : List Row} (h : Pgs rows) : ∀ r ∈ rows, r.Ok := fun r hr => ⟨(h r hr).1.ok, (h r hr).2.ok⟩
def rowOf (n : Int) (g : Sg) : Row := ⟨n, g.1, g.2.1, g.2.2⟩
def Chd4 (b d R Ct : Addr) (H H' : Hp) : Prop := ∀ x o, x ≠ b → x ≠ d → x ≠ R → x ≠ Ct → H x = some o → H' x = some o
theorem chd4_same {b d R Ct : Addr} {H H' : Hp} (s : Same H H') : Chd4 b d R Ct H H' := fun x o _ _ _ _ e => s x o e
theorem Chd4.trans {b d R Ct : Addr} {H H1 H' : Hp} (a : Chd4 b d R Ct H H1) (c : Chd4 b d R Ct H1 H') : Chd4 b d R Ct H H' := fun x o h1 h2 h3 h4 e => c x o h1 h2 h3 h4 (a x o h1 h2 h3 h4 e)
theorem BookAt.chd {K : PySem.W.Frag} {A : Ad} {H H' : Hp} {b d p : Addr} {most taken : Int} {rows : List Row} {xs : List V} (hp : H p = some (.lst xs)) (c : Chd p H H') (B : BookAt K A H b d most taken rows) : BookAt K A H' b d most taken rows := by
  obtain ⟨⟨dx, h1⟩, ⟨kvs, h2, h3⟩, h4, h5⟩ := B
  exact ⟨⟨dx, c _ _ (ne_of h1 hp (by intro z; cases z)) h1⟩, ⟨kvs, c _ _ (ne_of h2 hp (by intro z; cases z)) h2, h3.tups (tups_chd c hp True.intro)⟩, h4, h5⟩
/-- the law's book, its own rows, its count -/
structure BS (K : PySem.W.Frag) (A : Ad) (H : Hp) (b d R Ct : Addr) (most taken : Int) (rows : List Row) : Prop where
  book : BookAt K A H b d most taken rows
  rl : ∃ xs, H R = some (.lst xs) ∧ DpAll K H xs (rows.map rowD)
  ct : H Ct = some (.lst [.int taken])
  ne : R ≠ Ct
  t0 : 0 ≤ taken
  agr : Agr rows
  pgs : Pgs rows
  le : (rows.length : Int) ≤ most
section
variable {K : PySem.W.Frag} {A : Ad} {H H' : Hp} {b d R Ct : Addr} {most taken : Int} {rows : List Row}
theorem BS.mono (s : Same H H') (h : BS K A H b d R Ct most taken rows) : BS K A H' b d R Ct most taken rows := by
  obtain ⟨h1, ⟨xs, h2, h3⟩, h4, h5, h6, h7, h8, h9⟩ := h
  exact ⟨h1.mono s, ⟨xs, s _ _ h2, dpAll_mono s h3⟩, s _ _ h4, h5, h6, h7, h8, h9⟩
/-- another list is changed -/
theorem BS.chd {p : Addr} {ys : List V} (hp : H p = some (.lst ys)) (c : Chd p H H') (pR : p ≠ R) (pC : p ≠ Ct) (h : BS K A H b d R Ct most taken rows) : BS K A H' b d R Ct most taken rows := by
  obtain ⟨h1, ⟨xs, h2, h3⟩, h4, h5, h6, h7, h8, h9⟩ := h
  exact ⟨h1.chd hp c, ⟨xs, c _ _ pR.symm h2, prows_tups (tups_chd c hp True.intro) h3⟩, c _ _ pC.symm h4, h5, h6, h7, h8, h9⟩
theorem BS.nb (h : BS K A H b d R Ct most taken rows) : R ≠ b ∧ R ≠ d ∧ Ct ≠ b ∧ Ct ≠ d := by
  obtain ⟨dx, hi⟩ := h.book.ins
  obtain ⟨kvs, hd, _⟩ := h.book.dict
  obtain ⟨xs, hR, _⟩ := h.rl
  exact ⟨ne_of hR hi (by intro z; cases z), ne_of hR hd (by intro z; cases z), ne_of h.ct hi (by intro z; cases z), ne_of h.ct hd (by intro z; cases z)⟩
/-- what is a list, and new, is none of the four -/
theorem BS.fresh (h : BS K A H b d R Ct most taken rows) {p : Addr} (n : H p = none) : p ≠ b ∧ p ≠ d ∧ p ≠ R ∧ p ≠ Ct := by
  obtain ⟨dx, hi⟩ := h.book.ins
  obtain ⟨kvs, hd, _⟩ := h.book.dict
  obtain ⟨xs, hR, _⟩ := h.rl
  have hC := h.ct
  exact ⟨fun e => (by rw [e, hi] at n; cases n), fun e => (by rw [e, hd] at n; cases n), fun e => (by rw [e, hR] at n; cases n), fun e => (by rw [e, hC] at n; cases n)⟩
end
end Peg

/-! PegN: sorted texts, walks over a dict's keys, what may change, parts. -/
namespace Peg
open PySem PySem.Spec PyProof.Rows L2 U

/-! ### sorted texts are one list -/
theorem rising_pw : ∀ (ys : List Str) (x : Str), risingS x ys = true → (x :: ys).Pairwise fun a b => a.cps.toList ≤ b.cps.toList
  | [], x, _ => List.pairwise_singleton ..
  | y :: ys, x, h => by
    unfold risingS at h
    rw [Bool.and_eq_true, PyProof.Rows.ltCps_eq] at h
    have ih := rising_pw ys y h.2
    have le : x.cps.toList ≤ y.cps.toList := fun g => by
      have g : y.cps.toList < x.cps.toList := g
      have h1 := h.1
      rw [decide_eq_true g] at h1
      cases h1
    refine List.pairwise_cons.mpr ⟨fun z hz => ?_, ih⟩
    rcases List.mem_cons.mp hz with e | hz
    · rw [e]; exact le
    · exact List.le_trans le ((List.pairwise_cons.mp ih).1 z hz)
theorem sorted_pw {ys : List Str} (h : sortedS ys = true) : ys.Pairwise fun a b => a.cps.toList ≤ b.cps.toList := by
  cases ys with
  | nil => exact List.Pairwise.nil
  | cons x ys => exact rising_pw ys x h
theorem str_inj {a b : Str} (h : a.cps.toList = b.cps.toList) : a = b := by
  cases a; cases b
  exact congrArg Str.mk (Array.toList_inj.mp h)
theorem sorted_eq {ys zs : List Str} (h1 : sortedS ys = true) (h2 : sortedS zs = true) (n1 : ys.Nodup) (n2 : zs.Nodup) (e : ∀ z, z ∈ ys ↔ z ∈ zs) : ys = zs :=
  List.Perm.eq_of_pairwise (fun a b _ _ h k => str_inj (List.le_antisymm h k)) (sorted_pw h1) (sorted_pw h2) ((List.perm_ext_iff_of_nodup n1 n2).mpr e)
def strsD (l : List Str) : PyData := .list (l.map PyData.str)
theorem dpAll_strs {K : PySem.W.Frag} {H : Hp} : ∀ ns : List Str, DpAll K H (ns.map V.str) (ns.map PyData.str)
  | [] => .nil
  | n :: ns => .cons (.str n) (dpAll_strs ns)
theorem strsD_mk {K : PySem.W.Frag} {H : Hp} {p : Addr} {l : List Str} (h : SqL K H p (l.map V.str)) : Dp K H (.ref p) (strsD l) := .lst h (dpAll_strs l)
theorem strsD_shaped {l : List Str} (h : ∀ z ∈ l, PyData.strOk z = true) : SeqAt.shaped (strsD l) = true := by
  have e1 : ∀ l : List Str, (∀ z ∈ l, PyData.strOk z = true) → PyData.canLayAll0 (l.map PyData.str) = true := fun l => by
    induction l with
    | nil => intro _; simp [PyData.canLayAll0]
    | cons n l ih => intro k; simp [PyData.canLayAll0, PyData.canLay0, k n (List.mem_cons_self ..), ih fun z hz => k z (List.mem_cons_of_mem _ hz)]
  have e2 : ∀ l : List Str, PyData.depthAll (l.map PyData.str) ≤ 1 := fun l => by
    induction l with
    | nil => simp [PyData.depthAll]
    | cons n l ih =>
      simp only [List.map_cons, PyData.depthAll, PyData.depth]
      omega
  show ((PyData.list (l.map PyData.str)).canLay0 && decide ((PyData.list (l.map PyData.str)).depth ≤ 64)) = true
  rw [Bool.and_eq_true]
  refine ⟨by simp only [PyData.canLay0]; exact e1 l h, decide_eq_true ?_⟩
  have := e2 l
  simp only [PyData.depth]
  omega
theorem strs_eqv_self (l : List Str) : PyData.eqv (strsD l) (strsD l) = true := by
  show PyData.eqv (.list _) (.list _) = true
  rw [PyData.eqv]
  induction l with
  | nil => simp [PyData.eqvAll]
  | cons n l ih => simp [PyData.eqvAll, PyData.eqv, ih]

/-! ### some things may change, all others stay -/
def ChdL (l : List Addr) (H H' : Hp) : Prop := ∀ x o, ¬ x ∈ l → H x = some o → H' x = some o
section
variable {l : List Addr} {H H1 H2 H0 : Hp}
theorem ChdL.refl : ChdL l H H := fun _ _ _ e => e
theorem ChdL.trans (a : ChdL l H H1) (b : ChdL l H1 H2) : ChdL l H H2 := fun x o n e => b x o n (a x o n e)
theorem ChdL.of (s : Same H H1) : ChdL l H H1 := fun x o _ e => s x o e
theorem ChdL.same (a : ChdL l H H1) (s : Same H1 H2) : ChdL l H H2 := fun x o n e => s x o (a x o n e)
theorem ChdL.chd {p : Addr} (a : ChdL l H H1) (c : Chd p H1 H2) (hp : p ∈ l) : ChdL l H H2 := fun x o n e => c x o (fun z => n (z ▸ hp)) (a x o n e)
/-- a thing that H does not know is changed -/
theorem ChdL.own {p : Addr} (a : ChdL l H H1) (c : Chd p H1 H2) (hp : H p = none) : ChdL l H H2 := fun x o n e => c x o (ne_of_none e hp) (a x o n e)
theorem ChdL.chd2 {p q : Addr} (a : ChdL l H H1) (c : Chd2 p q H1 H2) (hp : p ∈ l) (hq : q ∈ l) : ChdL l H H2 := fun x o n e => c x o (fun z => n (z ▸ hp)) (fun z => n (z ▸ hq)) (a x o n e)
theorem ChdL.sub {m : List Addr} (a : ChdL l H H1) (h : ∀ x ∈ l, x ∈ m) : ChdL m H H1 := fun x o n e => a x o (fun z => n (h x z)) e
/-- none of them was there -/
theorem ChdL.old (a : ChdL l H H1) (s : Same H0 H) (h : ∀ x ∈ l, H0 x = none) : Same H0 H1 := fun x o e => a x o (fun z => by rw [h x z] at e; cases e) (s x o e)
end
section
variable {K : PySem.W.Frag} {A : Ad} {H H' : Hp} {b d : Addr} {most taken : Int} {rows : List Row}
theorem BookAt.keep (tp : Tups H H') (kb : ∀ o, H b = some o → H' b = some o) (kd : ∀ o, H d = some o → H' d = some o) (B : BookAt K A H b d most taken rows) : BookAt K A H' b d most taken rows := by
  obtain ⟨⟨dx, h1⟩, ⟨kvs, h2, h3⟩, h4, h5⟩ := B
  exact ⟨⟨dx, kb _ h1⟩, ⟨kvs, kd _ h2, h3.tups tp⟩, h4, h5⟩
theorem BookAt.ne_lst {p : Addr} {xs : List V} (B : BookAt K A H b d most taken rows) (h : H p = some (.lst xs)) : b ≠ p ∧ d ≠ p := by
  obtain ⟨⟨dx, h1⟩, ⟨kvs, h2, _⟩, _⟩ := B
  exact ⟨ne_of h1 h (by intro z; cases z), ne_of h2 h (by intro z; cases z)⟩
theorem BookAt.bd (B : BookAt K A H b d most taken rows) : b ≠ d := by
  obtain ⟨⟨dx, h1⟩, ⟨kvs, h2, _⟩, _⟩ := B
  exact ne_of h1 h2 (by intro z; cases z)
theorem BookAt.ne_new {p : Addr} (B : BookAt K A H b d most taken rows) (h : H p = none) : b ≠ p ∧ d ≠ p := by
  obtain ⟨⟨dx, h1⟩, ⟨kvs, h2, _⟩, _⟩ := B
  exact ⟨ne_of_none h1 h, ne_of_none h2 h⟩
theorem BookAt.tups2 (B : BookAt K A H b d most taken rows) (c : Chd2 b d H H') : Tups H H' := by
  obtain ⟨⟨dx, h1⟩, ⟨kvs, h2, _⟩, _⟩ := B
  exact tups_chd2 c h1 h2 True.intro True.intro
theorem BookAt.tupsD (B : BookAt K A H b d most taken rows) (c : Chd d H H') : Tups H H' := by
  obtain ⟨_, ⟨kvs, h2, _⟩, _⟩ := B
  exact tups_chd c h2 True.intro
end

/-! ### a walk over the keys of a dict -/
theorem lc_keys {d : Addr} {od : Obj} {kvs : List (Key × V)} {g : TG} {tt : TT} {te : TE} {vs : List Nat} {σ : L2.St} {H1 : Hp} {D : Addr} {Qd : Hp → Prop} (Pv : Nat → Hp → Prop) (h0 : Pv 0 (upd H1 D (.lst []))) (hl : ∀ i H, i ≤ kvs.length → Pv i H → H d = some (.frz od (.dK kvs)))
    (hs : ∀ i k v H, kvs[i]? = some (k, v) → Pv i H → g (kV k) (wipe σ vs) H fun σ2 H2 => wipe σ2 vs = wipe σ vs ∧ tt σ2 H2 fun b H3 =>
      if b = true then te σ2 H3 fun y H4 => ∃ acc, H4 D = some (.lst acc) ∧ acc.length < sizeLine ∧ Pv (i + 1) (upd H4 D (.lst (acc ++ [y]))) else Pv (i + 1) H3) (hd : ∀ H, Pv kvs.length H → Qd H) :
    ∃ W : Nat → Nat → Hp → Prop, (∃ m, W 0 m (upd H1 D (.lst []))) ∧ ∀ i m H, W i m H →
      ((Itk d od kvs).stop i H ∧ Qd H) ∨ ((Itk d od kvs).go i H ∧ ∃ Nx : Hp → Prop, (∀ H', Nx H' → ∃ m', m' < m ∧ W (i + 1) m' H') ∧ ∀ x H', (Itk d od kvs).yld i H x H' → g x (wipe σ vs) H' fun σ2 H2 => wipe σ2 vs = wipe σ vs ∧ tt σ2 H2 fun b H3 =>
        if b = true then te σ2 H3 fun y H4 => ∃ acc, H4 D = some (.lst acc) ∧ acc.length < sizeLine ∧ Nx (upd H4 D (.lst (acc ++ [y]))) else Nx H3) := by
  refine ⟨fun i m H => m = kvs.length - i ∧ i ≤ kvs.length ∧ Pv i H, ⟨kvs.length, by simp, Nat.zero_le _, h0⟩, ?_⟩
  rintro i m H ⟨rfl, hi, p⟩
  have q := hl i H hi p
  by_cases hlt : i < kvs.length
  · refine .inr ⟨⟨q, hlt⟩, Pv (i + 1), fun H' p' => ⟨kvs.length - (i + 1), by omega, rfl, hlt, p'⟩, fun x H' y => ?_⟩
    obtain ⟨e, k, v, ek, ex⟩ := y
    subst e ex
    exact hs i k v _ ek p
  · have e : i = kvs.length := by omega
    subst e
    exact .inl ⟨⟨q, Nat.le_refl _⟩, hd H p⟩
section
variable {K : PySem.W.Frag}
theorem lcd_keys {d : Addr} {od : Obj} {kvs : List (Key × V)} {H : Hp} {td te : TE} {tt : TT} {j : Nat} {σ : L2.St} {Q : VK} (f : Nat → Option PyData) (hst : ∀ i d, f i = some d → TStay d) (hd : H d = some (.frz od (.dK kvs))) (htd : ∀ R, R (.ref d) H → td σ H R) (hz : kvs.length < 100000) (hw : ∀ x, wipe ((wipe σ [j]).set j (some x)) [j] = wipe σ [j])
    (ht : ∀ (i : Nat) (k : Key) (v : V) (H1 : Hp) (R : Bool → Hp → Prop), kvs[i]? = some (k, v) → Same H H1 → R (f i).isSome H1 → tt ((wipe σ [j]).set j (some (kV k))) H1 R)
    (he : ∀ (i : Nat) (k : Key) (v : V) (dd : PyData) (H1 : Hp) (R : VK), kvs[i]? = some (k, v) → f i = some dd → Same H H1 → (∀ (v : V) (H2 : Hp), Same H1 H2 → Dp K H2 v dd → R v H2) → te ((wipe σ [j]).set j (some (kV k))) H1 R)
    (q : ∀ (p : Addr) (H2 : Hp) (vs : List V), H p = none → Same H H2 → H2 p = some (.lst vs) → DpAll K H2 vs ((List.range kvs.length).filterMap f) → Q (.ref p) H2) : uLc (iKeys td) (gName j) tt te [j] σ H Q := by
  refine uLc_of (htd _ ⟨d, od, rfl, .inl ⟨kvs, hd, fun D hD => lc_keys (d := d) (od := od) (kvs := kvs) (fun i H' => Same H H' ∧ ∃ vs, H' D = some (.lst vs) ∧ vs.length ≤ i ∧ DpAll K H' vs ((List.range i).filterMap f)) ⟨same_new hD, [], upd_same, Nat.le_refl _, .nil⟩ (fun i H' _ h => h.1 _ _ hd) ?_ ?_⟩⟩)
  · intro i k v H' e P
    have hi : i < kvs.length := (List.getElem?_eq_some_iff.mp e).1
    exact ⟨hw (kV k), lcd_turn hst hD (by omega) P (fun R z => ht i k v H' R e P.1 z) fun dd R hf z => he i k v dd H' R e hf P.1 z⟩
  · rintro H' ⟨s, vs, hd', hlen, dp⟩
    exact q D H' vs hD s hd' dp
theorem lcd_range2 {lo : Int} {n : Nat} {H : Hp} {ta : TA} {te : TE} {tt : TT} {j : Nat} {σ : L2.St} {Q : VK} (f : Nat → Option PyData) (hst : ∀ i d, f i = some d → TStay d) (hlo : -1000000 < lo ∧ lo < 1000000) (hta : ∀ R, R [.int lo, .int (lo + n)] H → ta σ H R) (hz : n < 100000) (hw : ∀ x, wipe ((wipe σ [j]).set j (some x)) [j] = wipe σ [j])
    (ht : ∀ (i : Nat) (H1 : Hp) (R : Bool → Hp → Prop), i < n → Same H H1 → R (f i).isSome H1 → tt ((wipe σ [j]).set j (some (.int (lo + i)))) H1 R)
    (he : ∀ (i : Nat) (d : PyData) (H1 : Hp) (R : VK), i < n → f i = some d → Same H H1 → (∀ (v : V) (H2 : Hp), Same H1 H2 → Dp K H2 v d → R v H2) → te ((wipe σ [j]).set j (some (.int (lo + i)))) H1 R)
    (q : ∀ (p : Addr) (H2 : Hp) (vs : List V), H p = none → Same H H2 → H2 p = some (.lst vs) → DpAll K H2 vs ((List.range n).filterMap f) → Q (.ref p) H2) : uLc (iRng2 ta) (gName j) tt te [j] σ H Q := by
  have en : (lo + (n : Int) - lo).toNat = n := by omega
  refine uLc_of (hta _ ⟨lo, lo + n, rfl, ⟨by omega, by omega, by omega, by omega⟩, fun D hD => ?_⟩)
  rw [en]
  refine lc_range (lo := lo) (n := n) (fun i H' => Same H H' ∧ ∃ vs, H' D = some (.lst vs) ∧ vs.length ≤ i ∧ DpAll K H' vs ((List.range i).filterMap f)) ⟨same_new hD, [], upd_same, Nat.le_refl _, .nil⟩ ?_ ?_
  · intro i H' hi P
    exact ⟨hw _, lcd_turn hst hD (by omega) P (fun R k => ht i H' R hi P.1 k) fun d R hf k => he i d H' R hi hf P.1 k⟩
  · rintro H' ⟨s, vs, hd, hlen, dp⟩
    exact q D H' vs hD s hd dp
/-- what was locked is let go -/
theorem same_unlock {H H' : Hp} {d : Addr} {u o : HO} (hd : H d = some u) (s : Same (upd H d o) H') : Same H (upd H' d u) := fun x w e => by
  by_cases h : x = d
  · subst h
    rw [upd_same, ← hd, e]
  · rw [upd_ne h]
    exact s x w (by rw [upd_ne h]; exact e)
theorem locked_get {H : Hp} {d : Addr} {od : Obj} {kvs : List (Key × V)} (h : H d = some (.frz od (.dK kvs))) (k : Key) : DGet H d (kV k) (valV kvs k) := .inl ⟨kvs, k, .inr ⟨od, h⟩, rfl, rfl⟩
theorem tups_lock {H : Hp} {d : Addr} {o : HO} {kvs : List (Key × V)} (hd : H d = some (.dK kvs)) : Tups H (upd H d o) := fun x xs h => by
  have e : x ≠ d := fun e => by
    subst e
    rcases h with h | ⟨o', h⟩ <;> (rw [hd] at h; cases h)
  rcases h with h | ⟨o', h⟩
  · exact .inl (by rw [upd_ne e]; exact h)
  · exact .inr ⟨o', by rw [upd_ne e]; exact h⟩
theorem tups_unlock {H : Hp} {d : Addr} {o : HO} {od : Obj} {kvs : List (Key × V)} (hd : H d = some (.frz od (.dK kvs))) : Tups H (upd H d o) := fun x xs h => by
  have e : x ≠ d := fun e => by
    subst e
    rcases h with h | ⟨o', h⟩ <;> (rw [hd] at h; cases h)
  rcases h with h | ⟨o', h⟩
  · exact .inl (by rw [upd_ne e]; exact h)
  · exact .inr ⟨o', by rw [upd_ne e]; exact h⟩
end

theorem cut_take (xs : List V) (k : Nat) : cutV xs none (some (k : Int)) = xs.take k := by
  unfold cutV
  have e0 : HT.sIx xs.length 0 none = 0 := rfl
  have e1 : HT.sIx xs.length xs.length (some (k : Int)) = min k xs.length := by
    show (if (k : Int) < 0 then ((k : Int) + (xs.length : Int)).toNat else min (k : Int).toNat xs.length) = _
    rw [if_neg (by omega), Int.toNat_natCast]
  rw [e0, e1, List.drop_zero, Nat.sub_zero, ← List.take_take, List.take_length]
theorem cut_drop (xs : List V) (k : Nat) : cutV xs (some (k : Int)) none = xs.drop k := by
  unfold cutV
  have e0 : HT.sIx xs.length xs.length none = xs.length := rfl
  have e1 : HT.sIx xs.length 0 (some (k : Int)) = min k xs.length := by
    show (if (k : Int) < 0 then ((k : Int) + (xs.length : Int)).toNat else min (k : Int).toNat xs.length) = _
    rw [if_neg (by omega), Int.toNat_natCast]
  rw [e0, e1, List.take_of_length_le (by rw [List.length_drop]; exact Nat.le_refl _)]
  by_cases h : k ≤ xs.length
  · rw [Nat.min_eq_left h]
  · rw [Nat.min_eq_right (by omega), List.drop_of_length_le (Nat.le_refl _), List.drop_of_length_le (by omega)]
/-! ### gaps as data -/
theorem cNon_gap {o : Option Int} {H : Hp} {Q : VK} (h : Q (.bl o.isSome) H) : cNon false (gapV o) .non H Q := by
  cases o <;> exact h
theorem tC_gap {o : Option Int} {σ : L2.St} {H : Hp} {Q : VK} (h : Q (.bl o.isSome) H) : tC .non σ H (fun y H2 => cNon false (gapV o) y H2 Q) := by
  cases o <;> exact h
theorem TopOf.isSome {rows : List Row} {T : Tops} (h : TopOf rows T) (a b : Str) : (T.gap a b).isSome = true ↔ Reach rows a b := by
  cases e : T.gap a b with
  | none => exact ⟨(fun z => nomatch z), fun z => absurd z (h.gap_none e)⟩
  | some x => exact ⟨fun _ => (h.gap_some e).1, fun _ => rfl⟩
def gapD : Option Int → PyData
  | none => .none
  | some x => .int x
theorem gapD_mk {K : PySem.W.Frag} {H : Hp} : ∀ o : Option Int, Dp K H (gapV o) (gapD o)
  | none => .non
  | some x => .int x
theorem gapD_shaped : ∀ o : Option Int, SeqAt.shaped (gapD o) = true
  | none => rfl
  | some x => rfl
theorem gapD_eqv : ∀ o : Option Int, PyData.eqv (gapD o) (gapD o) = true
  | none => by simp [gapD, PyData.eqv]
  | some x => by simp [gapD, PyData.eqv]
/-! ### the part of a peg -/
theorem TopOf.alone {rows : List Row} {T : Tops} (h : TopOf rows T) {one : Str} (n : ¬ one ∈ T.D) (z : Str) : Reach rows one z ↔ z = one := by
  rw [← h.join, (h.out one n).1]
  constructor
  · intro e
    by_cases m : z ∈ T.D
    · exact absurd (e ▸ h.ins z m) n
    · exact ((h.out z m).1 ▸ e).symm
  · intro e
    rw [e, (h.out one n).1]
theorem TopOf.part {rows : List Row} {T : Tops} (h : TopOf rows T) {one : Str} (m : one ∈ T.D) (z : Str) : (z ∈ T.D ∧ T.rt z = T.rt one) ↔ Reach rows one z := by
  rw [← h.join]
  constructor
  · exact fun k => k.2.symm
  · intro e
    refine ⟨?_, e.symm⟩
    by_cases k : z ∈ T.D
    · exact k
    · rw [(h.out z k).1] at e
      exact e ▸ h.ins one m
theorem TopOf.gap_none_iff {rows : List Row} {T : Tops} (h : TopOf rows T) (a b : Str) : T.gap a b = none ↔ ¬ Reach rows a b := by
  constructor
  · exact h.gap_none
  · intro n
    cases e : T.gap a b with
    | none => rfl
    | some x => exact absurd (h.gap_some e).1 n
theorem TopOf.gap_eq {rows : List Row} {T U : Tops} (h : TopOf rows T) (k : TopOf rows U) (a b : Str) : T.gap a b = U.gap a b := by
  cases e : T.gap a b with
  | none => exact ((k.gap_none_iff a b).mpr (h.gap_none e)).symm
  | some x =>
    obtain ⟨⟨ss, w⟩, all⟩ := h.gap_some e
    cases e2 : U.gap a b with
    | none => exact absurd ⟨ss, w⟩ (k.gap_none e2)
    | some y => rw [← all ss w, ← (k.gap_some e2).2 ss w]
theorem Agr.top {rows : List Row} (h : Agr rows) : TopOf rows (tops rows) := let ⟨_, k⟩ := h; top_of k
/-- pegs of a pool -/
def Pool (P : List Str) (rows : List Row) : Prop := ∀ r ∈ rows, r.one ∈ P ∧ r.other ∈ P
theorem TopOf.len {rows : List Row} {T : Tops} (h : TopOf rows T) {P : List Str} (hP : Pool P rows) : T.D.length ≤ P.length := nodup_len h.nd fun z hz => by
  obtain ⟨r, hr, e⟩ := (h.dom z).mp hz
  rcases e with e | e
  · rw [e]; exact (hP r hr).1
  · rw [e]; exact (hP r hr).2
theorem reach_pool {rows : List Row} {P : List Str} (hP : Pool P rows) {a z : Str} (ha : a ∈ P) (h : Reach rows a z) : z ∈ P := h.closed (S := fun z => z ∈ P) (fun s st _ => by
  rcases st with st | st
  · exact (hP s st).2
  · exact (hP _ st).1) ha
theorem Row.filter_sub {rows : List Row} {n : Int} : ∀ s ∈ (rows.filter fun s => decide (s.n ≠ n)), s ∈ rows := fun s hs => (List.mem_filter.mp hs).1
/-- a row whose pegs the others join is spare: nothing else is told -/
theorem spare_gap {rows rows' : List Row} {T U : Tops} {r : Row} (hT : TopOf rows T) (hU : TopOf rows' U) (sub : ∀ s ∈ rows', s ∈ rows) (sup : ∀ s ∈ rows, s ∈ rows' ∨ s = r) (j : Reach rows' r.one r.other) (a b : Str) : T.gap a b = U.gap a b := by
  have wider : ∀ s, IsStep rows' s → IsStep rows s := fun s hs => hs.imp (sub _) (sub _)
  have back : Reach rows a b → Reach rows' a b := fun h => h.closedR (S := fun x => Reach rows' a x) (fun s hs => by
    rcases sup s hs with m | m
    · exact ⟨fun z => z.trans (.step (.inl m)), fun z => z.trans (Reach.step (.inl m)).symm⟩
    · rw [m]
      exact ⟨fun z => z.trans j, fun z => z.trans j.symm⟩) (Reach.refl _ _)
  cases e : T.gap a b with
  | none => exact ((hU.gap_none_iff a b).mpr fun k => hT.gap_none e (k.mono wider)).symm
  | some x =>
    obtain ⟨h, all⟩ := hT.gap_some e
    obtain ⟨ss, w⟩ := back h
    cases e2 : U.gap a b with
    | none => exact absurd ⟨ss, w⟩ (hU.gap_none e2)
    | some y => rw [← all ss (w.mono wider), ← (hU.gap_some e2).2 ss w]
end Peg

/-! PegP: two clauses of except, dicts frozen, items, data held apart, parts. -/
namespace U
open PySem PySem.Spec PyProof.Rows L2

/-! ### try with two clauses 'except x as n' -/
theorem ps_try_keep2 {X : Cx} {x1 x2 n : Str} {c1 c2 : Value} {i : Nat} {body suite1 suite2 : List Stmt} {b₁ b₂ : Stmt} {np1 np2 pos ps1 ps2 : Pos} {tb : WX → TS} {ts1 ts2 : Addr → Value → Option Addr → TS} {Wout : WX}
    (hs : X.stack = X.env :: X.outer) (hf : X.env.frame = some X.env.locals) (hex : X.ex = []) (hN : X.N.Nodup) (hi : X.N[i]? = some n) (hln : X.env.kindOf n = some .local) (hc1 : Names X x1 c1) (hc2 : Names X x2 c2) (tk : L2.Takes X Wout)
    (hb : ∀ (W : WX) (pn : List (Addr × Obj)) (xe : Value → Shared → Prop), L2.Takes (X.tr pn xe) W → PassesOwn (model X.prog X.w) X.A X.env xe → PSs (X.tr pn xe) body (tb W))
    (hsu1 : ∀ (a : Addr) (oe : Obj) (cls : Value) (d : Option Addr) (pn : List (Addr × Obj)), Zc cls d oe → (∃ vs, oe.data = .fields vs) → PSs (X.suite a ((a, oe) :: pn)) (b₁ :: suite1) (ts1 a cls d))
    (hsu2 : ∀ (a : Addr) (oe : Obj) (cls : Value) (d : Option Addr) (pn : List (Addr × Obj)), Zc cls d oe → (∃ vs, oe.data = .fields vs) → PSs (X.suite a ((a, oe) :: pn)) (b₂ :: suite2) (ts2 a cls d)) :
    PS X (.Try body [.ExceptHandler (some (.Name x1 np1)) (some n) (b₁ :: suite1) ps1, .ExceptHandler (some (.Name x2 np2)) (some n) (b₂ :: suite2) ps2] [] [] pos) (fun D σ H => tb (wKeep X.K c1 i ts1 (wKeep X.K c2 i ts2 Wout D) D) D σ H) := by
  refine ⟨fun pins s σ H D I h => ?_⟩
  have ok := I.ok
  have hfr : X.A.frames = some (X.env :: X.outer) := by rw [ok.frames, hs]
  have hloc : Loc X.env.scope n := .inl hln
  refine wpAny_Try_except ?_
  refine wpAny_mono ((hb (wKeep X.K c1 i ts1 (wKeep X.K c2 i ts2 Wout D) D) (X.pn ++ pins) (fun e s₁ => wpAny (model X.prog X.w) X.A (noteFrame e X.env) (fun _ s₂ => wpAny (model X.prog X.w) X.A (setFlight e none) (fun _ s₃ =>
    wpAny (model X.prog X.w) X.A (handleBy e X.env [.ExceptHandler (some (.Name x1 np1)) (some n) (b₁ :: suite1) ps1, .ExceptHandler (some (.Name x2 np2)) (some n) (b₂ :: suite2) ps2]) (SP X pins D) X.xe s₃) X.xe s₂) X.xe s₁) (fun u s' xx => ?_) PassesOwn.looking).run [] s σ H D (I.toTry _) h) (fun f s1 hsp => ?_) (fun e s1 he => he)
  · -- the catch
    obtain ⟨a, B, sI, pins', σ', H', cls, d, rfl, J', nb, up, sky, na, os, ag, bb1, hbb1, hyes1, hno1⟩ := xx
    have J : Inv X pins σ' H' sI := J'.ofTry ok
    have sky' : Sky B (X.env :: X.outer) a (Zc cls d) X.env.locals s'.heap := by rw [← hs]; exact sky
    have Ba : B.get? a = none := by
      rcases sky' with ⟨_, q, _⟩ | ⟨_, q, _⟩ | ⟨_, q, _⟩ <;> exact q
    show wpAny _ X.A (noteFrame (.ref a) X.env) _ _ _
    refine Sky.land Zc.steady hfr hf sky' fun h3 fl3 up3 => ?_
    have J3 : Inv X pins σ' H' { s' with heap := h3 } := J.landed nb fl3.1 (up.trans up3) os ag
    obtain ⟨oe3, vs3, he3, hz3, hd3⟩ := fl3.there
    have notFr : ∀ {h : Heap} {o : Obj} {vs : Array Value}, h.FunFrames B (X.env :: X.outer) → h.get? a = some o → o.data = .fields vs → a ∉ frs (X.env :: X.outer) := fun {h o vs} ff e dd hm => by
      obtain ⟨_, o', e', hnf⟩ := ff.mem hm
      rw [e] at e'; cases e'
      exact hnf _ dd
    have nfr := notFr fl3.2.2.1 he3 hd3
    have nL : a ≠ X.env.locals := fun z => nfr (List.mem_filterMap.mpr ⟨X.env, List.mem_cons_self, by rw [hf, z]⟩)
    have nF : a ∉ X.fs := fun hm => by
      obtain ⟨e, he, q⟩ := List.mem_filterMap.mp hm
      exact nfr (List.mem_filterMap.mpr ⟨e, List.mem_cons_of_mem _ he, q⟩)
    have sIa : sI.heap.get? a = none := by
      cases e : sI.heap.get? a with
      | none => rfl
      | some o =>
        have z := nb a o e (by rw [hs]; exact nfr)
        rw [Ba] at z
        cases z
    have n0 : X.s_0.heap.get? a = none := by
      cases e : X.s_0.heap.get? a with
      | none => rfl
      | some o =>
        obtain ⟨o', z⟩ := J.base.there a o e (by rw [hex]; exact fun z => nomatch z)
        rw [sIa] at z
        cases z
    have npin : ∀ p ∈ X.pn ++ pins, p.1 ≠ a := fun p hp z => by
      have q := (J.pin p hp).1
      rw [z, sIa] at q
      cases q
    have S3 := J3.suite he3 hd3 na nL nF
    refine wpAny_handleBy_cons (codeAny_handlers_test ?_) (by intro q; cases q)
    have LT : PySem.W.Looks (model X.prog X.w) h3 (typeOf (.ref a)) cls := fun A Q E s k q => wpAny_typeOf_ref (k _ _ he3) (by rw [hz3.1]; exact q)
    have LM := PySem.W.exm_one (M := model X.prog X.w) (J3.kIn) LT hbb1
    have test : ∀ {Q : Value → Shared → Prop} {E : Value → Shared → Prop}, Q c1 { s' with heap := h3 } → wpAny (model X.prog X.w) (X.A.mark (some (.ref a))) (eval (.Name x1 np1) X.env) Q E { s' with heap := h3 } := fun {Q E} q => by
      obtain ⟨hg, hdbg, hm | ⟨hm, hv, hnn⟩⟩ := hc1
      · exact ld_glob (X := X.suite a ((a, oe3) :: (X.pn ++ pins))) S3 hg hm q hdbg
      · exact ld_blt (X := X.suite a ((a, oe3) :: (X.pn ++ pins))) S3 hg hm hv q hnn hdbg
    refine test (LM.here ?_)
    cases bb1 with
    | true =>
      refine codeAny_handlers_suite_as ?_
      refine HandSPX.lands_againZ fl3 fun h4 fl4 up4 => ?_
      have J4 : Inv X pins σ' H' { s' with heap := h4 } := J.landed nb fl4.1 ((up.trans up3).trans up4) os ag
      obtain ⟨oe4, vs4, he4, hz4, hd4⟩ := fl4.there
      have S4 := J4.suite he4 hd4 na nL nF
      refine store_ok (X := X.suite a ((a, oe4) :: (X.pn ++ pins))) (v := .ref a) S4 hN hi hloc rfl (fun s5 S5 => ?_) (.inr hln)
      refine wpAny_mono ((hsu1 a oe4 cls d (X.pn ++ pins) hz4 ⟨_, hd4⟩).run [] s5 _ H' _ S5 (hyes1 rfl a na)) (fun f s6 hsp => ?_) (fun _ _ z => False.elim z)
      have end_ : ∀ {σ6 : L2.St} {H6 : Hp} {Q : Shared → Prop}, Inv (X.suite a ((a, oe4) :: (X.pn ++ pins))) [] σ6 H6 s6 → (∀ s7, Inv X pins (σ6.set i none) H6 s7 → Q s7) →
          wpAny (model X.prog X.w) X.A (do bindName X.env n .none; unbindBehindTheSuite X.env n ps1) (fun _ s7 => Q s7) X.xe s6 := fun {σ6 H6 Q} S6 hq => gone_ok (S6.unsuite ok) hN hi hln hq
      cases f with
      | next =>
        obtain ⟨σ6, H6, S6, q6⟩ := hsp
        have S6' : Inv X ((a, oe4) :: pins) σ6 H6 s6 := ⟨ok, S6.os, S6.bare, S6.base, S6.loc, S6.cell, S6.free, S6.freeC, fun p hp => S6.pin p (List.mem_append_left _ (by
          rcases List.mem_append.mp hp with h | h
          · exact List.mem_cons_of_mem _ (List.mem_append_left _ h)
          · rcases List.mem_cons.mp h with h | h
            · rw [h]; exact List.mem_cons_self ..
            · exact List.mem_cons_of_mem _ (List.mem_append_right _ h))), S6.hok, S6.len⟩
        have na6 : H6 a = none := (S6'.pin (a, oe4) (List.mem_append_right _ (List.mem_cons_self ..))).2.1
        exact gone_ok S6' hN hi hln fun s7 J7 => ⟨_, _, adopt J7 hz4 ⟨_, hd4⟩ n0 npin, q6 _ na6 (same_upd na6) upd_same⟩
      | brk =>
        obtain ⟨σ6, H6, S6, q6⟩ := hsp
        exact end_ S6 fun s7 J7 => ⟨_, _, J7, q6⟩
      | cont =>
        obtain ⟨σ6, H6, S6, q6⟩ := hsp
        exact end_ S6 fun s7 J7 => ⟨_, _, J7, q6⟩
      | ret u =>
        obtain ⟨v6, σ6, H6, S6, r6, q6⟩ := hsp
        exact end_ S6 fun s7 J7 => ⟨_, _, _, J7, r6, q6⟩
    | false =>
      obtain ⟨bb2, hbb2, hyes2, hno2⟩ := hno1 rfl
      refine wpAny_handleBy_cons (codeAny_handlers_test ?_) (by intro q; cases q)
      have LT : PySem.W.Looks (model X.prog X.w) h3 (typeOf (.ref a)) cls := fun A Q E s k q => wpAny_typeOf_ref (k _ _ he3) (by rw [hz3.1]; exact q)
      have LM := PySem.W.exm_one (M := model X.prog X.w) (J3.kIn) LT hbb2
      have test : ∀ {Q : Value → Shared → Prop} {E : Value → Shared → Prop}, Q c2 { s' with heap := h3 } → wpAny (model X.prog X.w) (X.A.mark (some (.ref a))) (eval (.Name x2 np2) X.env) Q E { s' with heap := h3 } := fun {Q E} q => by
        obtain ⟨hg, hdbg, hm | ⟨hm, hv, hnn⟩⟩ := hc2
        · exact ld_glob (X := X.suite a ((a, oe3) :: (X.pn ++ pins))) S3 hg hm q hdbg
        · exact ld_blt (X := X.suite a ((a, oe3) :: (X.pn ++ pins))) S3 hg hm hv q hnn hdbg
      refine test (LM.here ?_)
      cases bb2 with
      | true =>
        refine codeAny_handlers_suite_as ?_
        refine HandSPX.lands_againZ fl3 fun h4 fl4 up4 => ?_
        have J4 : Inv X pins σ' H' { s' with heap := h4 } := J.landed nb fl4.1 ((up.trans up3).trans up4) os ag
        obtain ⟨oe4, vs4, he4, hz4, hd4⟩ := fl4.there
        have S4 := J4.suite he4 hd4 na nL nF
        refine store_ok (X := X.suite a ((a, oe4) :: (X.pn ++ pins))) (v := .ref a) S4 hN hi hloc rfl (fun s5 S5 => ?_) (.inr hln)
        refine wpAny_mono ((hsu2 a oe4 cls d (X.pn ++ pins) hz4 ⟨_, hd4⟩).run [] s5 _ H' _ S5 (hyes2 rfl a na)) (fun f s6 hsp => ?_) (fun _ _ z => False.elim z)
        have end_ : ∀ {σ6 : L2.St} {H6 : Hp} {Q : Shared → Prop}, Inv (X.suite a ((a, oe4) :: (X.pn ++ pins))) [] σ6 H6 s6 → (∀ s7, Inv X pins (σ6.set i none) H6 s7 → Q s7) →
            wpAny (model X.prog X.w) X.A (do bindName X.env n .none; unbindBehindTheSuite X.env n ps2) (fun _ s7 => Q s7) X.xe s6 := fun {σ6 H6 Q} S6 hq => gone_ok (S6.unsuite ok) hN hi hln hq
        cases f with
        | next =>
          obtain ⟨σ6, H6, S6, q6⟩ := hsp
          have S6' : Inv X ((a, oe4) :: pins) σ6 H6 s6 := ⟨ok, S6.os, S6.bare, S6.base, S6.loc, S6.cell, S6.free, S6.freeC, fun p hp => S6.pin p (List.mem_append_left _ (by
            rcases List.mem_append.mp hp with h | h
            · exact List.mem_cons_of_mem _ (List.mem_append_left _ h)
            · rcases List.mem_cons.mp h with h | h
              · rw [h]; exact List.mem_cons_self ..
              · exact List.mem_cons_of_mem _ (List.mem_append_right _ h))), S6.hok, S6.len⟩
          have na6 : H6 a = none := (S6'.pin (a, oe4) (List.mem_append_right _ (List.mem_cons_self ..))).2.1
          exact gone_ok S6' hN hi hln fun s7 J7 => ⟨_, _, adopt J7 hz4 ⟨_, hd4⟩ n0 npin, q6 _ na6 (same_upd na6) upd_same⟩
        | brk =>
          obtain ⟨σ6, H6, S6, q6⟩ := hsp
          exact end_ S6 fun s7 J7 => ⟨_, _, J7, q6⟩
        | cont =>
          obtain ⟨σ6, H6, S6, q6⟩ := hsp
          exact end_ S6 fun s7 J7 => ⟨_, _, J7, q6⟩
        | ret u =>
          obtain ⟨v6, σ6, H6, S6, r6, q6⟩ := hsp
          exact end_ S6 fun s7 J7 => ⟨_, _, _, J7, r6, q6⟩
      | false =>
        show wpAny _ X.A (handleBy (.ref a) X.env []) _ _ _
        refine wpAny_handleBy_nil ?_
        obtain ⟨k1, k2, k3, oe, vs, T, oT, ts', he, hz, hd, h1, hr⟩ := id fl3
        unfold PySem.passOn
        refine wpAny_bind (wpAny_field he hd h1 ?_)
        rw [if_neg (show ¬ ((Value.ref T == Value.none) = true) from by simp)]
        have fin : wpAny (model X.prog X.w) X.A (setFlight (.ref a) X.env.frame) (fun _ s4 => wpAny (model X.prog X.w) X.A (throw (.ref a) : Sem Flow) (SP X pins D) X.xe s4) X.xe { s' with heap := h3 } := by
          rw [hf]
          refine HandSPX.setFlight_upZ fl3 fun h4 hh4 up4 => wpAny_throw (tk _ _ ?_)
          exact ⟨a, B, sI, pins, σ', H', cls, d, rfl, J, nb, (up.trans up3).trans up4, .inr (.inr (by rw [hs]; exact hh4)), na, os, ag, hno2 rfl⟩
        first
          | exact wpAny_bind (wpAny_pure (wpAny_bind fin))
          | exact wpAny_bind fin
  · cases f with
    | next =>
      obtain ⟨σ', H', J', q⟩ := hsp
      exact wpAny_execs_nil ⟨σ', H', J'.ofTry ok, q⟩
    | brk =>
      obtain ⟨σ', H', J', q⟩ := hsp
      exact ⟨σ', H', J'.ofTry ok, q⟩
    | cont =>
      obtain ⟨σ', H', J', q⟩ := hsp
      exact ⟨σ', H', J'.ofTry ok, q⟩
    | ret u =>
      obtain ⟨v, σ', H', J', r, q⟩ := hsp
      exact ⟨v, σ', H', J'.ofTry ok, r, q⟩
def uTryK2 (K : PySem.W.Frag) (c1 c2 : Value) (i : Nat) (ts1 ts2 : Addr → Value → Option Addr → TS) (tb : WX → TS) : TS := fun D σ H => tb (wKeep K c1 i ts1 (wKeep K c2 i ts2 (fun _ _ _ _ => False) D) D) D σ H

/-! ### a dict that nothing changes any more -/
def uFreeze (td : TE) : TE := fun σ H Q => td σ H fun x H1 => match x with
  | .ref d => ∃ kvs, H1 d = some (.dK kvs) ∧ ∀ od, Q (.ref d) (upd H1 d (.frz od (.dK kvs)))
  | _ => False
theorem e_freeze {X : Cx} {e : Expr} {td : TE} (he : PE X e td) : PE X e (uFreeze td) := by
  refine ⟨fun pins s σ H Q I h => ?_⟩
  refine thn (he.run pins s σ H _ I h) fun u s1 ⟨x, H1, I1, rx, q⟩ => ?_
  cases x with
  | ref d =>
    obtain ⟨kvs, hd, q⟩ := q
    obtain ⟨od, I2⟩ := I1.lock hd True.intro
    exact ⟨.ref d, _, I2, rx, q od⟩
  | _ => exact False.elim q
end U
namespace Peg
open PySem PySem.Spec PyProof.Rows L2 U
/-- a walk over a frozen dict's pairs, each a new tuple -/
theorem for_items {d : Addr} {od : Obj} {kvs : List (Key × V)} {g : TG} {tb : TS} {D : Ends} {σ : L2.St} {H : Hp} (Pv : Nat → L2.St → Hp → Prop) (h0 : Pv 0 σ H) (hl : ∀ i σ H, i ≤ kvs.length → Pv i σ H → H d = some (.frz od (.dK kvs)))
    (hs : ∀ (i : Nat) (k : Key) (v : V) (σ : L2.St) (H : Hp) (T : Addr) (H1 : Hp), kvs[i]? = some (k, v) → Pv i σ H → H T = none → Same H H1 → H1 T = some (.tup [kV k, v]) → g (.ref T) σ H1 fun σ2 H2 => tb { D with nx := Pv (i + 1), ct := Pv (i + 1), bk := D.nx } σ2 H2) (hd : ∀ σ H, Pv kvs.length σ H → D.nx σ H) :
    ∃ W : Nat → Nat → L2.St → Hp → Prop, (∃ m, W 0 m σ H) ∧ ∀ i m σ H, W i m σ H →
      ((Iti d od kvs).stop i H ∧ D.nx σ H) ∨ ((Iti d od kvs).go i H ∧ ∃ N : L2.St → Hp → Prop, (∀ σ' H', N σ' H' → ∃ m', m' < m ∧ W (i + 1) m' σ' H') ∧ ∀ y H', (Iti d od kvs).yld i H y H' → g y σ H' fun σ2 H2 => tb { D with nx := N, ct := N, bk := D.nx } σ2 H2) := by
  refine ⟨fun i m σ H => m = kvs.length - i ∧ i ≤ kvs.length ∧ Pv i σ H, ⟨kvs.length, by simp, Nat.zero_le _, h0⟩, ?_⟩
  rintro i m σ H ⟨rfl, hi, p⟩
  have q := hl i σ H hi p
  by_cases hlt : i < kvs.length
  · refine .inr ⟨⟨q, hlt⟩, Pv (i + 1), fun σ' H' p' => ⟨kvs.length - (i + 1), by omega, rfl, hlt, p'⟩, fun y H' yy => ?_⟩
    obtain ⟨T, k, v, ek, ey, nT, eH⟩ := yy
    subst ey eH
    exact hs i k v σ H T _ ek p nT (same_new nT) upd_same
  · have e : i = kvs.length := by omega
    subst e
    exact .inl ⟨⟨q, Nat.le_refl _⟩, hd σ H p⟩

/-! ### data held apart from what changes -/
/-- the part of H without l -/
def cutH (l : List Addr) (H : Hp) : Hp := fun x => if x ∈ l then none else H x
theorem cutH_at {l : List Addr} {H : Hp} {x : Addr} (n : ¬ x ∈ l) : cutH l H x = H x := if_neg n
theorem cutH_same {l : List Addr} {H : Hp} : Same (cutH l H) H := fun x o e => by
  unfold cutH at e
  split at e
  · cases e
  · exact e
theorem cutH_chd {l : List Addr} {H H' : Hp} (c : ChdL l H H') : Same (cutH l H) (cutH l H') := fun x o e => by
  unfold cutH at e ⊢
  split at e
  · cases e
  · rw [if_neg (by assumption)]
    exact c x o (by assumption) e
theorem cutH_tups {l : List Addr} {H : Hp} (hp : ∀ x ∈ l, ∃ o, H x = some o ∧ Plain o) : Tups H (cutH l H) := fun x xs h => by
  have n : ¬ x ∈ l := fun m => by
    obtain ⟨u, e, k⟩ := hp x m
    rcases h with h | ⟨o, h⟩
    · rw [h] at e; cases e; exact k
    · rw [h] at e; cases e; exact k
  rcases h with h | ⟨o, h⟩
  · exact .inl (by rw [cutH_at n]; exact h)
  · exact .inr ⟨o, by rw [cutH_at n]; exact h⟩
/-- data none of whose lists belongs to l -/
def Hold (K : PySem.W.Frag) (l : List Addr) (H : Hp) (v : V) (d : PyData) : Prop := Dp K (cutH l H) v d
section
variable {K : PySem.W.Frag} {l : List Addr} {H H' : Hp} {v : V} {d : PyData}
theorem Hold.chd (c : ChdL l H H') (h : Hold K l H v d) : Hold K l H' v d := dp_mono (cutH_chd c) h
theorem Hold.dp (h : Hold K l H v d) : Dp K H v d := dp_mono cutH_same h
/-- a list of data that stays where tuples stay -/
theorem Hold.lst {p : Addr} {xs : List V} {ds : List PyData} (hp : ∀ x ∈ l, ∃ o, H x = some o ∧ Plain o) (n : ¬ p ∈ l) (h : H p = some (.lst xs)) (al : DpAll K H xs ds) (st : ∀ d ∈ ds, TStay d) : Hold K l H (.ref p) (.list ds) :=
  Dp.lst (SqL.of (by rw [cutH_at n]; exact h)) (TStay.all (cutH_tups hp) st al)
theorem Hold.strs {p : Addr} {ys : List Str} (n : ¬ p ∈ l) (h : H p = some (.lst (ys.map V.str))) : Hold K l H (.ref p) (strsD ys) :=
  Dp.lst (SqL.of (by rw [cutH_at n]; exact h)) (dpAll_strs ys)
end

/-! ### parts -/
def leS (a b : Str) : Prop := a.cps.toList ≤ b.cps.toList
theorem leS.refl (a : Str) : leS a a := List.le_refl _
theorem leS.anti {a b : Str} (h : leS a b) (k : leS b a) : a = b := str_inj (List.le_antisymm h k)
structure PartOf (rows : List Row) (z : Str) (ys : List Str) : Prop where
  nd : ys.Nodup
  so : sortedS ys = true
  mem : ∀ w, w ∈ ys ↔ Reach rows z w
theorem PartOf.uniq {rows : List Row} {z : Str} {ys zs : List Str} (h : PartOf rows z ys) (k : PartOf rows z zs) : ys = zs := sorted_eq h.so k.so h.nd k.nd fun w => by rw [h.mem, k.mem]
def IsFst (rows : List Row) (z : Str) : Prop := ∀ w, Reach rows z w → leS z w
theorem PartOf.head {rows : List Row} {z y : Str} {ys : List Str} (h : PartOf rows z (y :: ys)) : y = z ↔ IsFst rows z := by
  have pw := List.pairwise_cons.mp (sorted_pw h.so)
  have ly : ∀ w, Reach rows z w → leS y w := fun w hw => by
    rcases List.mem_cons.mp ((h.mem w).mpr hw) with e | m
    · rw [e]; exact leS.refl y
    · exact pw.1 w m
  constructor
  · intro e
    rw [← e] at h ⊢
    exact fun w hw => by rw [e] at hw; exact ly w hw
  · intro f
    exact leS.anti (ly z (Reach.refl _ _)) (f y ((h.mem y).mp (List.mem_cons_self ..)))
theorem PartOf.ne {rows : List Row} {z : Str} {ys : List Str} (h : PartOf rows z ys) : ∃ y r, ys = y :: r := by
  cases ys with
  | nil => exact absurd ((h.mem z).mpr (Reach.refl _ _)) List.not_mem_nil
  | cons y r => exact ⟨y, r, rfl⟩
/-- all pegs of rows, sorted -/
structure Pegs (rows : List Row) (ys : List Str) : Prop where
  nd : ys.Nodup
  so : sortedS ys = true
  mem : ∀ z, z ∈ ys ↔ ∃ r ∈ rows, z = r.one ∨ z = r.other
theorem Pegs.uniq {rows : List Row} {ys zs : List Str} (h : Pegs rows ys) (k : Pegs rows zs) : ys = zs := sorted_eq h.so k.so h.nd k.nd fun w => by rw [h.mem, k.mem]
theorem Pegs.reach {rows : List Row} {ys : List Str} (h : Pegs rows ys) {a b : Str} (ha : a ∈ ys) (r : Reach rows a b) : b ∈ ys := r.closed (S := fun z => z ∈ ys) (fun s st _ => by
  rcases st with st | st
  · exact (h.mem _).mpr ⟨s, st, .inr rfl⟩
  · exact (h.mem _).mpr ⟨_, st, .inl rfl⟩) ha
theorem Pegs.pool {rows : List Row} {ys P : List Str} (h : Pegs rows ys) (hP : Pool P rows) : ys.length ≤ P.length := nodup_len h.nd fun z hz => by
  obtain ⟨r, hr, e | e⟩ := (h.mem z).mp hz
  · rw [e]; exact (hP r hr).1
  · rw [e]; exact (hP r hr).2
/-- a peg is the first of its part just where none ahead of it is joined to it -/
theorem Pegs.fst {rows : List Row} {ys : List Str} (h : Pegs rows ys) {i : Nat} {z : Str} (e : ys[i]? = some z) : IsFst rows z ↔ ∀ (j : Nat) (w : Str), j < i → ys[j]? = some w → ¬ Reach rows w z := by
  have pw := List.pairwise_iff_getElem.mp (sorted_pw h.so)
  obtain ⟨hi, ei⟩ := List.getElem?_eq_some_iff.mp e
  constructor
  · intro f j w hj ew r
    obtain ⟨hj', ej⟩ := List.getElem?_eq_some_iff.mp ew
    have le := pw j i hj' hi hj
    rw [ej, ei] at le
    have eq : w = z := leS.anti le (f w r.symm)
    have := (List.getElem_inj h.nd).mp (ej.trans (eq.trans ei.symm))
    omega
  · intro k w r
    have hw : w ∈ ys := h.reach (List.mem_of_getElem? e) r
    obtain ⟨j, hj, ej⟩ := List.mem_iff_getElem.mp hw
    by_cases c : j < i
    · exact absurd r.symm (k j w c (by rw [List.getElem?_eq_getElem hj, ej]))
    · by_cases c2 : j = i
      · subst c2
        rw [ei] at ej
        rw [ej]
        exact leS.refl w
      · have le := pw i j hi hj (by omega)
        rw [ei, ej] at le
        exact le
open Classical in
noncomputable def firsts (rows : List Row) (ys : List Str) : List Str := ys.filter fun z => decide (IsFst rows z)
theorem firsts_snoc (rows : List Row) (ys : List Str) (z : Str) : (IsFst rows z → firsts rows (ys ++ [z]) = firsts rows ys ++ [z]) ∧ (¬ IsFst rows z → firsts rows (ys ++ [z]) = firsts rows ys) := by
  unfold firsts
  rw [List.filter_append]
  exact ⟨fun f => by simp [f], fun f => by simp [f]⟩
theorem mem_firsts {rows : List Row} {ys : List Str} {z : Str} : z ∈ firsts rows ys ↔ z ∈ ys ∧ IsFst rows z := by
  unfold firsts
  rw [List.mem_filter]
  simp
def PartsOf (rows : List Row) (ys : List Str) (ps : List (List Str)) : Prop := Paired (PartOf rows) (firsts rows ys) ps
theorem paired_uniq {rows : List Row} : ∀ {zs : List Str} {ps qs : List (List Str)}, Paired (PartOf rows) zs ps → Paired (PartOf rows) zs qs → ps = qs
  | _, _, _, .nil, .nil => rfl
  | _, _, _, .cons a t, .cons b u => by rw [a.uniq b, paired_uniq t u]
theorem Paired.snoc' {α β : Type} {R : α → β → Prop} : ∀ {xs : List α} {ys : List β} {x : α} {y : β}, Paired R xs ys → R x y → Paired R (xs ++ [x]) (ys ++ [y])
  | _, _, _, _, .nil, e => .cons e .nil
  | _, _, _, _, .cons a t, e => .cons a (Paired.snoc' t e)
/-- lists of texts in the heap, at places of a kind -/
def StrLs (N : Addr → Prop) (H : Hp) : List V → List (List Str) → Prop := Paired fun v ys => ∃ q, v = .ref q ∧ N q ∧ H q = some (.lst (ys.map V.str))
theorem StrLs.mono {N : Addr → Prop} {H H' : Hp} (s : Same H H') {xs : List V} {ps : List (List Str)} (h : StrLs N H xs ps) : StrLs N H' xs ps := Paired.mapP h fun a b q => by
  obtain ⟨q, e, n, k⟩ := q
  exact ⟨q, e, n, s _ _ k⟩
theorem StrLs.chd {N : Addr → Prop} {H H' : Hp} {p : Addr} (c : Chd p H H') (hN : ∀ q, N q → q ≠ p) {xs : List V} {ps : List (List Str)} (h : StrLs N H xs ps) : StrLs N H' xs ps := Paired.mapP h fun a b q => by
  obtain ⟨q, e, n, k⟩ := q
  exact ⟨q, e, n, c _ _ (hN q n) k⟩
theorem StrLs.imp {N N' : Addr → Prop} {H : Hp} (hN : ∀ q, N q → N' q) {xs : List V} {ps : List (List Str)} (h : StrLs N H xs ps) : StrLs N' H xs ps := Paired.mapP h fun a b q => by
  obtain ⟨q, e, n, k⟩ := q
  exact ⟨q, e, hN q n, k⟩
theorem StrLs.snoc {N : Addr → Prop} {H : Hp} {xs : List V} {ps : List (List Str)} {q : Addr} {ys : List Str} (h : StrLs N H xs ps) (n : N q) (e : H q = some (.lst (ys.map V.str))) : StrLs N H (xs ++ [.ref q]) (ps ++ [ys]) := Paired.snoc' h ⟨q, rfl, n, e⟩
theorem StrLs.mem {N : Addr → Prop} {H : Hp} : ∀ {xs : List V} {ps : List (List Str)}, StrLs N H xs ps → ∀ v ∈ xs, ∃ q, v = .ref q ∧ N q ∧ H q ≠ none
  | _, _, .nil, v, hv => by cases hv
  | _, _, .cons a t, v, hv => by
    rcases List.mem_cons.mp hv with e | hv
    · obtain ⟨q, e1, n, k⟩ := a
      exact ⟨q, e.trans e1, n, by rw [k]; exact fun z => nomatch z⟩
    · exact StrLs.mem t v hv
def partsD (ps : List (List Str)) : PyData := .list (ps.map strsD)
theorem StrLs.dp {K : PySem.W.Frag} {N : Addr → Prop} {H : Hp} : ∀ {xs : List V} {ps : List (List Str)}, StrLs N H xs ps → DpAll K H xs (ps.map strsD)
  | _, _, .nil => .nil
  | _, _, .cons a t => by
    obtain ⟨q, rfl, _, h⟩ := a
    exact .cons (strsD_mk (SqL.of h)) (StrLs.dp t)
theorem parts_shaped {ps : List (List Str)} (h : ∀ ys ∈ ps, ∀ z ∈ ys, PyData.strOk z = true) : SeqAt.shaped (partsD ps) = true := by
  have c1 : ∀ l : List Str, (∀ z ∈ l, PyData.strOk z = true) → PyData.canLayAll0 (l.map PyData.str) = true := fun l => by
    induction l with
    | nil => intro _; simp [PyData.canLayAll0]
    | cons n l ih => intro k; simp [PyData.canLayAll0, PyData.canLay0, k n (List.mem_cons_self ..), ih fun z hz => k z (List.mem_cons_of_mem _ hz)]
  have c2 : ∀ l : List Str, PyData.depthAll (l.map PyData.str) ≤ 1 := fun l => by
    induction l with
    | nil => simp [PyData.depthAll]
    | cons n l ih =>
      simp only [List.map_cons, PyData.depthAll, PyData.depth]
      omega
  have e1 : ∀ ps : List (List Str), (∀ ys ∈ ps, ∀ z ∈ ys, PyData.strOk z = true) → PyData.canLayAll0 (ps.map strsD) = true := fun ps => by
    induction ps with
    | nil => intro _; simp [PyData.canLayAll0]
    | cons n l ih =>
      intro k
      have a := c1 n (k n (List.mem_cons_self ..))
      have b := ih fun ys hys => k ys (List.mem_cons_of_mem _ hys)
      simp [PyData.canLayAll0, PyData.canLay0, strsD, a]
      exact b
  have e2 : ∀ ps : List (List Str), PyData.depthAll (ps.map strsD) ≤ 2 := fun ps => by
    induction ps with
    | nil => simp [PyData.depthAll]
    | cons n l ih =>
      have a := c2 n
      simp only [List.map_cons, PyData.depthAll, PyData.depth, strsD]
      have ih : PyData.depthAll (l.map strsD) ≤ 2 := ih
      omega
  show ((PyData.list (ps.map strsD)).canLay0 && decide ((PyData.list (ps.map strsD)).depth ≤ 64)) = true
  rw [Bool.and_eq_true]
  refine ⟨by simp only [PyData.canLay0]; exact e1 ps h, decide_eq_true ?_⟩
  have := e2 ps
  simp only [PyData.depth]
  omega
theorem parts_eqv (ps : List (List Str)) : PyData.eqv (partsD ps) (partsD ps) = true := by
  show PyData.eqv (.list _) (.list _) = true
  rw [PyData.eqv]
  induction ps with
  | nil => simp [PyData.eqvAll]
  | cons n l ih => simp [PyData.eqvAll, strs_eqv_self, ih]
end Peg

namespace Peg
open PySem PySem.Spec PyProof.Rows L2 U
/-! ### Against.__init__ -/
abbrev N_Against___init__ : List Str := ["self", "trail"]
def sp_Against___init__ (K : PySem.W.Frag) (A : Ad) : Sp := fun vs H Q _ => ∃ (a : Addr) (v : V), vs = [.ref a, v] ∧ H a = some (exo a A.Against none) ∧
  ∀ dx, H dx = none → dx ≠ a → Q .non (upd (upd H dx (exd dx [("trail", v)])) a (exo a A.Against (some dx)))
def t_Against___init__ (K : PySem.W.Frag) (A : Ad) : TS :=
  (tSeq (tDrop (tVeI K (tCons (uVar 0) (tCons (tC (.str "a way tells another rise")) tNil))))
  (tOst K "trail" (uVar 0) (uVar 1)))
theorem rd_Against___init__ {K : PySem.W.Frag} {A : Ad} (T : Tx K A) {vs : List V} {H : Hp} {Q : VK} {E : XK} (h : sp_Against___init__ K A vs H Q E) : t_Against___init__ K A { nx := fun _ H' => Q .non H', rt := Q } (start N_Against___init__ vs) H := by
  obtain ⟨a, v, rfl, ha, q⟩ := h
  exact ⟨a, A.Against, [.str "a way tells another rise"], rfl, by decide, T.o_Against, ha, a, A.Against, rfl, T.o_Against, T.n_trail, .inl ⟨ha, q⟩⟩
/-! ### NoWay.__init__ -/
abbrev N_NoWay___init__ : List Str := ["self", "near"]
def sp_NoWay___init__ (K : PySem.W.Frag) (A : Ad) : Sp := fun vs H Q _ => ∃ (a : Addr) (v : V), vs = [.ref a, v] ∧ H a = some (exo a A.NoWay none) ∧
  ∀ dx, H dx = none → dx ≠ a → Q .non (upd (upd H dx (exd dx [("near", v)])) a (exo a A.NoWay (some dx)))
def t_NoWay___init__ (K : PySem.W.Frag) (A : Ad) : TS :=
  (tSeq (tDrop (tVeI K (tCons (uVar 0) (tCons (tC (.str "no way leads there")) tNil))))
  (tOst K "near" (uVar 0) (uVar 1)))
theorem rd_NoWay___init__ {K : PySem.W.Frag} {A : Ad} (T : Tx K A) {vs : List V} {H : Hp} {Q : VK} {E : XK} (h : sp_NoWay___init__ K A vs H Q E) : t_NoWay___init__ K A { nx := fun _ H' => Q .non H', rt := Q } (start N_NoWay___init__ vs) H := by
  obtain ⟨a, v, rfl, ha, q⟩ := h
  exact ⟨a, A.NoWay, [.str "no way leads there"], rfl, by decide, T.o_NoWay, ha, a, A.NoWay, rfl, T.o_NoWay, T.n_near, .inl ⟨ha, q⟩⟩
/-! ### is_whole -/
abbrev N_is_whole : List Str := ["thing"]
/-- a whole number -/
def wholeB : V → Bool
  | .int _ => true
  | _ => false
theorem Knd.whole {K : PySem.W.Frag} {H : Hp} {v : V} {n : String} (k : Knd K H v n) : ((n == "int" || n == "bool") && !(n == "bool")) = wholeB v := by
  cases k <;> simp [wholeB]
def sp_is_whole (K : PySem.W.Frag) : Sp := fun vs H Q _ => ∃ (v : V) (n : String), vs = [v] ∧ Knd K H v n ∧ Q (.bl (wholeB v)) H
def t_is_whole (K : PySem.W.Frag) : TS :=
  (tRet (uAndV (tCB (cIsi K) (tCons (uVar 0) (tCons (tC (.ty "int")) tNil))) (uNotV (tCB (cIsi K) (tCons (uVar 0) (tCons (tC (.ty "bool")) tNil))))))
theorem rd_is_whole {K : PySem.W.Frag} {vs : List V} {H : Hp} {Q : VK} {E : XK} (h : sp_is_whole K vs H Q E) : t_is_whole K { nx := fun _ H' => Q .non H', rt := Q } (start N_is_whole vs) H := by
  obtain ⟨v, n, rfl, k, q⟩ := h
  rw [← k.whole] at q
  refine ⟨_, _, k.ty, k.isInt, ⟨fun e => ⟨_, _, k.ty, k.isBool, ?_⟩, fun e => ?_⟩⟩
  · rw [e, Bool.true_and] at q
    exact q
  · rw [e, Bool.false_and] at q
    exact q
/-! ### is_peg -/
abbrev N_is_peg : List Str := ["thing", "letter"]
/-- small letters alone -/
def azB (z : Str) : Bool := z.cps.toList.all fun c => decide (c ∈ az.cps.toList)
def pegS (z : Str) : Bool := decide (1 ≤ z.length) && decide (z.length ≤ 8) && azB z
def pegB : V → Bool
  | .str z => pegS z
  | _ => false
theorem pegB_not {K : PySem.W.Frag} {H : Hp} {v : V} {n : String} (k : Knd K H v n) (e : (n == "str") = false) : pegB v = false := by
  cases k <;> first | rfl | exact absurd e (by decide)
def sp_is_peg (K : PySem.W.Frag) : Sp := fun vs H Q _ => ∃ (v : V) (n : String), vs = [v] ∧ Knd K H v n ∧ Q (.bl (pegB v)) H
def lp1_is_peg (K : PySem.W.Frag) : TS :=
  (tFor (iStr (uVar 0)) (gName 1)
  (uIfS (uT (tOp (cSign false) (uVar 1) (tC (.str "abcdefghijklmnopqrstuvwxyz"))))
  (tRet (tC (.bl false)))
  tNext))
def t_is_peg (K : PySem.W.Frag) : TS :=
  (tSeq (uIfS (uOr (uNot (uT (tCB (cIsi K) (tCons (uVar 0) (tCons (tC (.ty "str")) tNil))))) (uOr (uT (tOp kLt (tCB cLenS (tCons (uVar 0) tNil)) (tC (.int 1)))) (uT (tOp kGt (tCB cLenS (tCons (uVar 0) tNil)) (tC (.int 8))))))
  (tRet (tC (.bl false)))
  tNext)
  (tSeq (lp1_is_peg K)
  (tRet (tC (.bl true)))))
theorem rd_is_peg {K : PySem.W.Frag} {vs : List V} {H : Hp} {Q : VK} {E : XK} (h : sp_is_peg K vs H Q E) : t_is_peg K { nx := fun _ H' => Q .non H', rt := Q } (start N_is_peg vs) H := by
  obtain ⟨v, n, rfl, k, q⟩ := h
  refine ⟨_, _, k.ty, k.isStr, ⟨fun e => ?_, fun e => ?_⟩⟩
  · have e : (n == "str") = false := by simpa using e
    rw [pegB_not k e] at q
    exact br_t q
  have e : n = "str" := by simpa using e
  obtain ⟨z, rfl, hz⟩ := k.str_inv e
  have hz' := sz hz
  refine ⟨hz', ⟨fun e => ?_, fun e => ⟨hz', ⟨fun e2 => ?_, fun e2 => ?_⟩⟩⟩⟩
  · have e := of_decide_eq_true e
    have e1 : pegB (.str z) = false := by
      show (decide (1 ≤ z.length) && decide (z.length ≤ 8) && azB z) = false
      rw [decide_eq_false (by omega)]
      rfl
    rw [e1] at q
    exact br_t q
  · have e2 := of_decide_eq_true e2
    have e1 : pegB (.str z) = false := by
      show (decide (1 ≤ z.length) && decide (z.length ≤ 8) && azB z) = false
      rw [decide_eq_false (p := z.length ≤ 8) (by omega), Bool.and_false]
      rfl
    rw [e1] at q
    exact q
  have e := of_decide_eq_false e
  have e2 := of_decide_eq_false e2
  have ep : pegB (.str z) = azB z := by
    show (decide (1 ≤ z.length) && decide (z.length ≤ 8) && azB z) = azB z
    rw [decide_eq_true (by omega), decide_eq_true (by omega)]
    rfl
  rw [ep] at q
  refine ⟨z, rfl, for_str (x := z) (fun i σ H' => H' = H ∧ (∀ c ∈ z.cps.toList.take i, c ∈ az.cps.toList) ∧ ∃ w, σ = [some (.str z), w]) ⟨rfl, (fun c h => by simp at h), _, rfl⟩ ?_ ?_⟩
  · rintro i c σ H' hc ⟨rfl, al, w, rfl⟩
    refine ⟨c, rfl, ⟨fun e => ?_, fun e => ⟨rfl, ?_, some (.str ⟨#[c]⟩), rfl⟩⟩⟩
    · have e : ¬ c ∈ az.cps.toList := by simpa using e
      have e1 : azB z = false := by
        unfold azB
        rw [List.all_eq_false]
        exact ⟨c, List.mem_of_getElem? hc, by simpa using e⟩
      rw [e1] at q
      exact q
    · have e : c ∈ az.cps.toList := by simpa using e
      intro d hd
      rw [List.take_add_one, hc] at hd
      rcases List.mem_append.mp hd with h | h
      · exact al d h
      · have h : d = c := by simpa using h
        rw [h]
        exact e
  · rintro σ H' ⟨rfl, al, w, rfl⟩
    have e1 : azB z = true := by
      unfold azB
      rw [List.all_eq_true]
      intro c hc
      exact decide_eq_true (al c (by rw [List.take_length]; exact hc))
    rw [e1] at q
    exact q
/-! ### is_sighting -/
abbrev N_is_sighting : List Str := ["thing"]
def riseB : V → Bool
  | .int i => decide (-(10 ^ 60) < i ∧ i < 10 ^ 60)
  | _ => false
/-- three things that are a sighting's -/
def sigB : List V → Bool
  | [x, y, z] => pegB x && pegB y && riseB z
  | _ => false
theorem abs_rise (i : Int) : decide ((if i < 0 then -i else i) < 10 ^ 60) = riseB (.int i) := by
  show _ = decide (-(10 ^ 60) < i ∧ i < 10 ^ 60)
  by_cases h : i < 0
  · rw [if_pos h]
    exact decide_eq_decide.mpr ⟨fun q => ⟨by omega, by omega⟩, fun q => by omega⟩
  · rw [if_neg h]
    exact decide_eq_decide.mpr ⟨fun q => ⟨by omega, by omega⟩, fun q => by omega⟩
/-- a thing: of a known kind -/
def Some7 (K : PySem.W.Frag) (H : Hp) (v : V) : Prop := ∃ n, Knd K H v n
def sp_is_sighting (K : PySem.W.Frag) : Sp := fun vs H Q _ => ∃ (v : V), vs = [v] ∧
  ((∃ n, Knd K H v n ∧ n ≠ "tuple" ∧ Q (.bl false) H) ∨ ∃ (a : Addr) (xs : List V), v = .ref a ∧ SqT K H a xs ∧ (∀ x ∈ xs, Some7 K H x) ∧ Q (.bl (sigB xs)) H)
def t_is_sighting (K : PySem.W.Frag) : TS :=
  (tSeq (uIfS (uOr (uNot (uT (tCB (cIsi K) (tCons (uVar 0) (tCons (tC (.ty "tuple")) tNil))))) (uT (tOp kNeI (tCB (cLenQ K) (tCons (uVar 0) tNil)) (tC (.int 3)))))
  (tRet (tC (.bl false)))
  tNext)
  (tSeq (uIfS (uOr (uNot (uT (tCall (sp_is_peg K) [] E0 (tCons (tOp (cIxT K) (uVar 0) (tC (.int 0))) tNil)))) (uNot (uT (tCall (sp_is_peg K) [] E0 (tCons (tOp (cIxT K) (uVar 0) (tC (.int 1))) tNil)))))
  (tRet (tC (.bl false)))
  tNext)
  (tRet (uAndV (tCall (sp_is_whole K) [] E0 (tCons (tOp (cIxT K) (uVar 0) (tC (.int 2))) tNil)) (tOp kLt (tCB cAbs (tCons (tOp (cIxT K) (uVar 0) (tC (.int 2))) tNil)) (tC (.int (10 ^ 60))))))))
theorem rd_is_sighting {K : PySem.W.Frag} {vs : List V} {H : Hp} {Q : VK} {E : XK} (h : sp_is_sighting K vs H Q E) : t_is_sighting K { nx := fun _ H' => Q .non H', rt := Q } (start N_is_sighting vs) H := by
  obtain ⟨v, rfl, q⟩ := h
  rcases q with ⟨n, k, hn, q⟩ | ⟨a, xs, rfl, hx, all, q⟩
  · have e : (n == "tuple") = false := by simpa using hn
    exact ⟨_, _, k.ty, k.isTup, br_tt (by rw [e]; rfl) (br_t q)⟩
  refine ⟨_, _, ty_tup hx, (by decide +kernel : kitB "tuple" "tuple" = some true), br_f ⟨xs, .inr hx, ?_⟩⟩
  match xs, hx, all, q with
  | [], _, _, q => exact br_t q
  | [_], _, _, q => exact br_t q
  | [_, _], _, _, q => exact br_t q
  | a :: b :: c :: d :: r, _, _, q =>
    refine br_tt ?_ q
    have e : ((a :: b :: c :: d :: r).length : Int) ≠ 3 := by simp only [List.length_cons]; omega
    rw [decide_eq_false e]
    rfl
  | [x, y, z], hx, all, q =>
    obtain ⟨nx, kx⟩ := all x (by simp)
    obtain ⟨ny, ky⟩ := all y (by simp)
    obtain ⟨nz, kz⟩ := all z (by simp)
    refine br_f ⟨_, x, hx, rfl, x, nx, rfl, kx, ⟨fun e => ?_, fun e => ⟨_, y, hx, rfl, y, ny, rfl, ky, ⟨fun e2 => ?_, fun e2 => ?_⟩⟩⟩⟩
    · have e : pegB x = false := by simpa using e
      have e1 : sigB [x, y, z] = false := by
        show (pegB x && pegB y && riseB z) = false
        rw [e]
        rfl
      rw [e1] at q
      exact br_t q
    · have e2 : pegB y = false := by simpa using e2
      have e1 : sigB [x, y, z] = false := by
        show (pegB x && pegB y && riseB z) = false
        rw [e2, Bool.and_false]
        rfl
      rw [e1] at q
      exact q
    · have e : pegB x = true := by simpa using e
      have e2 : pegB y = true := by simpa using e2
      have e1 : sigB [x, y, z] = riseB z := by
        show (pegB x && pegB y && riseB z) = riseB z
        rw [e, e2]
        rfl
      rw [e1] at q
      refine ⟨_, z, hx, rfl, z, nz, rfl, kz, ⟨fun e3 => ?_, fun e3 => ?_⟩⟩
      · cases z with
        | int i =>
          refine ⟨_, _, hx, rfl, ?_⟩
          rw [← abs_rise] at q
          exact q
        | _ => exact absurd (show false = true from e3) (by decide)
      · have e4 : riseB z = false := by
          cases z with
          | int i => exact absurd (show true = false from e3) (by decide)
          | _ => rfl
        rw [e4] at q
        exact q
/-! ### row_turned -/
abbrev N_row_turned : List Str := ["row"]
def sp_row_turned (K : PySem.W.Frag) : Sp := fun vs H Q _ => ∃ (v : V) (r : Row), vs = [v] ∧ Dp K H v (rowD r) ∧ ∀ (t : Addr) (H' : Hp), Same H H' → Dp K H' (.ref t) (rowD r.turn) → Q (.ref t) H'
def t_row_turned (K : PySem.W.Frag) : TS :=
  (tRet (uTup (tCons (tOp (cIxT K) (uVar 0) (tC (.int 0))) (tCons (tOp (cIxT K) (uVar 0) (tC (.int 2))) (tCons (tOp (cIxT K) (uVar 0) (tC (.int 1))) (tCons (tOp kSub (tC (.int 0)) (tOp (cIxT K) (uVar 0) (tC (.int 3)))) tNil))))))
theorem rd_row_turned {K : PySem.W.Frag} {vs : List V} {H : Hp} {Q : VK} {E : XK} (h : sp_row_turned K vs H Q E) : t_row_turned K { nx := fun _ H' => Q .non H', rt := Q } (start N_row_turned vs) H := by
  obtain ⟨v, r, rfl, d, q⟩ := h
  obtain ⟨a, rfl, h⟩ := row_at d
  exact ⟨_, _, h, rfl, _, _, h, rfl, _, _, h, rfl, _, _, h, rfl, szr rfl, fun t H2 n s e => q t H2 s (row_mk (SqT.of e))⟩
/-! ### total -/
abbrev N_total : List Str := ["steps", "found", "step"]
/-- the sum of the rises -/
def total (rows : List Row) : Int := (rows.map Row.rise).sum
theorem total_take {rows : List Row} {i : Nat} {r : Row} (e : rows[i]? = some r) : total (rows.take (i + 1)) = total (rows.take i) + r.rise := by
  unfold total
  rw [List.map_take, List.map_take]
  exact sum_take (by rw [List.getElem?_map, e]; rfl)
def sp_total (K : PySem.W.Frag) : Sp := fun vs H Q _ => ∃ (v : V) (rows : List Row), vs = [v] ∧ Dp K H v (rowsD rows) ∧ Q (.int (total rows)) H
def lp1_total (K : PySem.W.Frag) : TS :=
  (tFor (iList K (uVar 0)) (gName 2)
  (tAsg (tOp kAdd (uVar 1) (tOp (cIxT K) (uVar 2) (tC (.int 3)))) (gName 1)))
def t_total (K : PySem.W.Frag) : TS :=
  (tSeq (tAsg (tC (.int 0)) (gName 1))
  (tSeq (lp1_total K)
  (tRet (uVar 1))))
theorem rd_total {K : PySem.W.Frag} {vs : List V} {H : Hp} {Q : VK} {E : XK} (h : sp_total K vs H Q E) : t_total K { nx := fun _ H' => Q .non H', rt := Q } (start N_total vs) H := by
  obtain ⟨v, rows, rfl, hr, q⟩ := h
  obtain ⟨a, xs, rfl, hl, hlen, hx⟩ := rows_at hr
  refine ⟨a, rfl, ⟨xs, hl⟩, for_list (K := K) (a := a) (xs := xs) (fun i σ H' => H' = H ∧ ∃ w, σ = [some (.ref a), some (.int (total (rows.take i))), w]) ⟨rfl, _, rfl⟩ (fun i σ H' _ h => by rw [h.1]; exact hl) ?_ ?_⟩
  · rintro i x σ H' e ⟨rfl, w, rfl⟩
    obtain ⟨r, t, er, rfl, ht⟩ := hx i x e
    refine ⟨_, _, ht, rfl, rfl, some (.ref t), ?_⟩
    rw [total_take er]
    rfl
  · rintro σ H' ⟨rfl, w, rfl⟩
    rw [hlen, List.take_length]
    exact q
/-! ### leaving -/
abbrev N_leaving : List Str := ["rows", "links", "row"]
def sp_leaving (K : PySem.W.Frag) : Sp := fun vs H Q _ => ∃ (v : V) (rows : List Row), vs = [v] ∧ Dp K H v (rowsD rows) ∧ rows.length ≤ 1000 ∧ ∀ (d : Addr) (H' : Hp), Same H H' → LinksOf K H' d rows → Q (.ref d) H'
def lp1_leaving (K : PySem.W.Frag) : TS :=
  (tFor (iList K (uVar 0)) (gName 2)
  (tSeq (tDrop (tBM K "list" cApp (uDSetd (uVar 1) (tOp (cIxT K) (uVar 2) (tC (.int 1))) (uLst tNil)) (tCons (uVar 2) tNil)))
  (tDrop (tBM K "list" cApp (uDSetd (uVar 1) (tOp (cIxT K) (uVar 2) (tC (.int 2))) (uLst tNil)) (tCons (tCall (sp_row_turned K) [] E0 (tCons (uVar 2) tNil)) tNil)))))
def t_leaving (K : PySem.W.Frag) : TS :=
  (tSeq (tAsg uDNew (gName 1))
  (tSeq (lp1_leaving K)
  (tRet (uVar 1))))
/-- links.setdefault(k, []).append(e), e the step s's row -/
theorem link_add {K : PySem.W.Frag} {H0 H : Hp} {d : Addr} {S : List Row} {L : List (Str × Addr × List V)} (h : Links K H d S L) (s0 : Same H0 H) (h0 : H0 d = none) (hL : ∀ e ∈ L, H0 e.2.1 = none) (hl : L.length < 10000) (hS : S.length < 10000)
    {s : Row} {k : Str} (hk : s.one = k) {v0 w0 : Option V} {σ : L2.St} (hσ : σ = [v0, some (.ref d), w0]) {D : Ends} {tk tv : TE} (ek : ∀ (R : VK), R (.str k) H → tk σ H R)
    (ev : ∀ (H1 : Hp) (R : VK), Tups H H1 → (∀ (t : Addr) (H2 : Hp), Same H1 H2 → Dp K H2 (.ref t) (rowD s) → R (.ref t) H2) → tv σ H1 R)
    (q : ∀ (L' : List (Str × Addr × List V)) (H' : Hp), Same H0 H' → Tups H H' → Links K H' d (S ++ [s]) L' → (∀ e ∈ L', H0 e.2.1 = none) → L'.length ≤ L.length + 1 → (∀ p ∈ L'.map (·.1), p ∈ L.map (·.1) ∨ p = k) → D.nx σ H') :
    tDrop (tBM K "list" cApp (uDSetd (uVar 1) tk (uLst tNil)) (tCons tv tNil)) D σ H := by
  subst hσ
  refine ⟨⟨_, h.dict⟩, ek _ ⟨szr rfl, fun z H1 nz s1 t1 => ⟨_, Sum.inr k, s1 _ _ h.dict, rfl, szl (by rw [List.length_map]; omega), fun v hv => ?_, fun hn => fun H2 c2 e2 => ?_⟩⟩⟩
  · -- there
    have hm : k ∈ L.map (·.1) := Decidable.by_contra fun m => by rw [h.none m] at hv; cases hv
    obtain ⟨e, he, rfl⟩ := List.mem_map.mp hm
    rw [h.get he] at hv
    have hv := (Option.some.inj hv).symm
    subst hv
    have h1 := h.mono s1
    refine ⟨.inl ⟨rfl, _, SqL.of (h1.it e he).1⟩, ev H1 _ (tups_of s1) fun t H2 s2 dt => ?_⟩
    have h2 := h1.mono s2
    have hlen : e.2.2.length < 100000 := by
      have a := dpAll_length (h2.it e he).2
      rw [List.length_map] at a
      have b := from_len S e.1
      omega
    refine ⟨_, (h2.it e he).1, szl hlen, fun H3 c3 t3 => ?_⟩
    have h3 := h2.add he hk dt c3 t3
    have m1 : (L.map fun x => if x.1 = e.1 then (x.1, x.2.1, x.2.2 ++ [V.ref t]) else x).map (·.1) = L.map (·.1) := by
      rw [List.map_map]
      refine List.map_congr_left fun x _ => ?_
      show (if x.1 = e.1 then (x.1, x.2.1, x.2.2 ++ [V.ref t]) else x).1 = x.1
      split <;> rfl
    refine q _ H3 ((same_chd ((s0.trans s1).trans s2) c3 (hL e he))) (((tups_of s1).trans (tups_of s2)).trans (tups_chd c3 (h2.it e he).1 True.intro)) h3 (fun x hx => ?_) (by rw [List.length_map]; omega) (fun p hp => ?_)
    · obtain ⟨y, hy, ey⟩ := List.mem_map.mp hx
      subst ey
      have g := hL y hy
      show H0 (if y.1 = e.1 then (y.1, y.2.1, y.2.2 ++ [V.ref t]) else y).2.1 = none
      split <;> exact g
    · rw [m1] at hp
      exact .inl hp
  · -- new
    have hm : ¬ k ∈ L.map (·.1) := fun m => by
      obtain ⟨e, he, rfl⟩ := List.mem_map.mp m
      rw [h.get he] at hn
      cases hn
    have h2 := h.new hm nz s1 t1 c2 e2
    have zd : z ≠ d := ne_of t1 (s1 _ _ h.dict) (by intro q; cases q)
    have t2 : H2 z = some (.lst []) := c2 _ _ zd t1
    have tp2 : Tups H H2 := (tups_of s1).trans (tups_chd c2 (s1 _ _ h.dict) True.intro)
    have s02 : Same H0 H2 := same_chd (s0.trans s1) c2 h0
    have z0 : H0 z = none := s0.free nz
    refine ⟨.inl ⟨rfl, _, SqL.of t2⟩, ev H2 _ tp2 fun t H3 s3 dt => ?_⟩
    have h3 := h2.mono s3
    have he : (k, z, ([] : List V)) ∈ L ++ [(k, z, [])] := by simp
    refine ⟨_, (h3.it _ he).1, szl (by show 0 < 100000; decide), fun H4 c4 t4 => ?_⟩
    have h4 := h3.add he hk dt c4 t4
    refine q _ H4 (same_chd (s02.trans s3) c4 z0) ((tp2.trans (tups_of s3)).trans (tups_chd c4 (h3.it _ he).1 True.intro)) h4 (fun x hx => ?_) (by rw [List.length_map, List.length_append]; exact Nat.le_refl _) (fun p hp => ?_)
    · obtain ⟨y, hy, ey⟩ := List.mem_map.mp hx
      subst ey
      have g : H0 y.2.1 = none := by
        rcases List.mem_append.mp hy with hy | hy
        · exact hL y hy
        · have ey : y = (k, z, []) := by simpa using hy
          subst ey
          exact z0
      show H0 (if y.1 = k then (y.1, y.2.1, y.2.2 ++ [V.ref t]) else y).2.1 = none
      split <;> exact g
    · obtain ⟨x, hx, ex⟩ := List.mem_map.mp hp
      obtain ⟨y, hy, ey⟩ := List.mem_map.mp hx
      have e1 : y.1 = p := by
        rw [← ex, ← ey]
        show y.1 = (if y.1 = k then (y.1, y.2.1, y.2.2 ++ [V.ref t]) else y).1
        split <;> rfl
      rcases List.mem_append.mp hy with hy | hy
      · exact .inl (List.mem_map.mpr ⟨y, hy, e1⟩)
      · have ey : y = (k, z, []) := by simpa using hy
        subst ey
        exact .inr e1.symm
theorem rd_leaving {K : PySem.W.Frag} {vs : List V} {H : Hp} {Q : VK} {E : XK} (h : sp_leaving K vs H Q E) : t_leaving K { nx := fun _ H' => Q .non H', rt := Q } (start N_leaving vs) H := by
  obtain ⟨v, rows, rfl, hr, hn, q⟩ := h
  obtain ⟨a, xs, rfl, hl, al⟩ := dp_lst hr
  have hxl : xs.length = rows.length := by rw [dpAll_length al, List.length_map]
  intro d H1 n1 s1 t1
  refine ⟨a, rfl, ⟨xs, same_l s1 hl⟩, for_list (K := K) (a := a) (xs := xs) (fun i σ H' => Same H H' ∧ ∃ (L : List (Str × Addr × List V)) (w : Option V), σ = [some (.ref a), some (.ref d), w] ∧ Links K H' d (adds (rows.take i)) L ∧ (∀ e ∈ L, H e.2.1 = none) ∧ L.length ≤ 2 * i ∧ ∀ p ∈ L.map (·.1), ∃ s, IsStep (rows.take i) s ∧ s.one = p)
    ⟨s1, [], _, rfl, ⟨t1, List.nodup_nil, List.nodup_nil, fun e h => (by cases h), fun s h => (by cases h)⟩, fun e h => (by cases h), Nat.le_refl _, fun p h => (by cases h)⟩ (fun i σ H' _ h => same_l h.1 hl) ?_ ?_⟩
  · rintro i x σ H2 e ⟨s2, L, w, rfl, hL, h0, hll, hkeys⟩
    obtain ⟨dd, hd, dx⟩ := dpAll_get al e
    rw [List.getElem?_map] at hd
    obtain ⟨r, er, rfl⟩ := Option.map_eq_some_iff.mp hd
    obtain ⟨t, rfl, ht⟩ := row_at dx
    have hi : i < rows.length := (List.getElem?_eq_some_iff.mp er).1
    have tk : rows.take (i + 1) = rows.take i ++ [r] := by rw [List.take_add_one, er]; rfl
    have ht2 := same_t s2 ht
    have al1 : (adds (rows.take i)).length < 9000 := by
      rw [adds_len, List.length_take]
      omega
    refine link_add (s := r) (tk := tOp (cIxT K) (uVar 2) (tC (.int 1))) (tv := uVar 2) hL s2 n1 h0 (by omega) (by omega) rfl rfl (fun R k => ⟨_, _, ht2, rfl, k⟩) (fun H3 R tp k => k t H3 (Same.refl _) (row_mk (tups_t tp ht2))) fun L1 H3 s3 tp3 hL1 h01 hl1 hk1 => ?_
    have ht3 := tups_t tp3 ht2
    refine link_add (s := r.turn) (tk := tOp (cIxT K) (uVar 2) (tC (.int 2))) (tv := tCall (sp_row_turned K) [] E0 (tCons (uVar 2) tNil)) hL1 s3 n1 h01 (by omega) (by rw [List.length_append]; simp; omega) rfl rfl (fun R k => ⟨_, _, ht3, rfl, k⟩) (fun H4 R tp k => ⟨_, r, rfl, row_mk (tups_t tp ht3), fun t' H5 s5 d5 => k t' H5 s5 d5⟩) fun L2 H4 s4 tp4 hL2 h02 hl2 hk2 => ?_
    refine ⟨s4, L2, _, rfl, ?_, h02, by omega, fun p hp => ?_⟩
    · rw [tk, adds_snoc]
      exact hL2
    · rw [tk]
      have old : ∀ s, IsStep (rows.take i) s → IsStep (rows.take i ++ [r]) s := fun s h => h.imp (fun h => List.mem_append_left _ h) fun h => List.mem_append_left _ h
      rcases hk2 p hp with h | h
      · rcases hk1 p h with h | h
        · obtain ⟨s, hs, e⟩ := hkeys p h
          exact ⟨s, old s hs, e⟩
        · exact ⟨r, .inl (by simp), h.symm⟩
      · exact ⟨r.turn, .inr (by rw [Row.turn_turn]; simp), h.symm⟩
  · rintro σ H2 ⟨s2, L, w, rfl, hL, h0, hll, hkeys⟩
    rw [hxl, List.take_length] at hL hkeys
    exact q d H2 s2 ⟨L, hL, hkeys⟩
/-! ### reached -/
abbrev N_reached : List Str := ["links", "one", "last", "at", "order", "step"]
def sp_reached (K : PySem.W.Frag) : Sp := fun vs H Q _ => ∃ (d : Addr) (one : Str) (rows : List Row), vs = [.ref d, .str one] ∧ LinksOf K H d rows ∧ rows.length ≤ 1000 ∧ ∀ (p : Addr) (H' : Hp) (B : Last), H p = none → Same H H' → LastAt K H' p B → Bfs rows one B → Q (.ref p) H'
def lp1_reached (K : PySem.W.Frag) : TS :=
  (tFor (iList K (uDGet2 (uVar 0) (tOp (cIxL K) (uVar 4) (uVar 3)) (uLst tNil))) (gName 5)
  (uIfS (uT (uDIn false (tOp (cIxT K) (uVar 5) (tC (.int 2))) (uVar 2)))
  (tSeq (uDPut (uVar 2) (tOp (cIxT K) (uVar 5) (tC (.int 2))) (uVar 5))
  (tDrop (tBM K "list" cApp (uVar 4) (tCons (tOp (cIxT K) (uVar 5) (tC (.int 2))) tNil))))
  tNext))
def lp2_reached (K : PySem.W.Frag) : TS :=
  (uWhile (uT (tOp kLt (uVar 3) (tCB (cLenQ K) (tCons (uVar 4) tNil))))
  (tSeq (lp1_reached K)
  (tAsg (tOp kAdd (uVar 3) (tC (.int 1))) (gName 3))))
def t_reached (K : PySem.W.Frag) : TS :=
  (tSeq (tAsg (uDisp1 (uVar 1) (tC .non)) (gName 2))
  (tSeq (tAsg (tC (.int 0)) (gName 3))
  (tSeq (tAsg (uLst (tCons (uVar 1) tNil)) (gName 4))
  (tSeq (lp2_reached K)
  (tRet (uVar 2))))))
theorem Tree.len {rows : List Row} {one : Str} {B : Last} (T : Tree rows one B) : B.length ≤ 2 * rows.length + 1 := by
  have h : B.keys.length ≤ (one :: (adds rows).map Row.other).length := nodup_len T.nd fun p hp => by
    obtain ⟨i, o, e⟩ := Last.get_key hp
    by_cases h0 : 0 < i
    · obtain ⟨s, j, q, _, hs, rfl, _, _⟩ := T.par i p o e h0
      exact List.mem_cons_of_mem _ (List.mem_map.mpr ⟨s, mem_adds.mpr hs, rfl⟩)
    · have e0 : i = 0 := by omega
      subst e0
      rw [T.hd] at e
      cases e
      exact List.mem_cons_self ..
  rw [List.length_cons, List.length_map, adds_len] at h
  have e : B.keys.length = B.length := List.length_map ..
  omega
structure RSt (K : PySem.W.Frag) (rows : List Row) (one : Str) (H0 H : Hp) (p1 p2 : Addr) (B : Last) : Prop where
  sm : Same H0 H
  l1 : LastAt K H p1 B
  l2 : H p2 = some (.lst (B.keys.map V.str))
  tr : Tree rows one B
/-- the steps from one peg -/
theorem reached_in {K : PySem.W.Frag} {rows : List Row} {one : Str} {H0 H : Hp} {d p1 p2 l : Addr} {at_ : Int} {w : Option V} {B0 : Last} {D : Ends} {xs : List V} {ss : List Row} {j : Nat} {p : Str} {o : Option Row} (n1 : H0 p1 = none) (n2 : H0 p2 = none) (hn : rows.length ≤ 1000)
    (R : RSt K rows one H0 H p1 p2 B0) (hl : H l = some (.lst xs)) (al : DpAll K H xs (ss.map rowD)) (l2 : l ≠ p2) (hs : ∀ s ∈ ss, IsStep rows s ∧ s.one = p) (hj : B0[j]? = some (p, o))
    (q : ∀ (H' : Hp) (w' : Option V) (C : Last), RSt K rows one H0 H' p1 p2 (B0 ++ C) → (∀ s ∈ ss, s.other ∈ Last.keys (B0 ++ C)) → D.nx [some (.ref d), some (.str one), some (.ref p1), some (.int at_), some (.ref p2), w'] H') :
    ∃ W : Nat → Nat → L2.St → Hp → Prop, (∃ m, W 0 m [some (.ref d), some (.str one), some (.ref p1), some (.int at_), some (.ref p2), w] H) ∧ ∀ i m σ H, W i m σ H →
      ((Itl K l).stop i H ∧ D.nx σ H) ∨ ((Itl K l).go i H ∧ ∃ N : L2.St → Hp → Prop, (∀ σ' H', N σ' H' → ∃ m', m' < m ∧ W (i + 1) m' σ' H') ∧ ∀ x H', (Itl K l).yld i H x H' → gName 5 x σ H' fun σ2 H2 =>
        (uIfS (uT (uDIn false (tOp (cIxT K) (uVar 5) (tC (.int 2))) (uVar 2)))
          (tSeq (uDPut (uVar 2) (tOp (cIxT K) (uVar 5) (tC (.int 2))) (uVar 5))
          (tDrop (tBM K "list" cApp (uVar 4) (tCons (tOp (cIxT K) (uVar 5) (tC (.int 2))) tNil))))
          tNext) { D with nx := N, ct := N, bk := D.nx } σ2 H2) := by
  have hxl : xs.length = ss.length := by rw [dpAll_length al, List.length_map]
  refine for_list (K := K) (a := l) (xs := xs) (fun i σ H' => ∃ (w : Option V) (C : Last), σ = [some (.ref d), some (.str one), some (.ref p1), some (.int at_), some (.ref p2), w] ∧ RSt K rows one H0 H' p1 p2 (B0 ++ C) ∧ H' l = some (.lst xs) ∧ Tups H H' ∧ ∀ s ∈ ss.take i, s.other ∈ Last.keys (B0 ++ C))
    ⟨w, [], rfl, by rw [List.append_nil]; exact R, hl, Tups.refl H, fun s h => (by cases h)⟩ (fun i σ H' _ h => by obtain ⟨w, C, _, _, h, _, _⟩ := h; exact SqL.of h) ?_ ?_
  · rintro i x σ H2 e ⟨w, C, rfl, R2, hl2, tp, hk⟩
    obtain ⟨dd, hd, dx⟩ := dpAll_get al e
    rw [List.getElem?_map] at hd
    obtain ⟨s, es, rfl⟩ := Option.map_eq_some_iff.mp hd
    obtain ⟨t, rfl, ht⟩ := row_at (row_tups tp dx)
    obtain ⟨st, so⟩ := hs s (List.mem_of_getElem? es)
    have tk : ss.take (i + 1) = ss.take i ++ [s] := by rw [List.take_add_one, es]; rfl
    obtain ⟨kvs, hkv, kv⟩ := R2.l1
    refine ⟨_, _, ht, rfl, _, DGet.k (k := Sum.inr s.other) hkv, ?_⟩
    rw [kv.has]
    refine ⟨fun h => ?_, fun h => ?_⟩
    · -- a new peg
      have nm : ¬ s.other ∈ Last.keys (B0 ++ C) := by simpa using h
      have ln := R2.tr.len
      have hjB : (B0 ++ C)[j]? = some (s.one, o) := by
        rw [List.getElem?_append_left (List.getElem?_eq_some_iff.mp hj).1, so]
        exact hj
      have T2 := R2.tr.snoc st hjB nm
      refine ⟨_, _, ht, rfl, kvs, Sum.inr s.other, hkv, rfl, szl (by rw [kv.length]; omega), fun H3 c3 t3 => ?_⟩
      have tp3 : Tups H2 H3 := tups_chd c3 hkv True.intro
      have n12 : p2 ≠ p1 := ne_of R2.l2 hkv (by intro z; cases z)
      have hp3 := c3 _ _ n12 R2.l2
      have ht3 := tups_t tp3 ht
      have s3 := same_chd R2.sm c3 n1
      refine ⟨.inl ⟨rfl, _, SqL.of hp3⟩, _, _, ht3, rfl, _, hp3, szl (by rw [List.length_map, Last.keys, List.length_map]; omega), fun H4 c4 t4 => ?_⟩
      have tp4 : Tups H3 H4 := tups_chd c4 hp3 True.intro
      have ll1 : l ≠ p1 := ne_of hl2 hkv (by intro z; cases z)
      have vn : valV kvs (Sum.inr s.other) = none := by
        have a := kv.has s.other
        rw [decide_eq_false nm] at a
        cases ev : valV kvs (Sum.inr s.other) with
        | none => rfl
        | some v => rw [ev] at a; cases a
      rw [putK_new _ vn] at t3
      refine ⟨_, C ++ [(s.other, some s)], rfl, ⟨same_chd s3 c4 n2, ⟨_, c4 _ _ n12.symm t3, ?_⟩, ?_, ?_⟩, c4 _ _ l2 (c3 _ _ ll1 hl2), (tp.trans tp3).trans tp4, fun s' hs' => ?_⟩
      · rw [← List.append_assoc]
        exact (kv.tups (tp3.trans tp4)).snoc ⟨rfl, row_mk (tups_t tp4 ht3)⟩
      · have ek : Last.keys (B0 ++ C ++ [(s.other, some s)]) = Last.keys (B0 ++ C) ++ [s.other] := List.map_append ..
        rw [t4, ← List.append_assoc, ek, List.map_append]
        rfl
      · rw [← List.append_assoc]
        exact T2
      · rw [← List.append_assoc, Last.keys, List.map_append (l₁ := B0 ++ C)]
        rw [tk] at hs'
        rcases List.mem_append.mp hs' with g | g
        · exact List.mem_append_left _ (hk s' g)
        · have g : s' = s := by simpa using g
          rw [g]
          exact List.mem_append_right _ (by simp)
    · have m : s.other ∈ Last.keys (B0 ++ C) := by simpa using h
      refine ⟨_, C, rfl, R2, hl2, tp, fun s' hs' => ?_⟩
      rw [tk] at hs'
      rcases List.mem_append.mp hs' with g | g
      · exact hk s' g
      · have g : s' = s := by simpa using g
        rw [g]
        exact m
  · rintro σ H2 ⟨w, C, rfl, R2, hl2, tp, hk⟩
    rw [hxl, List.take_length] at hk
    exact q H2 w C R2 hk
theorem rd_reached {K : PySem.W.Frag} {vs : List V} {H : Hp} {Q : VK} {E : XK} (h : sp_reached K vs H Q E) : t_reached K { nx := fun _ H' => Q .non H', rt := Q } (start N_reached vs) H := by
  obtain ⟨d, one, rows, rfl, ⟨L, hL, hkey⟩, hn, q⟩ := h
  refine fun p1 H1 n1 s1 t1 => ⟨Sum.inr one, rfl, t1, fun H2 c2 t2 => ⟨szr rfl, fun p2 H3 n2 s3 t3 => ?_⟩⟩
  have s2 := same_chd s1 c2 n1
  have s03 := s2.trans s3
  have n2' : H p2 = none := s2.free n2
  refine ⟨fun m σ H' => ∃ (k : Nat) (B : Last) (w : Option V), m + k = 2 * rows.length + 2 ∧ σ = [some (.ref d), some (.str one), some (.ref p1), some (.int k), some (.ref p2), w] ∧ RSt K rows one H H' p1 p2 B ∧ k ≤ B.length ∧ ∀ (j : Nat) (p : Str) (o : Option Row), j < k → B[j]? = some (p, o) → ∀ s, IsStep rows s → s.one = p → s.other ∈ B.keys, ⟨2 * rows.length + 2, 0, [(one, none)], none, by omega, rfl, ⟨s03, ⟨_, s3 _ _ t2, .cons ⟨rfl, rfl⟩ .nil⟩, t3, Tree.start rows one⟩, Nat.zero_le _, fun j p o h => absurd h (Nat.not_lt_zero _)⟩, ?_⟩
  rintro m σ H4 ⟨k, B, w, hm, rfl, R, hk, hd⟩
  have lk : (B.keys.map V.str).length = B.length := by rw [List.length_map, Last.keys, List.length_map]
  have ln := R.tr.len
  refine ⟨_, .inl (SqL.of R.l2), ⟨fun e => ⟨_, fun _ _ h => h, ?_⟩, fun e => ?_⟩⟩
  · have e := of_decide_eq_true e
    rw [lk] at e
    have hkl : k < B.length := by omega
    obtain ⟨⟨p, o⟩, hp⟩ : ∃ b, B[k]? = some b := ⟨_, List.getElem?_eq_getElem hkl⟩
    have hL4 := hL.mono R.sm
    have ep : (B.keys.map V.str)[k]? = some (.str p) := by rw [List.getElem?_map, Last.keys, List.getElem?_map, hp]; rfl
    refine ⟨⟨_, hL4.dict⟩, _, _, SqL.of R.l2, at_nat (j := k) rfl ep, szr rfl, fun z H5 nz s5 t5 => ⟨_, Sum.inr p, s5 _ _ hL4.dict, rfl, ?_⟩⟩
    have R5 : RSt K rows one H H5 p1 p2 B := ⟨R.sm.trans s5, R.l1.mono s5, s5 _ _ R.l2, R.tr⟩
    -- what is behind the steps from this peg
    have fin : ∀ (ss : List Row), (∀ s, IsStep rows s → s.one = p → s ∈ ss) → ∀ (H' : Hp) (w' : Option V) (C : Last), RSt K rows one H H' p1 p2 (B ++ C) → (∀ s ∈ ss, s.other ∈ Last.keys (B ++ C)) →
        ∃ m', m' < m ∧ ∃ (k' : Nat) (B' : Last) (w : Option V), m' + k' = 2 * rows.length + 2 ∧ [some (V.ref d), some (.str one), some (.ref p1), some (.int (k + 1)), some (.ref p2), w'] = [some (.ref d), some (.str one), some (.ref p1), some (.int k'), some (.ref p2), w] ∧ RSt K rows one H H' p1 p2 B' ∧ k' ≤ B'.length ∧ ∀ (j : Nat) (p : Str) (o : Option Row), j < k' → B'[j]? = some (p, o) → ∀ s, IsStep rows s → s.one = p → s.other ∈ B'.keys := fun ss hss H' w' C R' hk' => by
      refine ⟨m - 1, by omega, k + 1, B ++ C, w', by omega, rfl, R', by rw [List.length_append]; omega, fun j p' o' hj ep' s st so => ?_⟩
      by_cases hjk : j < k
      · rw [List.getElem?_append_left (by omega)] at ep'
        have := hd j p' o' hjk ep' s st so
        unfold Last.keys
        rw [List.map_append]
        exact List.mem_append_left _ this
      · have ej : j = k := by omega
        subst ej
        rw [List.getElem?_append_left hkl, hp] at ep'
        cases ep'
        exact hk' s (hss s st so)
    by_cases hmem : p ∈ L.map (·.1)
    · obtain ⟨e1, he, rfl⟩ := List.mem_map.mp hmem
      rw [hL4.get he]
      have h5 := hL4.mono s5
      have l0 := (hL.it e1 he).1
      refine ⟨e1.2.1, rfl, ⟨_, SqL.of (h5.it e1 he).1⟩, reached_in (ss := from_ (adds rows) e1.1) n1 n2' hn R5 (h5.it e1 he).1 (h5.it e1 he).2 (ne_of_none l0 n2') (fun s hs => ⟨mem_adds.mp (mem_from.mp hs).1, (mem_from.mp hs).2⟩) hp (fin _ fun s st so => mem_from.mpr ⟨mem_adds.mpr st, so⟩)⟩
    · rw [hL4.none hmem]
      refine ⟨z, rfl, ⟨_, SqL.of t5⟩, reached_in (ss := []) n1 n2' hn R5 t5 .nil (fun e => by rw [e] at nz; rw [R.l2] at nz; cases nz) (fun s hs => by cases hs) hp (fin _ fun s st so => ?_)⟩
      exact absurd (so ▸ hL.sub s (mem_adds.mpr st)) hmem
  · have e := of_decide_eq_false e
    rw [lk] at e
    have ek : k = B.length := by omega
    refine q p1 H4 B n1 R.sm R.l1 ⟨R.tr, fun s st hs => ?_⟩
    obtain ⟨j, o, ej⟩ := Last.get_key hs
    exact hd j s.one o (by have := (List.getElem?_eq_some_iff.mp ej).1; omega) ej s st rfl
/-! ### way_along -/
abbrev N_way_along : List Str := ["rows", "one", "other", "last", "back", "step"]
def sp_way_along (K : PySem.W.Frag) : Sp := fun vs H Q _ => ∃ (v : V) (rows : List Row) (one other : Str), vs = [v, .str one, .str other] ∧ Dp K H v (rowsD rows) ∧ rows.length ≤ 1000 ∧
  (¬ Reach rows one other → ∀ (H' : Hp), Same H H' → Q .non H') ∧
  ∀ (p : Addr) (H' : Hp) (xs : List V) (ss : List Row), H p = none → Same H H' → H' p = some (.lst xs) → DpAll K H' xs (ss.map rowD) → Way rows one ss other → Simple ss other → ss.length ≤ 2001 → Q (.ref p) H'
def lp1_way_along (K : PySem.W.Frag) : TS :=
  (uWhile (uT (tOp (cNon false) (uVar 5) (tC .non)))
  (tSeq (tDrop (tBM K "list" cApp (uVar 4) (tCons (uVar 5) tNil)))
  (tAsg (uDGet (uVar 3) (tOp (cIxT K) (uVar 5) (tC (.int 1)))) (gName 5))))
def t_way_along (K : PySem.W.Frag) : TS :=
  (tSeq (tAsg (tCall (sp_reached K) [] E0 (tCons (tCall (sp_leaving K) [] E0 (tCons (uVar 0) tNil)) (tCons (uVar 1) tNil))) (gName 3))
  (tSeq (uIfS (uT (uDIn false (uVar 2) (uVar 3)))
  (tRet (tC .non))
  tNext)
  (tSeq (tAsg (uLst tNil) (gName 4))
  (tSeq (tAsg (uDGet (uVar 3) (uVar 2)) (gName 5))
  (tSeq (lp1_way_along K)
  (tRet (uListRev K (uVar 4))))))))
theorem rd_way_along {K : PySem.W.Frag} {vs : List V} {H : Hp} {Q : VK} {E : XK} (h : sp_way_along K vs H Q E) : t_way_along K { nx := fun _ H' => Q .non H', rt := Q } (start N_way_along vs) H := by
  obtain ⟨v, rows, one, other, rfl, hr, hn, qn, q⟩ := h
  refine ⟨v, rows, rfl, hr, hn, fun d H1 s1 hL => ⟨d, one, rows, rfl, hL, hn, fun p H2 B n2 s2 hB T => ?_⟩⟩
  have s02 := s1.trans s2
  obtain ⟨kvs, hk, kv⟩ := hB
  have ln := T.toTree.len
  refine ⟨_, DGet.k (k := Sum.inr other) hk, ?_⟩
  rw [kv.has]
  refine ⟨fun e => ?_, fun e => ?_⟩
  · have nm : ¬ other ∈ B.keys := by simpa using e
    exact qn (fun r => nm (T.iff.mpr r)) H2 s02
  · have hm : other ∈ B.keys := by simpa using e
    obtain ⟨k, o, ek⟩ := Last.get_key hm
    obtain ⟨v0, hv0, ov0⟩ := kv.get T.nd ek
    refine ⟨szr rfl, fun b H3 n3 s3 t3 => ⟨v0, ?_, ?_⟩⟩
    · rw [← hv0]
      exact DGet.k (k := Sum.inr other) (s3 _ _ hk)
    have s03 := s02.trans s3
    have n3' : H b = none := s02.free n3
    have ovt := ov0.tups (tups_of s3)
    refine ⟨fun m σ H' => ∃ (ss : List Row) (xs : List V) (w : V) (p0 : Str) (o0 : Option Row), σ = [some v, some (.str one), some (.str other), some (.ref p), some (.ref b), some w] ∧ Same H H' ∧ Tups H2 H' ∧ H' p = some (.dK kvs) ∧ H' b = some (.lst xs) ∧ DpAll K H' xs (ss.reverse.map rowD) ∧ Up rows B m ss k ∧ B[m]? = some (p0, o0) ∧ OptRow K H' w o0 ∧ ss.length + m ≤ k,
      ⟨k, [], [], v0, other, o, rfl, s03, tups_of s3, s3 _ _ hk, t3, .nil, .nil (List.getElem?_eq_some_iff.mp ek).1, ek, ovt, by simp⟩, ?_⟩
    rintro m σ H4 ⟨ss, xs, w, p0, o0, rfl, s4, tp4, hp4, hb4, al, U, em, ow, hlen⟩
    have hkB := (List.getElem?_eq_some_iff.mp ek).1
    have hmB := U.lt
    cases o0 with
    | none =>
      have ew : w = .non := ow
      subst ew
      have m0 : m = 0 := Decidable.by_contra fun h => by
        obtain ⟨s, _, _, e, _⟩ := T.par m p0 none em (by omega)
        cases e
      subst m0
      have hd := T.hd
      refine br_f ⟨xs, SqL.of hb4, fun r H5 n5 s5 t5 => q r H5 xs.reverse ss (s4.free n5) (s4.trans s5) t5 ?_ (U.way hd ek) (U.simple T.nd ek) (by omega)⟩
      have := dpAll_reverse (dpAll_mono s5 al)
      rw [← List.map_reverse, List.reverse_reverse] at this
      exact this
    | some s =>
      obtain ⟨t, rfl, ht⟩ := row_at ow
      have hpos : 0 < m := Decidable.by_contra fun h => by
        have e0 : m = 0 := by omega
        subst e0
        rw [T.hd] at em
        cases em
      obtain ⟨s', j, q', es, st, so, hj, ej⟩ := T.par m p0 (some s) em hpos
      cases es
      subst so
      obtain ⟨v1, hv1, ov1⟩ := kv.get T.nd ej
      refine br_t ⟨_, fun _ _ h => h, ?_⟩
      have hxl : xs.length = ss.length := by rw [dpAll_length al, List.length_map, List.length_reverse]
      refine ⟨.inl ⟨rfl, _, SqL.of hb4⟩, _, hb4, szl (by omega), fun H5 c5 t5 => ?_⟩
      have tp5 : Tups H4 H5 := tups_chd c5 hb4 True.intro
      have pb : p ≠ b := ne_of hp4 hb4 (by intro z; cases z)
      have hp5 := c5 _ _ pb hp4
      refine ⟨_, _, tups_t tp5 ht, rfl, v1, ?_, ?_⟩
      · rw [← hv1]
        exact DGet.k (k := Sum.inr s.one) hp5
      refine ⟨j, hj, s :: ss, _, v1, s.one, q', rfl, same_chd s4 c5 n3', tp4.trans tp5, hp5, t5, ?_, Up.cons st ej em hj U, ej, ov1.tups (tp4.trans tp5), by rw [List.length_cons]; omega⟩
      rw [List.reverse_cons, List.map_append]
      exact dpAll_snoc (prows_tups tp5 al) (row_mk (tups_t tp5 ht))
/-! ### part_of -/
abbrev N_part_of : List Str := ["rows", "one"]
def sp_part_of (K : PySem.W.Frag) : Sp := fun vs H Q _ => ∃ (v : V) (rows : List Row) (one : Str) (P : List Str), vs = [v, .str one] ∧ Dp K H v (rowsD rows) ∧ rows.length ≤ 1000 ∧ one ∈ P ∧ (∀ r ∈ rows, r.one ∈ P ∧ r.other ∈ P) ∧ P.length < 64 ∧
  ∀ (p : Addr) (H' : Hp) (ys : List Str), H p = none → Same H H' → H' p = some (.lst (ys.map V.str)) → ys.Nodup → sortedS ys = true → (∀ z, z ∈ ys ↔ Reach rows one z) → Q (.ref p) H'
def t_part_of (K : PySem.W.Frag) : TS :=
  (tRet (tCB cSortedD (tCons (tCall (sp_reached K) [] E0 (tCons (tCall (sp_leaving K) [] E0 (tCons (uVar 0) tNil)) (tCons (uVar 1) tNil))) tNil)))
theorem rd_part_of {K : PySem.W.Frag} {vs : List V} {H : Hp} {Q : VK} {E : XK} (h : sp_part_of K vs H Q E) : t_part_of K { nx := fun _ H' => Q .non H', rt := Q } (start N_part_of vs) H := by
  obtain ⟨v, rows, one, P, rfl, hr, hn, h1, hP, hl, q⟩ := h
  refine ⟨v, rows, rfl, hr, hn, fun d H1 s1 hL => ⟨d, one, rows, rfl, hL, hn, fun p H2 B n2 s2 hB T => ?_⟩⟩
  obtain ⟨kvs, hk, kv⟩ := hB
  have sub : ∀ z ∈ B.keys, z ∈ P := fun z hz => (T.iff.mp hz).closed (S := fun z => z ∈ P) (fun s st _ => by
    rcases st with st | st
    · exact (hP s st).2
    · exact (hP _ st).1) h1
  have len := nodup_len T.nd sub
  refine ⟨kvs, B.keys, .inl hk, kv.keys, by omega, fun ys pm so => fun p3 H3 n3 s3 t3 => q p3 H3 ys ((s1.trans s2).free n3) ((s1.trans s2).trans s3) t3 (pm.nodup_iff.mpr T.nd) so fun z => ?_⟩
  rw [pm.mem_iff]
  exact T.iff
/-! ### Book.__init__ -/
abbrev N_Book___init__ : List Str := ["self", "most"]
def sp_Book___init__ (K : PySem.W.Frag) (A : Ad) : Sp := fun vs H Q _ => ∃ (p dx : Addr) (most : Int), vs = [.ref p, .int most] ∧ H p = some (.ins A.Book dx []) ∧
  ∀ (d : Addr) (H' : Hp), H d = none → Chd p H H' → BookAt K A H' p d most 0 [] → Q .non H'
def t_Book___init__ (K : PySem.W.Frag) (A : Ad) : TS :=
  (tSeq (uFldS K (uVar 0) (uVar 1) "most")
  (tSeq (uFldS K (uVar 0) (tC (.int 0)) "taken")
  (uFldS K (uVar 0) uDNew "by_number")))
theorem chd_free {p d : Addr} {H H' : Hp} {o : HO} (c : Chd p H H') (hp : H' p = some o) (n : H' d = none) : H d = none := by
  cases e : H d with
  | none => rfl
  | some u =>
    have ne : d ≠ p := fun z => by rw [z, hp] at n; cases n
    have z := c d u ne e
    rw [n] at z
    cases z
theorem rd_Book___init__ {K : PySem.W.Frag} {A : Ad} (T : Tx K A) {vs : List V} {H : Hp} {Q : VK} {E : XK} (h : sp_Book___init__ K A vs H Q E) : t_Book___init__ K A { nx := fun _ H' => Q .non H', rt := Q } (start N_Book___init__ vs) H := by
  obtain ⟨p, dx, most, rfl, hp, q⟩ := h
  refine ⟨A.Book, dx, _, hp, T.cl, T.nMost, by decide, fun H1 c1 t1 => ⟨A.Book, dx, _, t1, T.cl, T.nTaken, Nat.le_of_ble_eq_true rfl, fun H2 c2 t2 => fun d H3 n3 s3 t3 => ⟨A.Book, dx, _, s3 _ _ t2, T.cl, T.nBy, Nat.le_of_ble_eq_true rfl, fun H4 c4 t4 => ?_⟩⟩⟩
  have pd : d ≠ p := ne_of t3 (s3 _ _ t2) (by intro z; cases z)
  exact q d H4 (chd_free (chd_trans c1 c2) t2 n3) (chd_trans (chd_same (chd_trans c1 c2) s3) c4) ⟨⟨dx, t4⟩, ⟨[], c4 _ _ pd t3, .nil⟩, List.nodup_nil, fun r h => (by cases h)⟩
/-! ### Book.kept -/
abbrev N_Book_kept : List Str := ["self"]
def sp_Book_kept (K : PySem.W.Frag) (A : Ad) : Sp := fun vs H Q _ => ∃ (b d : Addr) (most taken : Int) (rows : List Row), vs = [.ref b] ∧ BookAt K A H b d most taken rows ∧
  ∀ (p : Addr) (H' : Hp) (xs : List V), H p = none → Same H H' → H' p = some (.lst xs) → DpAll K H' xs (rows.map rowD) → Q (.ref p) H'
def t_Book_kept (K : PySem.W.Frag) (A : Ad) : TS :=
  (tRet (uListVals (uFld K (uVar 0) "by_number")))
theorem rd_Book_kept {K : PySem.W.Frag} {A : Ad} (T : Tx K A) {vs : List V} {H : Hp} {Q : VK} {E : XK} (h : sp_Book_kept K A vs H Q E) : t_Book_kept K A { nx := fun _ H' => Q .non H', rt := Q } (start N_Book_kept vs) H := by
  obtain ⟨b, d, most, taken, rows, rfl, ⟨⟨dx, hi⟩, ⟨kvs, hd, kv⟩, nd, le⟩, q⟩ := h
  exact ⟨A.Book, dx, _, .ref d, hi, T.cl, T.nBy, rfl, kvs, hd, fun p H1 n1 s1 t1 => q p H1 _ n1 s1 t1 (dpAll_mono s1 kv.vals)⟩
/-! ### Book.take -/
abbrev N_Book_take : List Str := ["self", "one", "other", "rise", "trail"]
/-- a new book's room, a sighting's kinds: what take does -/
def sp_Book_take (K : PySem.W.Frag) (A : Ad) : Sp := fun vs H Q E => ∃ (b d : Addr) (most taken : Int) (rows : List Row) (v1 v2 v3 : V), vs = [.ref b, v1, v2, v3] ∧ BookAt K A H b d most taken rows ∧ rows.length ≤ 1000 ∧ 0 ≤ taken ∧ Some7 K H v1 ∧ Some7 K H v2 ∧ Some7 K H v3 ∧
  (sigB [v1, v2, v3] = false → ∀ (H' : Hp), Same H H' → E (.ref A.NoSighting) none H') ∧
  (sigB [v1, v2, v3] = true → most ≤ rows.length → ∀ (H' : Hp), Same H H' → E (.ref A.Full) none H') ∧
  ∀ (one other : Str) (rise : Int), v1 = .str one → v2 = .str other → v3 = .int rise → sigB [v1, v2, v3] = true → (rows.length : Int) < most →
    ((¬ Reach rows one other ∨ ∃ ss, Way rows one ss other ∧ total ss = rise) → ∀ (H' : Hp), Chd2 b d H H' → BookAt K A H' b d most (taken + 1) (rows ++ [⟨taken + 1, one, other, rise⟩]) → Q (.int (taken + 1)) H') ∧
    ∀ (ss : List Row) (H' : Hp) (dd p : Addr) (xs : List V), Way rows one ss other → Simple ss other → ss.length ≤ 2001 → total ss ≠ rise → H p = none → Same H H' → H' dd = some (.xd [("trail", .ref p)]) → H' p = some (.lst xs) → DpAll K H' xs (ss.map rowD) → E (.ref A.Against) (some dd) H'
def t_Book_take (K : PySem.W.Frag) (A : Ad) (E : XK) : TS :=
  (tSeq (uIfS (uNot (uT (tCall (sp_is_sighting K) [] E0 (tCons (uTup (tCons (uVar 1) (tCons (uVar 2) (tCons (uVar 3) tNil)))) tNil))))
  (uRaise E A.NoSighting)
  tNext)
  (tSeq (uIfS (uT (tOp kGe (tCB cLenD (tCons (uFld K (uVar 0) "by_number") tNil)) (uFld K (uVar 0) "most")))
  (uRaise E A.Full)
  tNext)
  (tSeq (tAsg (tCall (sp_way_along K) [] E0 (tCons (uMeth A.Book "kept" (sp_Book_kept K A) E0 (uVar 0) tNil) (tCons (uVar 1) (tCons (uVar 2) tNil)))) (gName 4))
  (tSeq (uIfS (uAnd (uT (tOp (cNon false) (uVar 4) (tC .non))) (uT (tOp (rNeD K) (tCall (sp_total K) [] E0 (tCons (uVar 4) tNil)) (uVar 3))))
  (uMkO E A.Against (sp_Against___init__ K A) (tCons (uVar 4) tNil))
  tNext)
  (tSeq (uFldS K (uVar 0) (tOp kAdd (uFld K (uVar 0) "taken") (tC (.int 1))) "taken")
  (tSeq (uDPut (uFld K (uVar 0) "by_number") (uFld K (uVar 0) "taken") (uTup (tCons (uFld K (uVar 0) "taken") (tCons (uVar 1) (tCons (uVar 2) (tCons (uVar 3) tNil))))))
  (tRet (uFld K (uVar 0) "taken"))))))))
theorem sig_inv {v1 v2 v3 : V} (h : sigB [v1, v2, v3] = true) : ∃ (one other : Str) (rise : Int), v1 = .str one ∧ v2 = .str other ∧ v3 = .int rise := by
  have h : (pegB v1 && pegB v2 && riseB v3) = true := h
  rw [Bool.and_eq_true, Bool.and_eq_true] at h
  obtain ⟨⟨h1, h2⟩, h3⟩ := h
  cases v1 <;> first | exact absurd h1 Bool.false_ne_true | skip
  cases v2 <;> first | exact absurd h2 Bool.false_ne_true | skip
  cases v3 <;> first | exact absurd h3 Bool.false_ne_true | skip
  exact ⟨_, _, _, rfl, rfl, rfl⟩
theorem Pg.pegS {z : Str} (h : Pg z) : pegS z = true := by
  obtain ⟨n, a, n1, n2⟩ := h
  show (decide (1 ≤ z.length) && decide (z.length ≤ 8) && azB z) = true
  rw [a.len, decide_eq_true n1, decide_eq_true n2]
  show azB z = true
  unfold azB
  rw [List.all_eq_true]
  exact fun c hc => decide_eq_true (az_mem.mpr (a.all c hc))
theorem sig_true {a b : Str} {r : Int} (ha : Pg a) (hb : Pg b) (r0 : -(10 ^ 60) < r) (r1 : r < 10 ^ 60) : sigB [.str a, .str b, .int r] = true := by
  show (Peg.pegS a && Peg.pegS b && decide (-(10 ^ 60) < r ∧ r < 10 ^ 60)) = true
  rw [ha.pegS, hb.pegS, decide_eq_true ⟨r0, r1⟩]
  rfl
theorem GoodS.sig {g : Sg} (h : GoodS g) : sigB [.str g.1, .str g.2.1, .int g.2.2] = true := sig_true h.one h.other h.bnd.1 h.bnd.2
theorem Pg.s7 {K : PySem.W.Frag} {H : Hp} {z : Str} (h : Pg z) : Some7 K H (.str z) := ⟨_, .str _ (by have := h.sz; omega)⟩
/-- behind the making of an error with a field -/
theorem same_err {H : Hp} {a dx : Addr} {o1 o2 o3 o4 : HO} (na : H a = none) (nd : (upd H a o1) dx = none) : Same H (upd (del (upd (upd (upd H a o1) dx o2) a o3) a) dx o4) := fun x o e => by
  have xa : x ≠ a := ne_of_none e na
  have xd : x ≠ dx := fun z => by
    rw [← z, upd_ne xa, e] at nd
    cases nd
  rw [upd_ne xd, del_ne xa, upd_ne xa, upd_ne xd, upd_ne xa]
  exact e
theorem chd2_of {p q : Addr} {H H1 H2 : Hp} (a : Chd p H H1) (b : Chd q H1 H2) : Chd2 p q H H2 := fun c o n1 n2 h => b c o n2 (a c o n1 h)
theorem rd_Book_take {K : PySem.W.Frag} {A : Ad} (T : Tx K A) {vs : List V} {H : Hp} {Q : VK} {E : XK} (h : sp_Book_take K A vs H Q E) : t_Book_take K A E { nx := fun _ H' => Q .non H', rt := Q } (start N_Book_take vs) H := by
  obtain ⟨b, d, most, taken, rows, v1, v2, v3, rfl, B, hlen, h0, k1, k2, k3, q1, q2, q⟩ := h
  refine ⟨szr rfl, fun p H1 n1 s1 t1 => ⟨.ref p, rfl, .inr ⟨p, _, rfl, SqT.of t1, fun x hx => ?_, ⟨fun e => ?_, fun e => ?_⟩⟩⟩⟩
  · rcases List.mem_cons.mp hx with rfl | hx
    · exact k1.imp fun _ k => k.mono s1
    rcases List.mem_cons.mp hx with rfl | hx
    · exact k2.imp fun _ k => k.mono s1
    rcases List.mem_cons.mp hx with rfl | hx
    · exact k3.imp fun _ k => k.mono s1
    · cases hx
  · exact q1 (by simpa using e) H1 s1
  have sg : sigB [v1, v2, v3] = true := by simpa using e
  have B1 := B.mono s1
  obtain ⟨dx, hi⟩ := B1.ins
  obtain ⟨kvs, hd, kv⟩ := B1.dict
  refine ⟨A.Book, dx, _, .ref d, hi, T.cl, T.nBy, rfl, kvs, hd, A.Book, dx, _, .int most, hi, T.cl, T.nMost, rfl, ⟨fun e => ?_, fun e => ?_⟩⟩
  · have e := of_decide_eq_true e
    rw [kv.length] at e
    exact q2 sg e H1 s1
  have e := of_decide_eq_false e
  rw [kv.length] at e
  obtain ⟨one, other, rise, rfl, rfl, rfl⟩ := sig_inv sg
  obtain ⟨q, qa⟩ := q one other rise rfl rfl rfl sg (by omega)
  -- behind the way
  have rest : ∀ (H2 : Hp) (tr : V), (¬ Reach rows one other ∨ ∃ ss, Way rows one ss other ∧ total ss = rise) → Same H1 H2 → (tSeq (uFldS K (uVar 0) (tOp kAdd (uFld K (uVar 0) "taken") (tC (.int 1))) "taken")
      (tSeq (uDPut (uFld K (uVar 0) "by_number") (uFld K (uVar 0) "taken") (uTup (tCons (uFld K (uVar 0) "taken") (tCons (uVar 1) (tCons (uVar 2) (tCons (uVar 3) tNil))))))
      (tRet (uFld K (uVar 0) "taken")))) { nx := fun _ H' => Q .non H', rt := Q } [some (.ref b), some (.str one), some (.str other), some (.int rise), some tr] H2 := fun H2 tr how s2 => by
    have hi2 := s2 _ _ hi
    have hd2 := s2 _ _ hd
    have bd : d ≠ b := ne_of hd2 hi2 (by intro z; cases z)
    refine ⟨A.Book, dx, _, .int taken, hi2, T.cl, T.nTaken, rfl, A.Book, dx, _, hi2, T.cl, T.nTaken, Nat.le_of_ble_eq_true rfl, fun H3 c3 t3 => ?_⟩
    have t3 : H3 b = some (.ins A.Book dx (bF most (taken + 1) d)) := t3
    have hd3 := c3 _ _ bd hd2
    refine ⟨A.Book, dx, _, .int (taken + 1), t3, T.cl, T.nTaken, rfl, szr rfl, fun t H4 n4 s4 t4 => ⟨A.Book, dx, _, .ref d, s4 _ _ t3, T.cl, T.nBy, rfl, A.Book, dx, _, .int (taken + 1), s4 _ _ t3, T.cl, T.nTaken, rfl, kvs, Sum.inl (taken + 1), s4 _ _ hd3, rfl, szl (by rw [kv.length]; omega), fun H5 c5 t5 => ?_⟩⟩
    have hi5 := c5 _ _ bd.symm (s4 _ _ t3)
    refine ⟨A.Book, dx, _, .int (taken + 1), hi5, T.cl, T.nTaken, rfl, q how H5 ?_ ⟨⟨dx, hi5⟩, ⟨_, t5, ?_⟩, ?_, ?_⟩⟩
    · exact fun c o h1 h2 e => c5 c o h2 (s4 c o (c3 c o h1 (s2 c o (s1 c o e))))
    · rw [putK_new _ (kv.not fun r hr e => by have := B.le r hr; omega)]
      have tpA : Tups H1 H5 := (((tups_of s2).trans (tups_chd c3 hi2 True.intro)).trans (tups_of s4)).trans (tups_chd c5 (s4 _ _ hd3) True.intro)
      exact (kv.tups tpA).snoc ⟨rfl, row_mk (r := ⟨taken + 1, one, other, rise⟩) (tups_t (tups_chd c5 (s4 _ _ hd3) True.intro) (SqT.of t4))⟩
    · rw [List.map_append]
      refine nodup_snoc B.nd fun m => ?_
      obtain ⟨r, hr, e⟩ := List.mem_map.mp m
      have := B.le r hr
      have e : r.n = taken + 1 := e
      omega
    · intro r hr
      rcases List.mem_append.mp hr with h | h
      · have := B.le r h
        omega
      · have e : r = ⟨taken + 1, one, other, rise⟩ := by simpa using h
        rw [e]
        exact ⟨by show 1 ≤ taken + 1; omega, Int.le_refl _⟩
  refine ⟨⟨dx, _, hi, rfl⟩, b, d, most, taken, rows, rfl, B1, fun l H2 xs n2 s2 t2 al => ⟨.ref l, rows, one, other, rfl, .lst (SqL.of t2) al, hlen, fun nr H3 s3 => ?_, fun w H3 ys ss nw s3 t3 a3 W S hss => ?_⟩⟩
  · exact br_f (br_f (rest H3 _ (.inl nr) (s2.trans s3)))
  · refine br_t ⟨.ref w, ss, rfl, .lst (SqL.of t3) a3, .int (total ss), .int rise, .int _, .int _, rfl, rfl, ?_⟩
    rw [int_eqv]
    by_cases e2 : total ss = rise
    · rw [decide_eq_true e2]
      exact br_f (rest H3 _ (.inr ⟨ss, W, e2⟩) (s2.trans s3))
    rw [decide_eq_false e2]
    refine br_t ⟨Nat.le_of_ble_eq_true rfl, fun a na => ⟨a, .ref w, rfl, upd_same, fun dd nd ne => ⟨rfl, dd, [("trail", V.ref w)], upd_same, ?_, ?_, ?_⟩⟩⟩
    · rw [upd_ne ne, upd_same]
    · rw [upd_ne ne] at nd
      exact nd
    · have se := same_err (o2 := exd dd [("trail", V.ref w)]) (o3 := exo a A.Against (some dd)) (o4 := .xd [("trail", V.ref w)]) na nd
      exact qa ss _ dd w ys W S hss e2 (((s1.trans s2).free nw)) (((s1.trans s2).trans s3).trans se) upd_same (se _ _ t3) (dpAll_mono se a3)
/-! ### Book.row_by -/
abbrev N_Book_row_by : List Str := ["self", "number"]
def sp_Book_row_by (K : PySem.W.Frag) (A : Ad) : Sp := fun vs H Q E => ∃ (b d : Addr) (most taken : Int) (rows : List Row) (v : V) (n : String), vs = [.ref b, v] ∧ BookAt K A H b d most taken rows ∧ Knd K H v n ∧
  ((∀ r ∈ rows, v ≠ .int r.n) → E (.ref A.NoNumber) none H) ∧ ∀ r ∈ rows, v = .int r.n → ∀ (t : V), Dp K H t (rowD r) → Q t H
def t_Book_row_by (K : PySem.W.Frag) (A : Ad) (E : XK) : TS :=
  (tSeq (uIfS (uOr (uNot (uT (tCall (sp_is_whole K) [] E0 (tCons (uVar 1) tNil)))) (uT (uDIn false (uVar 1) (uFld K (uVar 0) "by_number"))))
  (uRaise E A.NoNumber)
  tNext)
  (tRet (uDGet (uFld K (uVar 0) "by_number") (uVar 1))))
theorem rd_Book_row_by {K : PySem.W.Frag} {A : Ad} (T : Tx K A) {vs : List V} {H : Hp} {Q : VK} {E : XK} (h : sp_Book_row_by K A vs H Q E) : t_Book_row_by K A E { nx := fun _ H' => Q .non H', rt := Q } (start N_Book_row_by vs) H := by
  obtain ⟨b, d, most, taken, rows, v, n, rfl, ⟨⟨dx, hi⟩, ⟨kvs, hd, kv⟩, nd, le⟩, k, qn, q⟩ := h
  refine ⟨v, n, rfl, k, ⟨fun e => br_t (qn fun r _ z => ?_), fun e => ?_⟩⟩
  · rw [z] at e
    exact absurd (show (!true) = true from e) (by decide)
  have ei : ∃ i, v = .int i := by
    cases v with
    | int i => exact ⟨i, rfl⟩
    | _ => exact absurd (show (!false) = false from e) (by decide)
  obtain ⟨i, rfl⟩ := ei
  refine ⟨A.Book, dx, _, .ref d, hi, T.cl, T.nBy, rfl, _, DGet.k (k := Sum.inl i) hd, ?_⟩
  by_cases m : ∃ r ∈ rows, r.n = i
  · obtain ⟨r, hr, rfl⟩ := m
    obtain ⟨t, h1, h2⟩ := kv.get nd r hr
    rw [h1]
    refine br_f ⟨A.Book, dx, _, .ref d, hi, T.cl, T.nBy, rfl, t, ?_, q r hr rfl t h2⟩
    rw [← h1]
    exact DGet.k (k := Sum.inl r.n) hd
  · have hn : ∀ r ∈ rows, r.n ≠ i := fun r hr e => m ⟨r, hr, e⟩
    rw [kv.not hn]
    exact br_t (qn fun r hr z => hn r hr (V.int.inj z).symm)
/-! ### Book.drop -/
abbrev N_Book_drop : List Str := ["self", "number", "row"]
def sp_Book_drop (K : PySem.W.Frag) (A : Ad) : Sp := fun vs H Q E => ∃ (b d : Addr) (most taken : Int) (rows : List Row) (v : V) (n : String), vs = [.ref b, v] ∧ BookAt K A H b d most taken rows ∧ Knd K H v n ∧
  ((∀ r ∈ rows, v ≠ .int r.n) → E (.ref A.NoNumber) none H) ∧
  ∀ r ∈ rows, v = .int r.n → ∀ (t : Addr) (H' : Hp), H t = none → Chd d H H' → BookAt K A H' b d most taken (rows.filter fun s => decide (s.n ≠ r.n)) → H' t = some (.tup [.str r.one, .str r.other, .int r.rise]) → Q (.ref t) H'
def t_Book_drop (K : PySem.W.Frag) (A : Ad) (E : XK) : TS :=
  (tSeq (tAsg (uMeth A.Book "row_by" (sp_Book_row_by K A) E (uVar 0) (tCons (uVar 1) tNil)) (gName 2))
  (tSeq (tDrop (uDPop1 (uFld K (uVar 0) "by_number") (uVar 1)))
  (tRet (uTup (tCons (tOp (cIxT K) (uVar 2) (tC (.int 1))) (tCons (tOp (cIxT K) (uVar 2) (tC (.int 2))) (tCons (tOp (cIxT K) (uVar 2) (tC (.int 3))) tNil)))))))
theorem rd_Book_drop {K : PySem.W.Frag} {A : Ad} (T : Tx K A) {vs : List V} {H : Hp} {Q : VK} {E : XK} (h : sp_Book_drop K A vs H Q E) : t_Book_drop K A E { nx := fun _ H' => Q .non H', rt := Q } (start N_Book_drop vs) H := by
  obtain ⟨b, d, most, taken, rows, v, n, rfl, B, k, qn, q⟩ := h
  obtain ⟨dx, hi⟩ := B.ins
  refine ⟨⟨dx, _, hi, rfl⟩, b, d, most, taken, rows, v, n, rfl, B, k, qn, fun r hr e t dt => ?_⟩
  obtain ⟨kvs, hd, kv⟩ := B.dict
  obtain ⟨v0, h1, h2⟩ := kv.get B.nd r hr
  subst e
  refine ⟨A.Book, dx, _, .ref d, hi, T.cl, T.nBy, rfl, ⟨kvs, hd⟩, kvs, Sum.inl r.n, v0, hd, rfl, h1, fun H1 c1 t1 => ?_⟩
  have tp : Tups H H1 := tups_chd c1 hd True.intro
  have bd : b ≠ d := ne_of hi hd (by intro z; cases z)
  obtain ⟨a, rfl, ha⟩ := row_at (row_tups tp dt)
  have B1 : BookAt K A H1 b d most taken (rows.filter fun s => decide (s.n ≠ r.n)) := ⟨⟨dx, c1 _ _ bd hi⟩, ⟨_, t1, kv.drop.tups tp⟩, B.nd.sublist (List.Sublist.map Row.n (List.filter_sublist ..)), fun s hs => B.le s (List.mem_filter.mp hs).1⟩
  exact ⟨_, _, ha, rfl, _, _, ha, rfl, _, _, ha, rfl, szr rfl, fun p H2 n2 s2 t2 => q r hr rfl p H2 (chd_free c1 t1 n2) (chd_same c1 s2) (B1.mono s2) t2⟩
/-! ### Book.way -/
abbrev N_Book_way : List Str := ["self", "one", "other", "rows", "found"]
def sp_Book_way (K : PySem.W.Frag) (A : Ad) : Sp := fun vs H Q E => ∃ (b d : Addr) (most taken : Int) (rows : List Row) (v1 v2 : V), vs = [.ref b, v1, v2] ∧ BookAt K A H b d most taken rows ∧ rows.length ≤ 1000 ∧ Some7 K H v1 ∧ Some7 K H v2 ∧
  ((pegB v1 && pegB v2) = false → E (.ref A.NoSighting) none H) ∧
  ∀ (one other : Str), v1 = .str one → v2 = .str other → (pegB v1 && pegB v2) = true → ∃ P : List Str, one ∈ P ∧ (∀ r ∈ rows, r.one ∈ P ∧ r.other ∈ P) ∧ P.length < 64 ∧
    (∀ (p : Addr) (H' : Hp) (xs : List V) (ss : List Row), H p = none → Same H H' → H' p = some (.lst xs) → DpAll K H' xs (ss.map rowD) → Way rows one ss other → Simple ss other → ss.length ≤ 2001 → Q (.ref p) H') ∧
    (¬ Reach rows one other → ∀ (H' : Hp) (dd p : Addr) (ys : List Str), H p = none → Same H H' → H' dd = some (.xd [("near", .ref p)]) → H' p = some (.lst (ys.map V.str)) → ys.Nodup → sortedS ys = true → (∀ z, z ∈ ys ↔ Reach rows one z) → E (.ref A.NoWay) (some dd) H')
def t_Book_way (K : PySem.W.Frag) (A : Ad) (E : XK) : TS :=
  (tSeq (uIfS (uOr (uNot (uT (tCall (sp_is_peg K) [] E0 (tCons (uVar 1) tNil)))) (uNot (uT (tCall (sp_is_peg K) [] E0 (tCons (uVar 2) tNil)))))
  (uRaise E A.NoSighting)
  tNext)
  (tSeq (tAsg (uMeth A.Book "kept" (sp_Book_kept K A) E0 (uVar 0) tNil) (gName 3))
  (tSeq (tAsg (tCall (sp_way_along K) [] E0 (tCons (uVar 3) (tCons (uVar 1) (tCons (uVar 2) tNil)))) (gName 4))
  (tSeq (uIfS (uT (tOp (cNon true) (uVar 4) (tC .non)))
  (uMkO E A.NoWay (sp_NoWay___init__ K A) (tCons (tCall (sp_part_of K) [] E0 (tCons (uVar 3) (tCons (uVar 1) tNil))) tNil))
  tNext)
  (tRet (uVar 4))))))
theorem rd_Book_way {K : PySem.W.Frag} {A : Ad} (T : Tx K A) {vs : List V} {H : Hp} {Q : VK} {E : XK} (h : sp_Book_way K A vs H Q E) : t_Book_way K A E { nx := fun _ H' => Q .non H', rt := Q } (start N_Book_way vs) H := by
  obtain ⟨b, d, most, taken, rows, v1, v2, rfl, B, hlen, ⟨n1, k1⟩, ⟨n2, k2⟩, q1, q⟩ := h
  obtain ⟨dx, hi⟩ := B.ins
  refine ⟨v1, n1, rfl, k1, ⟨fun e => br_t ?_, fun e => ⟨v2, n2, rfl, k2, ⟨fun e2 => ?_, fun e2 => ?_⟩⟩⟩⟩
  · have e : pegB v1 = false := by simpa using e
    exact q1 (by rw [e]; rfl)
  · have e2 : pegB v2 = false := by simpa using e2
    exact q1 (by rw [e2, Bool.and_false])
  have e : pegB v1 = true := by simpa using e
  have e2 : pegB v2 = true := by simpa using e2
  obtain ⟨one, rfl⟩ : ∃ z, v1 = .str z := by
    cases v1 <;> first | exact absurd e Bool.false_ne_true | exact ⟨_, rfl⟩
  obtain ⟨other, rfl⟩ : ∃ z, v2 = .str z := by
    cases v2 <;> first | exact absurd e2 Bool.false_ne_true | exact ⟨_, rfl⟩
  obtain ⟨P, o1, oP, lP, qw, qn⟩ := q one other rfl rfl (by rw [e, e2]; rfl)
  refine ⟨⟨dx, _, hi, rfl⟩, b, d, most, taken, rows, rfl, B, fun l H1 xs m1 s1 t1 al => ⟨.ref l, rows, one, other, rfl, .lst (SqL.of t1) al, hlen, fun nr H2 s2 => br_t ?_, fun w H2 ys ss nw s2 t2 a2 W S hss => ?_⟩⟩
  · refine ⟨.ref l, rows, one, P, rfl, .lst (SqL.of (s2 _ _ t1)) (dpAll_mono s2 al), hlen, o1, oP, lP, fun p H3 ys np s3 t3 nd so mem => ?_⟩
    refine ⟨Nat.le_of_ble_eq_true rfl, fun a na => ⟨a, .ref p, rfl, upd_same, fun dd nd' ne => ⟨rfl, dd, [("near", V.ref p)], upd_same, ?_, ?_, ?_⟩⟩⟩
    · rw [upd_ne ne, upd_same]
    · rw [upd_ne ne] at nd'
      exact nd'
    · have se := same_err (o2 := exd dd [("near", V.ref p)]) (o3 := exo a A.NoWay (some dd)) (o4 := .xd [("near", V.ref p)]) na nd'
      exact qn nr _ dd p ys ((s1.trans s2).free np) (((s1.trans s2).trans s3).trans se) upd_same (se _ _ t3) nd so mem
  · exact br_f (qw w H2 ys ss (s1.free nw) (s1.trans s2) t2 a2 W S hss)
/-! ### Book.rise -/
abbrev N_Book_rise : List Str := ["self", "one", "other"]
def sp_Book_rise (K : PySem.W.Frag) (A : Ad) : Sp := fun vs H Q E => ∃ (b d : Addr) (most taken : Int) (rows : List Row) (v1 v2 : V), vs = [.ref b, v1, v2] ∧ BookAt K A H b d most taken rows ∧ rows.length ≤ 1000 ∧ Some7 K H v1 ∧ Some7 K H v2 ∧
  ((pegB v1 && pegB v2) = false → E (.ref A.NoSighting) none H) ∧
  ∀ (one other : Str), v1 = .str one → v2 = .str other → (pegB v1 && pegB v2) = true → ∃ P : List Str, one ∈ P ∧ (∀ r ∈ rows, r.one ∈ P ∧ r.other ∈ P) ∧ P.length < 64 ∧
    (∀ (H' : Hp) (ss : List Row), Same H H' → Way rows one ss other → Q (.int (total ss)) H') ∧
    (¬ Reach rows one other → ∀ (H' : Hp) (dd p : Addr) (ys : List Str), H p = none → Same H H' → H' dd = some (.xd [("near", .ref p)]) → H' p = some (.lst (ys.map V.str)) → ys.Nodup → sortedS ys = true → (∀ z, z ∈ ys ↔ Reach rows one z) → E (.ref A.NoWay) (some dd) H')
def t_Book_rise (K : PySem.W.Frag) (A : Ad) (E : XK) : TS :=
  (tRet (tCall (sp_total K) [] E0 (tCons (uMeth A.Book "way" (sp_Book_way K A) E (uVar 0) (tCons (uVar 1) (tCons (uVar 2) tNil))) tNil)))
theorem rd_Book_rise {K : PySem.W.Frag} {A : Ad} (T : Tx K A) {vs : List V} {H : Hp} {Q : VK} {E : XK} (h : sp_Book_rise K A vs H Q E) : t_Book_rise K A E { nx := fun _ H' => Q .non H', rt := Q } (start N_Book_rise vs) H := by
  obtain ⟨b, d, most, taken, rows, v1, v2, rfl, B, hlen, k1, k2, q1, q⟩ := h
  obtain ⟨dx, hi⟩ := B.ins
  refine ⟨⟨dx, _, hi, rfl⟩, b, d, most, taken, rows, v1, v2, rfl, B, hlen, k1, k2, q1, fun one other e1 e2 e => ?_⟩
  obtain ⟨P, o1, oP, lP, qw, qn⟩ := q one other e1 e2 e
  exact ⟨P, o1, oP, lP, fun p H1 xs ss np s1 t1 a1 W S hss => ⟨.ref p, ss, rfl, .lst (SqL.of t1) a1, qw H1 ss s1 W⟩, qn⟩
/-! ### Book.parts -/
abbrev N_Book_parts : List Str := ["self", "links", "seen", "found", "peg", "part", "one"]
def sp_Book_parts (K : PySem.W.Frag) (A : Ad) : Sp := fun vs H Q _ => ∃ (b d : Addr) (most taken : Int) (rows : List Row) (P : List Str), vs = [.ref b] ∧ BookAt K A H b d most taken rows ∧ rows.length ≤ 1000 ∧ Pool P rows ∧ P.length < 64 ∧
  ∀ (p : Addr) (H' : Hp) (xs : List V) (ps : List (List Str)) (ys : List Str), H p = none → Same H H' → H' p = some (.lst xs) → StrLs (fun q => H q = none ∧ q ≠ p) H' xs ps → xs.Nodup → xs.length ≤ 64 → Pegs rows ys → PartsOf rows ys ps → Q (.ref p) H'
def lp1_Book_parts (K : PySem.W.Frag) (A : Ad) : TS :=
  (tFor (iList K (uVar 5)) (gName 6)
  (uDPut (uVar 2) (uVar 6) (tC (.bl true))))
def lp2_Book_parts (K : PySem.W.Frag) (A : Ad) : TS :=
  (tFor (iList K (tCB cSortedD (tCons (uVar 1) tNil))) (gName 4)
  (uIfS (uT (uDIn false (uVar 4) (uVar 2)))
  (tSeq (tAsg (tCB cSortedD (tCons (tCall (sp_reached K) [] E0 (tCons (uVar 1) (tCons (uVar 4) tNil))) tNil)) (gName 5))
  (tSeq (lp1_Book_parts K A)
  (tDrop (tBM K "list" cApp (uVar 3) (tCons (uVar 5) tNil)))))
  tNext))
def t_Book_parts (K : PySem.W.Frag) (A : Ad) : TS :=
  (tSeq (tAsg (tCall (sp_leaving K) [] E0 (tCons (uMeth A.Book "kept" (sp_Book_kept K A) E0 (uVar 0) tNil) tNil)) (gName 1))
  (tSeq (tAsg uDNew (gName 2))
  (tSeq (tAsg (uLst tNil) (gName 3))
  (tSeq (lp2_Book_parts K A)
  (tRet (uVar 3))))))
theorem LinksOf.pegs {K : PySem.W.Frag} {H : Hp} {d : Addr} {rows : List Row} (h : LinksOf K H d rows) : ∃ (kvs : List (Key × V)) (ks : List Str), H d = some (.dK kvs) ∧ kvs.map (·.1) = ks.map Sum.inr ∧ ks.Nodup ∧ ∀ z, z ∈ ks ↔ ∃ r ∈ rows, z = r.one ∨ z = r.other := by
  obtain ⟨L, h, k⟩ := h
  refine ⟨_, L.map (·.1), h.dict, h.keys, h.nd, fun z => ⟨fun m => ?_, fun ⟨r, hr, e⟩ => ?_⟩⟩
  · obtain ⟨s, hs, e⟩ := k z m
    rcases hs with hs | hs
    · exact ⟨s, hs, .inl e.symm⟩
    · exact ⟨_, hs, .inr e.symm⟩
  · rcases e with e | e
    · rw [e]
      exact h.sub r (mem_adds.mpr (.inl hr))
    · rw [e]
      have z : r.turn ∈ adds rows := mem_adds.mpr (.inr (by rw [Row.turn_turn]; exact hr))
      exact h.sub r.turn z
theorem pegs_of {rows : List Row} {ks ys : List Str} (nd : ks.Nodup) (mem : ∀ z, z ∈ ks ↔ ∃ r ∈ rows, z = r.one ∨ z = r.other) (pm : ys.Perm ks) (so : sortedS ys = true) : Pegs rows ys := ⟨pm.nodup_iff.mpr nd, so, fun z => by rw [pm.mem_iff]; exact mem z⟩
theorem Bfs.sub {rows : List Row} {one : Str} {B : Last} (T : Bfs rows one B) {P : List Str} (o1 : one ∈ P) (oP : Pool P rows) : B.keys.length ≤ P.length := nodup_len T.nd fun z hz => reach_pool oP o1 (T.iff.mp hz)
theorem putK_len' {κ : Type} [DecidableEq κ] (kvs : List (κ × V)) (k : κ) (v : V) : (putK kvs k v).length ≤ kvs.length + 1 := by
  unfold putK
  split
  · simp
  · simp
theorem rd_Book_parts {K : PySem.W.Frag} {A : Ad} (T : Tx K A) {vs : List V} {H : Hp} {Q : VK} {E : XK} (h : sp_Book_parts K A vs H Q E) : t_Book_parts K A { nx := fun _ H' => Q .non H', rt := Q } (start N_Book_parts vs) H := by
  obtain ⟨b, d, most, taken, rows, P, rfl, B, hlen, oP, lP, q⟩ := h
  obtain ⟨dx, hi⟩ := B.ins
  refine ⟨⟨dx, _, hi, rfl⟩, b, d, most, taken, rows, rfl, B, fun l0 H1 xs1 n1 s1 t1 al1 => ⟨.ref l0, rows, rfl, .lst (SqL.of t1) al1, hlen, fun lk H2 s2 hL => ?_⟩⟩
  intro sn H3 n3 s3 t3
  refine ⟨szr rfl, fun p H4 n4 s4 t4 => ?_⟩
  obtain ⟨kvs, ks, hkv, hkeys, knd, kmem⟩ := (hL.mono (s3.trans s4)).pegs
  have kl : ks.length < 64 := by
    have : ks.length ≤ P.length := nodup_len knd fun z hz => by
      obtain ⟨r, hr, e | e⟩ := (kmem z).mp hz
      · rw [e]; exact (oP r hr).1
      · rw [e]; exact (oP r hr).2
    omega
  refine ⟨kvs, ks, .inl hkv, hkeys, kl, fun ys pm so l H5 n5 s5 t5 => ?_⟩
  have hy := pegs_of knd kmem pm so
  have yl : ys.length < 64 := by rw [pm.length_eq]; exact kl
  have yP : ∀ z ∈ ys, z ∈ P := fun z hz => by
    obtain ⟨r, hr, e | e⟩ := (hy.mem z).mp hz
    · rw [e]; exact (oP r hr).1
    · rw [e]; exact (oP r hr).2
  have s12 := s1.trans s2
  have s05 := (((s12).trans s3).trans s4).trans s5
  have s25 := (s3.trans s4).trans s5
  have nsn : H sn = none := s12.free n3
  have np : H p = none := (s12.trans s3).free n4
  have nl : H l = none := ((s12.trans s3).trans s4).free n5
  have snp : sn ≠ p := fun z => by rw [z] at t3; rw [t3] at n4; cases n4
  have lsn : l ≠ sn := fun z => by rw [z, s4 _ _ t3] at n5; cases n5
  have lp : l ≠ p := fun z => by rw [z, t4] at n5; cases n5
  have n2sn : H2 sn = none := n3
  have n2p : H2 p = none := s3.free n4
  refine ⟨l, rfl, ⟨_, SqL.of t5⟩, for_list (K := K) (a := l) (xs := ys.map V.str) (fun i σ H' => Same H2 H' ∧ H' l = some (.lst (ys.map V.str)) ∧ ∃ (kv : List (Key × V)) (xs : List V) (ps : List (List Str)) (w4 w5 w6 : Option V), H' sn = some (.dK kv) ∧ kv.length ≤ 64 * i ∧ (∀ z, (valV kv (Sum.inr z)).isSome = true ↔ ∃ (j : Nat) (w : Str), j < i ∧ ys[j]? = some w ∧ Reach rows w z) ∧
      H' p = some (.lst xs) ∧ xs.length ≤ i ∧ StrLs (fun q => H q = none ∧ q ≠ p ∧ q ≠ sn) H' xs ps ∧ xs.Nodup ∧ PartsOf rows (ys.take i) ps ∧ σ = [some (.ref b), some (.ref lk), some (.ref sn), some (.ref p), w4, w5, w6])
    ⟨s25, t5, [], [], [], none, none, none, s5 _ _ (s4 _ _ t3), Nat.le_refl _, fun z => ⟨(fun h => nomatch h), fun ⟨j, w, hj, _⟩ => absurd hj (Nat.not_lt_zero j)⟩, s5 _ _ t4, Nat.le_refl _, .nil, List.nodup_nil, .nil, rfl⟩ (fun i σ H' _ h => SqL.of h.2.1) ?_ ?_⟩
  · rintro i x σ H6 e ⟨s26, hl6, kv, xs, ps, w4, w5, w6, hsn, hkl, hsee, hp, hx, ls, xnd, po, rfl⟩
    rw [List.getElem?_map] at e
    obtain ⟨z, ez, rfl⟩ := Option.map_eq_some_iff.mp e
    have hi : i < ys.length := (List.getElem?_eq_some_iff.mp ez).1
    have etk : ys.take (i + 1) = ys.take i ++ [z] := by rw [List.take_add_one, ez]; rfl
    have hfst := hy.fst ez
    have z1 : z ∈ P := yP z (List.mem_of_getElem? ez)
    refine ⟨_, DGet.k (k := Sum.inr z) hsn, ?_⟩
    -- whether it was seen
    have seen_iff : (valV kv (Sum.inr z)).isSome = true ↔ ¬ IsFst rows z := by
      rw [hsee, hfst]
      constructor
      · rintro ⟨j, w, hj, ew, r⟩ k
        exact k j w hj ew r
      · intro k
        obtain ⟨j, k⟩ := Classical.not_forall.mp k
        obtain ⟨w, k⟩ := Classical.not_forall.mp k
        obtain ⟨hj, k⟩ := Classical.not_imp.mp k
        obtain ⟨ew, k⟩ := Classical.not_imp.mp k
        exact ⟨j, w, hj, ew, Classical.not_not.mp k⟩
    have next : ∀ (y : Str), (∃ (j : Nat) (w : Str), j < i + 1 ∧ ys[j]? = some w ∧ Reach rows w y) ↔ ((∃ (j : Nat) (w : Str), j < i ∧ ys[j]? = some w ∧ Reach rows w y) ∨ Reach rows z y) := fun y => by
      constructor
      · rintro ⟨j, w, hj, ew, r⟩
        by_cases c : j < i
        · exact .inl ⟨j, w, c, ew, r⟩
        · have e : j = i := by omega
          subst e
          rw [ez] at ew
          cases ew
          exact .inr r
      · rintro (⟨j, w, hj, ew, r⟩ | r)
        · exact ⟨j, w, by omega, ew, r⟩
        · exact ⟨i, z, by omega, ez, r⟩
    refine ⟨fun ns => ?_, fun ns => ?_⟩
    · have f : IsFst rows z := Classical.not_not.mp fun nf => by
        have y := seen_iff.mpr nf
        rw [y] at ns
        cases ns
      refine ⟨lk, z, rows, rfl, hL.mono s26, hlen, fun rp H7 Bs n7 s7 hB TB => ?_⟩
      obtain ⟨kvb, hkb, kvB⟩ := hB
      have bl := Bfs.sub TB z1 oP
      refine ⟨kvb, Last.keys Bs, .inl hkb, kvB.keys, by omega, fun part pm2 so2 q0 H8 n8 s8 t8 => ?_⟩
      have pz : PartOf rows z part := ⟨pm2.nodup_iff.mpr TB.nd, so2, fun w => by rw [pm2.mem_iff]; exact TB.iff⟩
      have pl : part.length ≤ 64 := by rw [pm2.length_eq]; omega
      have s68 := s7.trans s8
      have q0sn : q0 ≠ sn := fun w => by rw [w, s7 _ _ hsn] at n8; cases n8
      have q0p : q0 ≠ p := fun w => by rw [w, s7 _ _ hp] at n8; cases n8
      have q0l : q0 ≠ l := fun w => by rw [w, s7 _ _ hl6] at n8; cases n8
      have nq0 : H q0 = none := (s12.trans (s26.trans s7)).free n8
      refine ⟨q0, rfl, ⟨_, SqL.of t8⟩, for_list (K := K) (a := q0) (xs := part.map V.str) (fun k σ H' => Chd sn H8 H' ∧ ∃ (kv' : List (Key × V)) (w6 : Option V), H' sn = some (.dK kv') ∧ kv'.length ≤ 64 * i + k ∧ (∀ y, (valV kv' (Sum.inr y)).isSome = true ↔ ((valV kv (Sum.inr y)).isSome = true ∨ y ∈ part.take k)) ∧
        σ = [some (.ref b), some (.ref lk), some (.ref sn), some (.ref p), some (.str z), some (.ref q0), w6]) ⟨fun b o _ h => h, kv, _, s68 _ _ hsn, Nat.le_trans hkl (Nat.le_add_right _ _), fun y => ⟨.inl, fun h => h.elim id fun h => absurd h (by rw [List.take_zero]; exact List.not_mem_nil)⟩, rfl⟩ (fun k σ H' _ h => SqL.of (h.1 _ _ q0sn t8)) ?_ ?_⟩
      · rintro k x σ H9 ex ⟨c9, kv', w6', hsn9, hk9, see9, rfl⟩
        rw [List.getElem?_map] at ex
        obtain ⟨y, ey, rfl⟩ := Option.map_eq_some_iff.mp ex
        have hkk : k < part.length := (List.getElem?_eq_some_iff.mp ey).1
        refine ⟨kv', Sum.inr y, hsn9, rfl, szl (by omega), fun H10 c10 t10 => ⟨chd_trans c9 c10, _, _, t10, Nat.le_trans (putK_len' ..) (by omega), fun y' => ?_, rfl⟩⟩
        rw [valV_put, List.take_add_one, ey]
        show _ ↔ _ ∨ y' ∈ _ ++ [y]
        rw [List.mem_append, List.mem_singleton]
        by_cases c : y' = y
        · subst c
          rw [if_pos rfl]
          exact ⟨fun _ => .inr (.inr rfl), fun _ => rfl⟩
        · rw [if_neg fun h => c (Sum.inr.inj h), see9]
          exact ⟨fun h => h.elim .inl fun h => .inr (.inl h), fun h => h.elim .inl fun h => h.elim .inr fun h => absurd h c⟩
      · rintro σ H9 ⟨c9, kv', w6', hsn9, hk9, see9, rfl⟩
        rw [List.length_map] at hk9 see9
        rw [List.take_length] at see9
        have hp9 : H9 p = some (.lst xs) := c9 _ _ snp.symm (s68 _ _ hp)
        refine ⟨.inl ⟨rfl, _, SqL.of hp9⟩, xs, hp9, szl (by omega), fun H10 c10 t10 => ?_⟩
        have s2_10 : Same H2 H10 := same_chd (same_chd (s26.trans s68) c9 n2sn) c10 n2p
        have ls9 : StrLs (fun q => H q = none ∧ q ≠ p ∧ q ≠ sn) H9 xs ps := (ls.mono s68).chd c9 fun q n => n.2.2
        have ls10 : StrLs (fun q => H q = none ∧ q ≠ p ∧ q ≠ sn) H10 xs ps := ls9.chd c10 fun q n => n.2.1
        refine ⟨s2_10, c10 _ _ lp (c9 _ _ lsn (s68 _ _ hl6)), kv', xs ++ [.ref q0], ps ++ [part], _, _, _, c10 _ _ snp hsn9, by omega, fun y => ?_, t10, by rw [List.length_append]; exact Nat.succ_le_succ hx, ls10.snoc ⟨nq0, q0p, q0sn⟩ (c10 _ _ q0p (c9 _ _ q0sn t8)), ?_, ?_, rfl⟩
        · rw [see9, next, ← hsee, pz.mem]
        · refine nodup_snoc xnd fun m => ?_
          obtain ⟨q', eq, _, k⟩ := ls.mem _ m
          cases eq
          exact k (s7.free n8)
        · unfold PartsOf
          rw [etk, (firsts_snoc rows (ys.take i) z).1 f]
          exact Paired.snoc' po pz
    · have ns : (valV kv (Sum.inr z)).isSome = true := by simpa using ns
      have nf := seen_iff.mp ns
      refine ⟨s26, hl6, kv, xs, ps, _, _, _, hsn, by omega, fun y => ?_, hp, by omega, ls, xnd, ?_, rfl⟩
      · rw [next, ← hsee]
        refine ⟨.inl, fun h => h.elim id fun r => ?_⟩
        obtain ⟨j, w, hj, ew, rw'⟩ := (hsee z).mp ns
        exact (hsee y).mpr ⟨j, w, hj, ew, rw'.trans r⟩
      · unfold PartsOf
        rw [etk, (firsts_snoc rows (ys.take i) z).2 nf]
        exact po
  · rintro σ H6 ⟨s26, hl6, kv, xs, ps, w4, w5, w6, hsn, hkl, hsee, hp, hx, ls, xnd, po, rfl⟩
    rw [List.length_map, List.take_length] at po
    rw [List.length_map] at hx
    exact q p H6 xs ps ys np (s12.trans s26) hp (ls.imp fun _ n => ⟨n.1, n.2.1⟩) xnd (by omega) hy po
/-! ### Book.heights -/
abbrev N_Book_heights : List Str := ["self", "links", "high", "peg", "one", "step"]
/-- heights told: each peg's over the first of its part -/
structure HeightsOf (rows : List Row) (ys : List Str) (h : Str → Int) : Prop where
  rise : ∀ r ∈ rows, h r.other - h r.one = r.rise
  zero : ∀ z ∈ ys, IsFst rows z → h z = 0
def pairD (z : Str) (x : Int) : PyData := .tuple [.str z, .int x]
def sp_Book_heights (K : PySem.W.Frag) (A : Ad) : Sp := fun vs H Q _ => ∃ (b d : Addr) (most taken : Int) (rows : List Row) (P : List Str), vs = [.ref b] ∧ BookAt K A H b d most taken rows ∧ rows.length ≤ 1000 ∧ Pool P rows ∧ P.length < 64 ∧ Agr rows ∧
  ∀ (p : Addr) (H' : Hp) (xs : List V) (ys : List Str) (g : Str → Int), H p = none → Same H H' → H' p = some (.lst xs) → DpAll K H' xs (ys.map fun z => pairD z (g z)) → Pegs rows ys → HeightsOf rows ys g → ys.length < 64 → Q (.ref p) H'
def lp1_Book_heights (K : PySem.W.Frag) (A : Ad) : TS :=
  (tFor (iItems (uFreeze (tCall (sp_reached K) [] E0 (tCons (uVar 1) (tCons (uVar 3) tNil))))) (gTup K 2 (gCons (gName 4) (gCons (gName 5) gNil)))
  (uIfS (uT (tOp (cNon true) (uVar 5) (tC .non)))
  (uDPut (uVar 2) (uVar 4) (tC (.int 0)))
  (uDPut (uVar 2) (uVar 4) (tOp kAdd (uDGet (uVar 2) (tOp (cIxT K) (uVar 5) (tC (.int 1)))) (tOp (cIxT K) (uVar 5) (tC (.int 3)))))))
def lp2_Book_heights (K : PySem.W.Frag) (A : Ad) : TS :=
  (tFor (iList K (tCB cSortedD (tCons (uVar 1) tNil))) (gName 3)
  (uIfS (uT (uDIn false (uVar 3) (uVar 2)))
  (lp1_Book_heights K A)
  tNext))
def t_Book_heights (K : PySem.W.Frag) (A : Ad) : TS :=
  (tSeq (tAsg (tCall (sp_leaving K) [] E0 (tCons (uMeth A.Book "kept" (sp_Book_kept K A) E0 (uVar 0) tNil) tNil)) (gName 1))
  (tSeq (tAsg uDNew (gName 2))
  (tSeq (lp2_Book_heights K A)
  (tRet (uLc (iList K (tCB cSortedD (tCons (uVar 2) tNil))) (gName 3) tYes (uTup (tCons (uVar 3) (tCons (uDGet (uVar 2) (uVar 3)) tNil))) [3])))))
theorem pair_at {K : PySem.W.Frag} {H : Hp} {v : V} {z : Str} {x : Int} (h : Dp K H v (pairD z x)) : ∃ a, v = .ref a ∧ SqT K H a [.str z, .int x] := by
  obtain ⟨a, xs, rfl, h, al⟩ := dp_tup h
  obtain ⟨_, _, rfl, h1, al⟩ := dpAll_cons al
  obtain ⟨_, _, rfl, h2, al⟩ := dpAll_cons al
  obtain rfl := dpAll_nil al
  obtain rfl := dp_str h1
  obtain rfl := dp_int h2
  exact ⟨a, rfl, h⟩
theorem pair_mk {K : PySem.W.Frag} {H : Hp} {a : Addr} {z : Str} {x : Int} (h : SqT K H a [.str z, .int x]) : Dp K H (.ref a) (pairD z x) := .tup h (.cons (.str _) (.cons (.int _) .nil))
theorem TStay.pair (z : Str) (x : Int) : TStay (pairD z x) := fun K H H' v e h => by
  obtain ⟨a, rfl, h2⟩ := pair_at h
  exact pair_mk (tups_t e h2)
open Classical in
/-- the first of a peg's part -/
noncomputable def fstOf (rows : List Row) (ys : List Str) (z : Str) : Str := if h : ∃ w, w ∈ ys ∧ IsFst rows w ∧ Reach rows w z then choose h else z
theorem IsFst.uniq {rows : List Row} {a b : Str} (h : IsFst rows a) (k : IsFst rows b) (r : Reach rows a b) : a = b := leS.anti (h b r) (k a r.symm)
theorem fstOf_eq {rows : List Row} {ys : List Str} {w z : Str} (hw : w ∈ ys) (f : IsFst rows w) (r : Reach rows w z) : fstOf rows ys z = w := by
  have h : ∃ w, w ∈ ys ∧ IsFst rows w ∧ Reach rows w z := ⟨w, hw, f, r⟩
  unfold fstOf
  rw [dif_pos h]
  obtain ⟨h1, h2, h3⟩ := Classical.choose_spec h
  exact h2.uniq f (h3.trans r.symm)
theorem putK_keys_nd {κ : Type} [DecidableEq κ] (kvs : List (κ × V)) (k : κ) (v : V) (h : (kvs.map (·.1)).Nodup) : ((putK kvs k v).map (·.1)).Nodup ∧ ∀ x, x ∈ (putK kvs k v).map (·.1) ↔ x ∈ kvs.map (·.1) ∨ x = k := by
  by_cases m : k ∈ kvs.map (·.1)
  · rw [putK_keys kvs k v m]
    exact ⟨h, fun x => ⟨.inl, fun z => z.elim id fun e => e ▸ m⟩⟩
  · rw [putK_new v (valV_no m), List.map_append]
    refine ⟨nodup_snoc h m, fun x => ?_⟩
    rw [List.mem_append]
    exact ⟨fun z => z.imp id fun z => by simpa using z, fun z => z.imp id fun z => by simpa using z⟩
theorem valV_key {κ : Type} [DecidableEq κ] {kvs : List (κ × V)} {k : κ} : (valV kvs k).isSome = true ↔ k ∈ kvs.map (·.1) := by
  constructor
  · intro h
    by_cases m : k ∈ kvs.map (·.1)
    · exact m
    · rw [valV_no m] at h
      cases h
  · intro m
    cases e : valV kvs k with
    | some v => rfl
    | none => exact absurd m (valV_not e)
theorem Paired.get2 {α β : Type} {R : α → β → Prop} : ∀ {xs : List α} {ys : List β} {i : Nat} {x : α} {y : β}, Paired R xs ys → xs[i]? = some x → ys[i]? = some y → R x y
  | _, _, i, x, y, .nil, h, _ => by simp at h
  | _, _, 0, x, y, .cons a _, h, k => by
    have h := Option.some.inj h
    have k := Option.some.inj k
    subst h k
    exact a
  | _, _, i + 1, x, y, .cons _ t, h, k => Paired.get2 (i := i) t (by simpa using h) (by simpa using k)
/-- each part has a first -/
theorem exists_first {rows : List Row} {ys : List Str} (hy : Pegs rows ys) {z : Str} (hz : z ∈ ys) : ∃ w, w ∈ ys ∧ IsFst rows w ∧ Reach rows w z := by
  obtain ⟨i, hi, ei⟩ := List.mem_iff_getElem.mp hz
  have key : ∀ (n : Nat) (w : Str), ys[n]? = some w → Reach rows w z → ∃ w, w ∈ ys ∧ IsFst rows w ∧ Reach rows w z := fun n => by
    induction n using Nat.strongRecOn with
    | ind n ih =>
      intro w ew r
      by_cases f : IsFst rows w
      · exact ⟨w, List.mem_of_getElem? ew, f, r⟩
      · have k := (not_congr (hy.fst ew)).mp f
        obtain ⟨j, k⟩ := Classical.not_forall.mp k
        obtain ⟨u, k⟩ := Classical.not_forall.mp k
        obtain ⟨hj, k⟩ := Classical.not_imp.mp k
        obtain ⟨eu, k⟩ := Classical.not_imp.mp k
        exact ih j hj u eu ((Classical.not_not.mp k).trans r)
  exact key i z (by rw [List.getElem?_eq_getElem hi, ei]) (Reach.refl _ _)
theorem rd_Book_heights {K : PySem.W.Frag} {A : Ad} (T : Tx K A) {vs : List V} {H : Hp} {Q : VK} {E : XK} (h : sp_Book_heights K A vs H Q E) : t_Book_heights K A { nx := fun _ H' => Q .non H', rt := Q } (start N_Book_heights vs) H := by
  obtain ⟨b, d, most, taken, rows, P, rfl, B, hlen, oP, lP, ⟨f, hf⟩, q⟩ := h
  obtain ⟨dx, hi⟩ := B.ins
  refine ⟨⟨dx, _, hi, rfl⟩, b, d, most, taken, rows, rfl, B, fun l0 H1 xs1 n1 s1 t1 al1 => ⟨.ref l0, rows, rfl, .lst (SqL.of t1) al1, hlen, fun lk H2 s2 hL => ?_⟩⟩
  intro hn H3 n3 s3 t3
  obtain ⟨kvs, ks, hkv, hkeys, knd, kmem⟩ := (hL.mono s3).pegs
  have kl : ks.length < 64 := by
    have : ks.length ≤ P.length := nodup_len knd fun z hz => by
      obtain ⟨r, hr, e | e⟩ := (kmem z).mp hz
      · rw [e]; exact (oP r hr).1
      · rw [e]; exact (oP r hr).2
    omega
  refine ⟨kvs, ks, .inl hkv, hkeys, kl, fun ys pm so l H5 n5 s5 t5 => ?_⟩
  have hy := pegs_of knd kmem pm so
  have yl : ys.length < 64 := by rw [pm.length_eq]; exact kl
  have yP : ∀ z ∈ ys, z ∈ P := fun z hz => by
    obtain ⟨r, hr, e | e⟩ := (hy.mem z).mp hz
    · rw [e]; exact (oP r hr).1
    · rw [e]; exact (oP r hr).2
  have s12 := s1.trans s2
  have s25 := s3.trans s5
  have nhn : H hn = none := s12.free n3
  have n2hn : H2 hn = none := n3
  have lhn : l ≠ hn := fun z => by rw [z, t3] at n5; cases n5
  -- the height of a peg
  let g : Str → Int := fun z => f z - f (fstOf rows ys z)
  -- what the dict holds behind the parts of ys.take i
  let Done : Nat → Str → Prop := fun i z => ∃ (j : Nat) (w : Str), j < i ∧ ys[j]? = some w ∧ Reach rows w z
  have stepf : ∀ s, IsStep rows s → s.rise = f s.other - f s.one := fun s hs => by
    rcases hs with hs | hs
    · exact hf s hs
    · have z := hf _ hs
      have z : 0 - s.rise = f s.one - f s.other := z
      omega
  refine ⟨l, rfl, ⟨_, SqL.of t5⟩, for_list (K := K) (a := l) (xs := ys.map V.str) (fun i σ H' => Same H2 H' ∧ H' l = some (.lst (ys.map V.str)) ∧ ∃ (kv : List (Key × V)) (ks : List Str) (w3 w4 w5 : Option V), H' hn = some (.dK kv) ∧ kv.map (·.1) = ks.map Sum.inr ∧ ks.Nodup ∧ (∀ z, z ∈ ks ↔ Done i z) ∧ (∀ z ∈ ks, valV kv (Sum.inr z) = some (.int (g z))) ∧
      σ = [some (.ref b), some (.ref lk), some (.ref hn), w3, w4, w5])
    ⟨s25, t5, [], [], none, none, none, s5 _ _ t3, rfl, List.nodup_nil, fun z => ⟨(fun h => by cases h), fun ⟨j, w, hj, _⟩ => absurd hj (Nat.not_lt_zero j)⟩, fun z h => (by cases h), rfl⟩ (fun i σ H' _ h => SqL.of h.2.1) ?_ ?_⟩
  · rintro i x σ H6 e ⟨s26, hl6, kv, kk, w3, w4, w5, hhn, hkk, kknd, hmem, hval, rfl⟩
    rw [List.getElem?_map] at e
    obtain ⟨z, ez, rfl⟩ := Option.map_eq_some_iff.mp e
    have hi : i < ys.length := (List.getElem?_eq_some_iff.mp ez).1
    have z1 : z ∈ P := yP z (List.mem_of_getElem? ez)
    have hfst := hy.fst ez
    have next : ∀ (y : Str), Done (i + 1) y ↔ (Done i y ∨ Reach rows z y) := fun y => by
      constructor
      · rintro ⟨j, w, hj, ew, r⟩
        by_cases c : j < i
        · exact .inl ⟨j, w, c, ew, r⟩
        · have e : j = i := by omega
          subst e
          rw [ez] at ew
          cases ew
          exact .inr r
      · rintro (⟨j, w, hj, ew, r⟩ | r)
        · exact ⟨j, w, by omega, ew, r⟩
        · exact ⟨i, z, by omega, ez, r⟩
    have key : ∀ {kv' : List (Key × V)} {kk' : List Str}, kv'.map (·.1) = kk'.map Sum.inr → ∀ y, ((valV kv' (Sum.inr y)).isSome = true ↔ y ∈ kk') := fun {kv' kk'} h y => by
      rw [valV_key, h]
      exact ⟨fun m => by
        obtain ⟨w, hw, e⟩ := List.mem_map.mp m
        rw [← Sum.inr.inj e]; exact hw, fun m => List.mem_map.mpr ⟨y, m, rfl⟩⟩
    have done_iff : z ∈ kk ↔ ¬ IsFst rows z := by
      rw [hmem, hfst]
      constructor
      · rintro ⟨j, w, hj, ew, r⟩ k
        exact k j w hj ew r
      · intro k
        obtain ⟨j, k⟩ := Classical.not_forall.mp k
        obtain ⟨w, k⟩ := Classical.not_forall.mp k
        obtain ⟨hj, k⟩ := Classical.not_imp.mp k
        obtain ⟨ew, k⟩ := Classical.not_imp.mp k
        exact ⟨j, w, hj, ew, Classical.not_not.mp k⟩
    refine ⟨_, DGet.k (k := Sum.inr z) hhn, ⟨fun ns => ?_, fun ns => ?_⟩⟩
    · have nz : ¬ z ∈ kk := fun m => by
        rw [(key hkk z).mpr m] at ns
        cases ns
      have fz : IsFst rows z := Classical.not_not.mp fun nf => nz (done_iff.mpr nf)
      refine ⟨lk, z, rows, rfl, hL.mono s26, hlen, fun rp H7 Bs n7 s7 hB TB => ?_⟩
      obtain ⟨kvb, hkb, kvB⟩ := hB
      refine ⟨kvb, hkb, fun od => ⟨rp, od, kvb, rfl, upd_same, ?_⟩⟩
      have gz : ∀ y, Reach rows z y → g y = f y - f z := fun y r => by
        show f y - f (fstOf rows ys y) = _
        rw [fstOf_eq (List.mem_of_getElem? ez) fz r]
      have rhn : rp ≠ hn := fun w => by rw [w, hhn] at n7; cases n7
      have rl : rp ≠ l := fun w => by rw [w, hl6] at n7; cases n7
      have n2rp : H2 rp = none := s26.free n7
      have s28 : Same H2 (upd H7 rp (.frz od (.dK kvb))) := fun x o e => by
        rw [upd_ne (ne_of_none e n2rp)]
        exact s7 _ _ (s26 _ _ e)
      have kvB8 : LastKV K (upd H7 rp (.frz od (.dK kvb))) kvb Bs := kvB.tups (tups_lock hkb)
      have bl := Bfs.sub TB z1 oP
      have klen := kvB.length
      have kkP : ∀ y ∈ kk, y ∈ P := fun y hy' => by
        obtain ⟨j, w, _, ew, r⟩ := (hmem y).mp hy'
        exact reach_pool oP (yP w (List.mem_of_getElem? ew)) r
      refine for_items (d := rp) (od := od) (kvs := kvb) (fun k σ H' => Same H2 H' ∧ H' l = some (.lst (ys.map V.str)) ∧ H' rp = some (.frz od (.dK kvb)) ∧ LastKV K H' kvb Bs ∧ ∃ (kv' : List (Key × V)) (kk' : List Str) (w4 w5 : Option V), H' hn = some (.dK kv') ∧ kv'.map (·.1) = kk'.map Sum.inr ∧ kk'.Nodup ∧
          (∀ y, y ∈ kk' ↔ y ∈ kk ∨ y ∈ (Last.keys Bs).take k) ∧ (∀ y ∈ kk', valV kv' (Sum.inr y) = some (.int (g y))) ∧ σ = [some (.ref b), some (.ref lk), some (.ref hn), some (.str z), w4, w5])
        ⟨s28, by rw [upd_ne rl.symm]; exact s7 _ _ hl6, upd_same, kvB8, kv, kk, _, _, by rw [upd_ne rhn.symm]; exact s7 _ _ hhn, hkk, kknd, fun y => ⟨.inl, fun h => h.elim id fun h => absurd h (by rw [List.take_zero]; exact List.not_mem_nil)⟩, hval, rfl⟩ (fun k σ H' _ h => h.2.2.1) ?_ ?_
      · rintro k key' v σ H9 tp H10 ek ⟨s29, hl9, hrp9, kvB9, kv', kk', w4', w5', hhn9, hkk9, kknd9, hmem9, hval9, rfl⟩ ntp s910 htp
        -- the pair
        have hlk : k < Bs.length := by rw [← klen]; exact (List.getElem?_eq_some_iff.mp ek).1
        obtain ⟨⟨y, o⟩, eb⟩ : ∃ b, Bs[k]? = some b := ⟨_, List.getElem?_eq_getElem hlk⟩
        have kw : key' = Sum.inr y ∧ OptRow K H9 v o := Paired.get2 (R := fun (kv : Key × V) (b : Str × Option Row) => kv.1 = Sum.inr b.1 ∧ OptRow K H9 kv.2 b.2) kvB9 ek eb
        obtain ⟨rfl, ov⟩ := kw
        have yk : (Last.keys Bs)[k]? = some y := by unfold Last.keys; rw [List.getElem?_map, eb]; rfl
        have ry : Reach rows z y := TB.iff.mp (Last.mem_key eb)
        have etk : (Last.keys Bs).take (k + 1) = (Last.keys Bs).take k ++ [y] := by rw [List.take_add_one, yk]; rfl
        have s2_10 := s29.trans s910
        have hhn10 := s910 _ _ hhn9
        have kkl : kv'.length < 1000 := by
          have e1 : kv'.length = kk'.length := by
            have e := congrArg List.length hkk9
            rw [List.length_map, List.length_map] at e
            exact e
          have : kk'.length ≤ P.length := nodup_len kknd9 fun y hy' => by
            rcases (hmem9 y).mp hy' with m | m
            · exact kkP y m
            · exact reach_pool oP z1 (TB.iff.mp (List.mem_of_mem_take m))
          omega
        -- behind the put
        have put : ∀ (x : Int), x = g y → ∀ (H11 : Hp), Chd hn H10 H11 → H11 hn = some (.dK (putK kv' (Sum.inr y) (.int x))) → Same H2 H11 ∧ H11 l = some (.lst (ys.map V.str)) ∧ H11 rp = some (.frz od (.dK kvb)) ∧ LastKV K H11 kvb Bs ∧ ∃ (kv'' : List (Key × V)) (kk'' : List Str) (w4 w5 : Option V), H11 hn = some (.dK kv'') ∧ kv''.map (·.1) = kk''.map Sum.inr ∧ kk''.Nodup ∧
            (∀ y, y ∈ kk'' ↔ y ∈ kk ∨ y ∈ (Last.keys Bs).take (k + 1)) ∧ (∀ y ∈ kk'', valV kv'' (Sum.inr y) = some (.int (g y))) ∧ [some (V.ref b), some (.ref lk), some (.ref hn), some (.str z), some (.str y), some v] = [some (.ref b), some (.ref lk), some (.ref hn), some (.str z), w4, w5] := fun x ex H11 c11 t11 => by
          have tp11 : Tups H10 H11 := tups_chd c11 hhn10 True.intro
          refine ⟨same_chd s2_10 c11 n2hn, c11 _ _ lhn (s910 _ _ hl9), c11 _ _ rhn (s910 _ _ hrp9), (kvB9.tups (tups_of s910)).tups tp11, ?_⟩
          by_cases m : y ∈ kk'
          · have km : Sum.inr y ∈ kv'.map (·.1) := by rw [hkk9]; exact List.mem_map.mpr ⟨y, m, rfl⟩
            refine ⟨_, kk', _, _, t11, by rw [putK_keys _ _ _ km, hkk9], kknd9, fun w => ?_, fun w hw => ?_, rfl⟩
            · rw [etk, hmem9, List.mem_append, List.mem_singleton]
              constructor
              · exact fun h => h.imp id .inl
              · rintro (h | h | h)
                · exact .inl h
                · exact .inr h
                · rw [h]
                  exact (hmem9 y).mp m
            · rw [valV_put]
              by_cases c : w = y
              · rw [if_pos (by rw [c]), ex, c]
              · rw [if_neg fun h => c (Sum.inr.inj h)]
                exact hval9 w hw
          · have kn : valV kv' (Sum.inr y) = none := valV_no fun km => by
              rw [hkk9] at km
              obtain ⟨w, hw, e⟩ := List.mem_map.mp km
              exact m (by rw [← Sum.inr.inj e]; exact hw)
            refine ⟨_, kk' ++ [y], _, _, t11, by rw [putK_new _ kn, List.map_append, List.map_append, hkk9]; rfl, nodup_snoc kknd9 m, fun w => ?_, fun w hw => ?_, rfl⟩
            · rw [etk, List.mem_append, List.mem_append, hmem9, List.mem_singleton, or_assoc]
            · rw [valV_put]
              by_cases c : w = y
              · rw [if_pos (by rw [c]), ex, c]
              · rw [if_neg fun h => c (Sum.inr.inj h)]
                rcases List.mem_append.mp hw with h | h
                · exact hval9 w h
                · exact absurd (List.mem_singleton.mp h) c
        refine ⟨tp, _, rfl, SqT.of htp, rfl, _, _, rfl, _, _, rfl, rfl, ?_⟩
        cases o with
        | none =>
          have ev : v = .non := ov
          subst ev
          have k0 : k = 0 := Decidable.by_contra fun h => by
            obtain ⟨s, _, _, e, _⟩ := TB.par k y none eb (by omega)
            cases e
          have hd0 := TB.hd
          rw [← k0] at hd0
          rw [hd0] at eb
          cases eb
          refine br_t ⟨kv', Sum.inr z, hhn10, rfl, szl (by omega), fun H11 c11 t11 => put 0 ?_ H11 c11 t11⟩
          rw [gz z (Reach.refl _ _)]
          omega
        | some s =>
          obtain ⟨t, rfl, ht⟩ := row_at ov
          have hpos : 0 < k := Decidable.by_contra fun h => by
            have e0 : k = 0 := by omega
            subst e0
            rw [TB.hd] at eb
            cases eb
          obtain ⟨s', j, q', es, st, so', hj, ej⟩ := TB.par k y (some s) eb hpos
          cases es
          subst so'
          have ht10 := same_t s910 ht
          have s1k : s.one ∈ kk' := (hmem9 _).mpr (.inr (by
            have e1 : (Last.keys Bs)[j]? = some s.one := by unfold Last.keys; rw [List.getElem?_map, ej]; rfl
            exact List.mem_take_iff_getElem.mpr ⟨j, by have := (List.getElem?_eq_some_iff.mp e1).1; omega, (List.getElem?_eq_some_iff.mp e1).2⟩))
          have r1 : Reach rows z s.one := TB.iff.mp (Last.mem_key ej)
          refine br_f ⟨_, _, ht10, rfl, .int (g s.one), ?_, _, _, ht10, rfl, kv', Sum.inr s.other, hhn10, rfl, szl (by omega), fun H11 c11 t11 => put (g s.one + s.rise) ?_ H11 c11 t11⟩
          · rw [← hval9 _ s1k]
            exact DGet.k (k := Sum.inr s.one) hhn10
          · rw [gz _ r1, gz _ ry, stepf s st]
            omega
      · rintro σ H9 ⟨s29, hl9, hrp9, kvB9, kv', kk', w4', w5', hhn9, hkk9, kknd9, hmem9, hval9, rfl⟩
        refine ⟨s29, hl9, kv', kk', _, _, _, hhn9, hkk9, kknd9, fun y => ?_, hval9, rfl⟩
        have ekl : kvb.length = (Last.keys Bs).length := by unfold Last.keys; rw [List.length_map, klen]
        rw [hmem9, next, ← hmem, ekl, List.take_length, TB.iff]
    · have ns : (valV kv (Sum.inr z)).isSome = true := by simpa using ns
      have mz := (key hkk z).mp ns
      refine ⟨s26, hl6, kv, kk, _, _, _, hhn, hkk, kknd, fun y => ?_, hval, rfl⟩
      rw [next, ← hmem]
      refine ⟨.inl, fun h => h.elim id fun r => ?_⟩
      obtain ⟨j, w, hj, ew, rw'⟩ := (hmem z).mp mz
      exact (hmem y).mpr ⟨j, w, hj, ew, rw'.trans r⟩
  · rintro σ H6 ⟨s26, hl6, kv, kk, w3, w4, w5, hhn, hkk, kknd, hmem, hval, rfl⟩
    rw [List.length_map] at hmem
    have mem : ∀ y, y ∈ kk ↔ y ∈ ys := fun y => by
      rw [hmem]
      constructor
      · rintro ⟨j, w, _, ew, r⟩
        exact hy.reach (List.mem_of_getElem? ew) r
      · intro m
        obtain ⟨j, hj, ej⟩ := List.mem_iff_getElem.mp m
        exact ⟨j, y, hj, by rw [List.getElem?_eq_getElem hj, ej], Reach.refl _ _⟩
    have kkl : kk.length < 64 := Nat.lt_of_le_of_lt (nodup_len kknd fun y m => (mem y).mp m) yl
    refine uLc_of ⟨kv, kk, .inl hhn, hkk, kkl, fun zs pm2 so2 l2 H7 n7 s7 t7 => ?_⟩
    have ezs : zs = ys := sorted_eq so2 so (pm2.nodup_iff.mpr kknd) hy.nd fun y => by rw [pm2.mem_iff]; exact mem y
    subst ezs
    have hlen' : (zs.map V.str).length = zs.length := List.length_map ..
    refine lcd_listT (K := K) (te := uTup (tCons (uVar 3) (tCons (uDGet (uVar 2) (uVar 3)) tNil))) (tt := tYes) (j := 3) (σ := [some (.ref b), some (.ref lk), some (.ref hn), w3, w4, w5]) (Q := Q) (fun i => (zs[i]?).bind fun z => some (pairD z (g z))) (fun i dd hd => ?_) (SqL.of t7) (by omega) (fun x => rfl) (fun i x H8 R ex s8 k => ?_) (fun i x dd H8 R ex hd s8 k => ?_) fun p H8 vs n8 s8 t8 a8 => ?_
    · obtain ⟨z, _, e⟩ := Option.bind_eq_some_iff.mp hd
      cases e
      exact TStay.pair _ _
    · have hi : i < zs.length := by rw [← hlen']; exact (List.getElem?_eq_some_iff.mp ex).1
      rw [List.getElem?_eq_getElem hi] at k
      exact k
    · rw [List.getElem?_map] at ex
      obtain ⟨z, ez, rfl⟩ := Option.map_eq_some_iff.mp ex
      rw [ez] at hd
      cases hd
      have mz : z ∈ kk := (mem z).mpr (List.mem_of_getElem? ez)
      refine ⟨.int (g z), ?_, szr rfl, fun t H9 n9 s9 t9 => k (.ref t) H9 s9 (pair_mk (SqT.of t9))⟩
      rw [← hval z mz]
      exact DGet.k (k := Sum.inr z) (s8 _ _ (s7 _ _ hhn))
    · rw [hlen', filt_at] at a8
      have e1 : zs.filterMap (fun z => some (pairD z (g z))) = zs.map fun z => pairD z (g z) := by rw [List.filterMap_eq_map']
      rw [e1] at a8
      refine q p H8 vs zs g ((s12.trans (s26.trans s7)).free n8) ((s12.trans (s26.trans s7)).trans s8) t8 a8 hy ⟨fun r hr => ?_, fun z hz fz => ?_⟩ yl
      · have r1 : Reach rows r.one r.other := .step (.inl hr)
        have m1 : r.one ∈ zs := (hy.mem _).mpr ⟨r, hr, .inl rfl⟩
        have e : fstOf rows zs r.one = fstOf rows zs r.other := by
          obtain ⟨i, hi', ei⟩ := List.mem_iff_getElem.mp m1
          -- the first of the part: there is one
          have ex : ∃ w, w ∈ zs ∧ IsFst rows w ∧ Reach rows w r.one := by
            have := exists_first hy m1
            exact this
          obtain ⟨w, hw, fw, rw'⟩ := ex
          rw [fstOf_eq hw fw rw', fstOf_eq hw fw (rw'.trans r1)]
        show (f r.other - f (fstOf rows zs r.other)) - (f r.one - f (fstOf rows zs r.one)) = r.rise
        rw [e, hf r hr]
        omega
      · show f z - f (fstOf rows zs z) = 0
        rw [fstOf_eq hz fz (Reach.refl _ _)]
        omega
/-! ### Book.spare -/
abbrev N_Book_spare : List Str := ["self", "number", "row", "others", "other"]
def sp_Book_spare (K : PySem.W.Frag) (A : Ad) : Sp := fun vs H Q E => ∃ (b d : Addr) (most taken : Int) (rows : List Row) (v : V) (n : String), vs = [.ref b, v] ∧ BookAt K A H b d most taken rows ∧ Knd K H v n ∧ rows.length ≤ 1000 ∧
  ((∀ r ∈ rows, v ≠ .int r.n) → E (.ref A.NoNumber) none H) ∧
  ∀ r ∈ rows, v = .int r.n → ∀ (k : Bool) (H' : Hp), Same H H' → (k = true ↔ Reach (rows.filter fun s => decide (s.n ≠ r.n)) r.one r.other) → Q (.bl k) H'
def t_Book_spare (K : PySem.W.Frag) (A : Ad) (E : XK) : TS :=
  (tSeq (tAsg (uMeth A.Book "row_by" (sp_Book_row_by K A) E (uVar 0) (tCons (uVar 1) tNil)) (gName 2))
  (tSeq (tAsg (uLc (iList K (uMeth A.Book "kept" (sp_Book_kept K A) E0 (uVar 0) tNil)) (gName 4) (uT (tOp (rNeD K) (tOp (cIxT K) (uVar 4) (tC (.int 0))) (uVar 1))) (uVar 4) [4]) (gName 3))
  (tRet (tOp (cNon false) (tCall (sp_way_along K) [] E0 (tCons (uVar 3) (tCons (tOp (cIxT K) (uVar 2) (tC (.int 1))) (tCons (tOp (cIxT K) (uVar 2) (tC (.int 2))) tNil)))) (tC .non)))))
theorem rd_Book_spare {K : PySem.W.Frag} {A : Ad} (T : Tx K A) {vs : List V} {H : Hp} {Q : VK} {E : XK} (h : sp_Book_spare K A vs H Q E) : t_Book_spare K A E { nx := fun _ H' => Q .non H', rt := Q } (start N_Book_spare vs) H := by
  obtain ⟨b, d, most, taken, rows, v, n, rfl, B, k, hlen, qn, q⟩ := h
  obtain ⟨dx, hi⟩ := B.ins
  refine ⟨⟨dx, _, hi, rfl⟩, b, d, most, taken, rows, v, n, rfl, B, k, qn, fun r hr e t dt => ?_⟩
  subst e
  obtain ⟨a, rfl, ha⟩ := row_at dt
  refine uLc_of ⟨⟨dx, _, hi, rfl⟩, b, d, most, taken, rows, rfl, B, fun p H1 xs n1 s1 t1 al => ?_⟩
  refine lcd_listT (K := K) (Q := fun x H1 => gName 3 x [some (.ref b), some (.int r.n), some (.ref a), none, none] H1 (tRet (tOp (cNon false) (tCall (sp_way_along K) [] E0 (tCons (uVar 3) (tCons (tOp (cIxT K) (uVar 2) (tC (V.int 1))) (tCons (tOp (cIxT K) (uVar 2) (tC (V.int 2))) tNil)))) (tC V.non)) { nx := fun x H' => Q V.non H', rt := Q })) (te := uVar 4) (tt := uT (tOp (rNeD K) (tOp (cIxT K) (uVar 4) (tC (.int 0))) (uVar 1))) (j := 4) (σ := [some (.ref b), some (.int r.n), some (.ref a), none, none]) (fun i => (rows[i]?).bind fun s => if decide (s.n ≠ r.n) then some (rowD s) else none) (fun i dd hdd => ?_) (SqL.of t1) ?_ (fun x => rfl) (fun i x H2 R ex s2 k2 => ?_) (fun i x dd H2 R ex hdd s2 k2 => ?_) fun p2 H2 vs n2 s2 t2 al2 => ?_
  · obtain ⟨s, _, e⟩ := Option.bind_eq_some_iff.mp hdd
    split at e
    · cases e
      exact TStay.row s
    · cases e
  · rw [dpAll_length al, List.length_map]
    omega
  · obtain ⟨dd, hdd, dx1⟩ := dpAll_get al ex
    rw [List.getElem?_map] at hdd
    obtain ⟨s, es, rfl⟩ := Option.map_eq_some_iff.mp hdd
    obtain ⟨t, rfl, ht⟩ := row_at (dp_mono s2 dx1)
    refine ⟨_, _, ht, rfl, .int s.n, .int r.n, .int _, .int _, rfl, rfl, ?_⟩
    rw [int_eqv]
    rw [es] at k2
    have k2 : R ((if decide (s.n ≠ r.n) = true then some (rowD s) else none).isSome) H2 := k2
    by_cases e : s.n = r.n
    · rw [if_neg (by simp [e])] at k2
      rw [decide_eq_true e]
      exact k2
    · rw [if_pos (by simp [e])] at k2
      rw [decide_eq_false e]
      exact k2
  · obtain ⟨d0, hd0, dx1⟩ := dpAll_get al ex
    rw [List.getElem?_map] at hd0
    obtain ⟨s, es, rfl⟩ := Option.map_eq_some_iff.mp hd0
    rw [es] at hdd
    have hdd : (if decide (s.n ≠ r.n) = true then some (rowD s) else none) = some dd := hdd
    split at hdd
    · cases hdd
      exact k2 x H2 (Same.refl H2) (dp_mono s2 dx1)
    · cases hdd
  · have hx : xs.length = rows.length := by rw [dpAll_length al, List.length_map]
    rw [hx, filt_rows] at al2
    have s02 := s1.trans s2
    have ha2 := same_t s02 ha
    have hl2 : (rows.filter fun s => decide (s.n ≠ r.n)).length ≤ 1000 := Nat.le_trans (List.length_filter_le ..) hlen
    refine ⟨_, _, ha2, rfl, _, _, ha2, rfl, .ref p2, rows.filter fun s => decide (s.n ≠ r.n), r.one, r.other, rfl, .lst (SqL.of t2) al2, hl2, fun nr H3 s3 => ?_, fun w H3 ys ss nw s3 t3 a3 W S hss => ?_⟩
    · exact q r hr rfl false H3 (s02.trans s3) ⟨(fun z => nomatch z), fun z => absurd z nr⟩
    · exact q r hr rfl true H3 (s02.trans s3) ⟨fun _ => ⟨ss, W⟩, fun _ => rfl⟩
/-! ### _law_cell_at -/
abbrev N__law_cell_at : List Str := ["_law_script", "_law_k"]
def sp__law_cell_at (K : PySem.W.Frag) : Sp := fun vs H Q _ => ∃ (a : Addr) (ns : List Int) (i : Int), vs = [.ref a, .int i] ∧ SqL K H a (ns.map V.int) ∧ 0 ≤ i ∧ ∀ (n : Int), Q (.int n) H
def t__law_cell_at (K : PySem.W.Frag) : TS :=
  (tSeq (uIfS (uT (tOp kLt (uVar 1) (tCB (cLenQ K) (tCons (uVar 0) tNil))))
  (tRet (tOp (cIxL K) (uVar 0) (uVar 1)))
  tNext)
  (tRet (tC (.int 0))))
theorem at_map {α : Type} (f : α → V) {xs : List α} {i : Int} (h0 : 0 ≤ i) (h : i < xs.length) : ∃ c, c ∈ xs ∧ atI (xs.map f) i = some (f c) := by
  have e : xs[i.toNat]? = some (xs[i.toNat]'(by omega)) := List.getElem?_eq_getElem (by omega)
  exact ⟨_, List.mem_of_getElem? e, at_nat (j := i.toNat) (by omega) (by rw [List.getElem?_map, e]; rfl)⟩
theorem rd__law_cell_at {K : PySem.W.Frag} {vs : List V} {H : Hp} {Q : VK} {E : XK} (h : sp__law_cell_at K vs H Q E) : t__law_cell_at K { nx := fun _ H' => Q .non H', rt := Q } (start N__law_cell_at vs) H := by
  obtain ⟨a, ns, i, rfl, h, i0, q⟩ := h
  refine ⟨_, .inl h, ⟨fun e => ?_, fun _ => q 0⟩⟩
  have e := of_decide_eq_true e
  rw [List.length_map] at e
  obtain ⟨c, _, hc⟩ := at_map V.int i0 e
  exact ⟨_, _, h, hc, q c⟩
/-! ### _law_whole -/
abbrev N__law_whole : List Str := ["_law_found"]
def sp__law_whole (K : PySem.W.Frag) : Sp := sp_is_whole K
def t__law_whole (K : PySem.W.Frag) : TS :=
  (tRet (uAndV (tCB (cIsi K) (tCons (uVar 0) (tCons (tC (.ty "int")) tNil))) (uNotV (tCB (cIsi K) (tCons (uVar 0) (tCons (tC (.ty "bool")) tNil))))))
theorem rd__law_whole {K : PySem.W.Frag} {vs : List V} {H : Hp} {Q : VK} {E : XK} (h : sp__law_whole K vs H Q E) : t__law_whole K { nx := fun _ H' => Q .non H', rt := Q } (start N__law_whole vs) H := rd_is_whole (E := E) h
/-! ### _law_word -/
abbrev N__law_word : List Str := ["_law_number", "_law_word_here", "_law_k"]
def sp__law_word (K : PySem.W.Frag) : Sp := fun vs H Q _ => ∃ (i : Int), vs = [.int i] ∧ 0 ≤ i ∧ i < 2 ^ 60 ∧ ∀ (z : Str), Az z 8 → Q (.str z) H
def lp1__law_word (K : PySem.W.Frag) : TS :=
  (tFor (iRng1 (tCons (tC (.int 8)) tNil)) (gName 2)
  (tAsg (tOp cAddS (uVar 1) (tOp cIxS (tC (.str "abcdefghijklmnopqrstuvwxyz")) (tOp kMod (tOp kMod (tOp kMul (uVar 0) (tOp kAdd (tOp kMul (uVar 2) (uVar 2)) (tC (.int 3)))) (tC (.int 1009))) (tC (.int 26))))) (gName 1)))
def t__law_word (K : PySem.W.Frag) : TS :=
  (tSeq (tAsg (tC (.str "")) (gName 1))
  (tSeq (lp1__law_word K)
  (tRet (uVar 1))))
theorem rd__law_word {K : PySem.W.Frag} {vs : List V} {H : Hp} {Q : VK} {E : XK} (h : sp__law_word K vs H Q E) : t__law_word K { nx := fun _ H' => Q .non H', rt := Q } (start N__law_word vs) H := by
  obtain ⟨i0, rfl, i1, i2, q⟩ := h
  refine ⟨8, rfl, by decide, by decide, for_range (lo := 0) (n := 8) (fun i σ H' => H' = H ∧ ∃ (z : Str) (v : Option V), Az z i ∧ σ = [some (.int i0), some (.str z), v]) ⟨rfl, "", none, Az.nil, rfl⟩ ?_ ?_⟩
  · rintro i σ H' hi ⟨rfl, z, v, hz, rfl⟩
    have k3 : ∀ i : Fin 8, 0 ≤ (0 + ((i : Nat) : Int)) * (0 + ((i : Nat) : Int)) ∧ (0 + ((i : Nat) : Int)) * (0 + ((i : Nat) : Int)) ≤ 100 := by decide
    have k3 : 0 ≤ (0 + (i : Int)) * (0 + (i : Int)) ∧ (0 + (i : Int)) * (0 + (i : Int)) ≤ 100 := k3 ⟨i, hi⟩
    refine ⟨.inl (by omega), .inr (by omega), by decide, by decide, _, az_sz, az_at (by omega) (by omega), ?_, rfl, _, _, hz.app (Az.one (by omega)), rfl⟩
    have e : ∀ c, (⟨#[c]⟩ : Str).length = 1 := fun _ => rfl
    rw [hz.len, e]
    exact sz (by omega)
  · rintro σ H' ⟨rfl, z, v, hz, rfl⟩
    exact q z hz
/-! ### _law_pegs -/
abbrev N__law_pegs : List Str := ["_law_cell", "_law_many", "_law_number", "_law_word_here", "_law_at", "_law_size", "_law_found", "_law_k", "_law_letter", "_law_other"]
def sp__law_pegs (K : PySem.W.Frag) : Sp := fun vs H Q _ => ∃ (c n : Int), vs = [.int c, .int n] ∧ 0 ≤ n ∧ n ≤ 24 ∧ ∀ (p : Addr) (pool : List Str) (H' : Hp), H p = none → Same H H' → H' p = some (.lst (pool.map V.str)) → pool.length = n.toNat → (∀ z ∈ pool, Pg z) → Q (.ref p) H'
def lp1__law_pegs (K : PySem.W.Frag) : TS :=
  (tFor (iRng1 (tCons (uVar 1) tNil)) (gName 7)
  (tSeq (tAsg (tOp cIxS (tC (.str "abcdefghijklmnopqrstuvwxyz")) (tOp kMod (tOp kAdd (tOp kDiv (uVar 2) (tC (.int 7))) (tOp kMul (tC (.int 5)) (uVar 7))) (tC (.int 26)))) (gName 8))
  (uIfS (uT (tOp kEqI (tOp kMod (uVar 2) (tC (.int 3))) (tC (.int 0))))
  (tDrop (tBM K "list" cApp (uVar 6) (tCons (tSl cSlS (uVar 3) tNoPart (uPart (tOp kAdd (tC (.int 1)) (uVar 7)))) tNil)))
  (uIfS (uT (tOp kEqI (tOp kMod (uVar 2) (tC (.int 3))) (tC (.int 1))))
  (tDrop (tBM K "list" cApp (uVar 6) (tCons (tOp cAddS (tOp cAddS (tSl cSlS (uVar 3) tNoPart (uPart (uVar 4))) (uVar 8)) (tSl cSlS (uVar 3) (uPart (tOp kAdd (uVar 4) (tC (.int 1)))) (uPart (uVar 5)))) tNil)))
  (tSeq (tAsg (tCall (sp__law_word K) [] E0 (tCons (tOp kAdd (tOp kDiv (uVar 2) (tC (.int 3))) (tOp kMul (tOp kMul (tC (.int 7919)) (uVar 7)) (uVar 7))) tNil)) (gName 9))
  (tDrop (tBM K "list" cApp (uVar 6) (tCons (tSl cSlS (uVar 9) tNoPart (uPart (tOp kAdd (tC (.int 1)) (tOp kMod (tOp kAdd (tOp kDiv (uVar 2) (tC (.int 11))) (tOp kMul (tC (.int 3)) (uVar 7))) (tC (.int 8)))))) tNil))))))))
def t__law_pegs (K : PySem.W.Frag) : TS :=
  (tSeq (tAsg (tOp kMod (tOp kMul (tOp kAdd (tOp kMod (uVar 0) (tC (.int 1000000007))) (tC (.int 7))) (tC (.int 48271))) (tC (.int 1000000007))) (gName 2))
  (tSeq (tAsg (tCall (sp__law_word K) [] E0 (tCons (uVar 2) tNil)) (gName 3))
  (tSeq (tAsg (tOp kMod (tOp kDiv (uVar 2) (tC (.int 3))) (tC (.int 8))) (gName 4))
  (tSeq (tAsg (tOp kAdd (tOp kAdd (uVar 4) (tC (.int 1))) (tOp kMod (tOp kDiv (uVar 2) (tC (.int 24))) (tOp kSub (tC (.int 8)) (uVar 4)))) (gName 5))
  (tSeq (tAsg (uLst tNil) (gName 6))
  (tSeq (lp1__law_pegs K)
  (tRet (uVar 6))))))))
theorem Az.cut {z : Str} {n : Nat} (h : Az z n) {lo hi : Option Int} {a b : Nat} (ha : HT.sIx z.length 0 lo = a) (hb : HT.sIx z.length z.length hi = b) (hbn : b ≤ n) : Az (cutS z lo hi) (b - a) where
  all := fun c hc => by
    unfold cutS at hc
    exact h.all c (List.mem_of_mem_drop (List.mem_of_mem_take hc))
  len := by
    rw [str_len]
    unfold cutS
    show (((z.cps.toList.drop (HT.sIx z.length 0 lo)).take (HT.sIx z.length z.length hi - HT.sIx z.length 0 lo)).toArray).toList.length = _
    rw [ha, hb, List.length_take, List.length_drop, ← str_len, h.len]
    omega
theorem six_pos {n d : Nat} {v : Int} (h : 0 ≤ v) (k : v ≤ n) : HT.sIx n d (some v) = v.toNat := by
  show (if v < 0 then (v + (n : Int)).toNat else min v.toNat n) = v.toNat
  rw [if_neg (by omega)]
  omega
/-- cut behind the end: what there is -/
theorem Az.head {z : Str} {n : Nat} (h : Az z n) {v : Int} (v1 : 1 ≤ v) (n1 : 1 ≤ n) (n8 : n ≤ 8) : Pg (cutS z none (some v)) := by
  have e : HT.sIx z.length z.length (some v) = min v.toNat z.length := by
    show (if v < 0 then (v + (z.length : Int)).toNat else min v.toNat z.length) = _
    rw [if_neg (by omega)]
  have k := h.cut (lo := none) (hi := some v) (a := 0) rfl e (by rw [h.len]; omega)
  rw [h.len] at k
  exact ⟨_, k, by omega, by omega⟩
theorem rd__law_pegs {K : PySem.W.Frag} {vs : List V} {H : Hp} {Q : VK} {E : XK} (h : sp__law_pegs K vs H Q E) : t__law_pegs K { nx := fun _ H' => Q .non H', rt := Q } (start N__law_pegs vs) H := by
  obtain ⟨c, n, rfl, n0, n1, q⟩ := h
  refine ⟨by decide, .inr (by decide), by decide, ?_⟩
  have g0 : 0 ≤ (c % 1000000007 + 7) * 48271 % 1000000007 := by omega
  have g1 : (c % 1000000007 + 7) * 48271 % 1000000007 < 1000000007 := by omega
  refine ⟨_, rfl, g0, by omega, fun word hw => ?_⟩
  generalize (c % 1000000007 + 7) * 48271 % 1000000007 = g at g0 g1 ⊢
  have a0 : 0 ≤ g / 3 % 8 := by omega
  have a1 : g / 3 % 8 < 8 := by omega
  refine ⟨by decide, by decide, by decide, by show (0 : Int) < 8 - _; omega, szr rfl, fun p H1 np s1 t1 => ?_⟩
  have hb16 : word.length = 8 := hw.len
  generalize g / 3 % 8 = at_ at a0 a1 ⊢
  have z0 : 0 ≤ g / 24 % (8 - at_) := Int.emod_nonneg _ (by omega)
  have z1 : g / 24 % (8 - at_) < 8 - at_ := Int.emod_lt_of_pos _ (by omega)
  generalize g / 24 % (8 - at_) = sz0 at z0 z1 ⊢
  refine ⟨n, rfl, by omega, by omega, for_range (lo := 0) (n := n.toNat) (fun i σ H' => Same H H' ∧ ∃ (pool : List Str) (v w x : Option V), H' p = some (.lst (pool.map V.str)) ∧ pool.length = i ∧ (∀ z ∈ pool, Pg z) ∧
    σ = [some (.int c), some (.int n), some (.int g), some (.str word), some (.int at_), some (.int (at_ + 1 + sz0)), some (.ref p), v, w, x]) ⟨s1, [], none, none, none, t1, rfl, fun z h => (by cases h), rfl⟩ ?_ ?_⟩
  · rintro i σ H2 hi ⟨s2, pool, v, w, x, hp, hl, hz, rfl⟩
    have done : ∀ (z : Str), Pg z → ∀ (w x : Option V) (H3 : Hp), Chd p H2 H3 → H3 p = some (.lst (pool.map V.str ++ [V.str z])) → Same H H3 ∧ ∃ (pool : List Str) (v w' x' : Option V), H3 p = some (.lst (pool.map V.str)) ∧ pool.length = i + 1 ∧ (∀ z ∈ pool, Pg z) ∧
        [some (V.int c), some (.int n), some (.int g), some (.str word), some (.int at_), some (.int (at_ + 1 + sz0)), some (.ref p), some (.int (0 + i)), w, x] = [some (.int c), some (.int n), some (.int g), some (.str word), some (.int at_), some (.int (at_ + 1 + sz0)), some (.ref p), v, w', x'] :=
      fun z pz w x H3 c3 t3 => ⟨same_chd s2 c3 np, pool ++ [z], _, _, _, by rw [t3, List.map_append]; rfl, by rw [List.length_append, hl]; rfl, fun y hy => by
        rcases List.mem_append.mp hy with hy | hy
        · exact hz y hy
        · have e : y = z := by simpa using hy
          rw [e]
          exact pz, rfl⟩
    have len : (pool.map V.str).length < sizeLine := szl (by rw [List.length_map]; omega)
    have one : ∀ c : Nat, (⟨#[c]⟩ : Str).length = 1 := fun _ => rfl
    have k3 : ∀ i : Fin 25, 0 ≤ 7919 * (0 + ((i : Nat) : Int)) * (0 + ((i : Nat) : Int)) ∧ 7919 * (0 + ((i : Nat) : Int)) * (0 + ((i : Nat) : Int)) ≤ 10000000 := by decide
    have k3 : 0 ≤ 7919 * (0 + (i : Int)) * (0 + (i : Int)) ∧ 7919 * (0 + (i : Int)) * (0 + (i : Int)) ≤ 10000000 := k3 ⟨i, by omega⟩
    refine ⟨by decide, .inl (by decide), by decide, _, az_sz, az_at (by omega) (by omega), ?_⟩
    have g2 : 97 ≤ ((g / 7 + 5 * (0 + (i : Int))) % 26).toNat + 97 ∧ ((g / 7 + 5 * (0 + (i : Int))) % 26).toNat + 97 ≤ 122 := by omega
    generalize ((g / 7 + 5 * (0 + (i : Int))) % 26).toNat + 97 = sg at g2 ⊢
    refine ⟨by decide, ⟨fun _ => ?_, fun _ => ⟨by decide, ⟨fun _ => ?_, fun _ => ?_⟩⟩⟩⟩
    · exact ⟨.inl ⟨rfl, _, SqL.of hp⟩, sz (by omega), _, hp, len, fun H3 c3 t3 => done _ (hw.head (by omega) (by omega) (by omega)) _ _ H3 c3 t3⟩
    · refine ⟨.inl ⟨rfl, _, SqL.of hp⟩, ?_⟩
      have c1 := hw.cut (lo := none) (hi := some at_) (a := 0) (b := at_.toNat) rfl (six_pos a0 (by omega)) (by omega)
      have c2 := hw.cut (lo := some (at_ + 1)) (hi := some (at_ + 1 + sz0)) (a := (at_ + 1).toNat) (b := (at_ + 1 + sz0).toNat) (six_pos (by omega) (by omega)) (six_pos (by omega) (by omega)) (by omega)
      have c3 := (c1.app (Az.one g2)).app c2
      refine ⟨sz (by omega), ?_, sz (by omega), ?_, _, hp, len, fun H3 c4 t4 => done _ ⟨_, c3, by omega, by omega⟩ _ _ H3 c4 t4⟩
      · rw [c1.len, one]; exact sz (by omega)
      · rw [(c1.app (Az.one g2)).len, c2.len]; exact sz (by omega)
    · refine ⟨by decide, .inl (by decide), .inr (by omega), _, rfl, by omega, by omega, fun z hz8 => ⟨.inl ⟨rfl, _, SqL.of hp⟩, by decide, .inl (by decide), by decide, sz (by rw [hz8.len]; omega), _, hp, len, fun H3 c4 t4 => done _ (hz8.head (by omega) (by omega) (by omega)) _ _ H3 c4 t4⟩⟩
  · rintro σ H2 ⟨s2, pool, v, w, x, hp, hl, hz, rfl⟩
    exact q p pool H2 np s2 hp hl hz
/-! ### _law_highs -/
abbrev N__law_highs : List Str := ["_law_some", "_law_cell", "_law_highs_here", "_law_start", "_law_k", "_law_steps"]
/-- the heights in the heap: each peg of the pool has one, below 5 * 10 ** 59 -/
def HighAt (H : Hp) (p : Addr) (pool : List Str) (f : Str → Int) : Prop := ∃ kvs : List (Key × V), H p = some (.dK kvs) ∧ kvs.length ≤ 2 * pool.length ∧ ∀ z ∈ pool, valV kvs (Sum.inr z) = some (.int (f z)) ∧ 0 ≤ f z ∧ f z < 5 * 10 ^ 59
theorem HighAt.mono {H H' : Hp} {p : Addr} {pool : List Str} {f : Str → Int} (s : Same H H') (h : HighAt H p pool f) : HighAt H' p pool f := by
  obtain ⟨kvs, h1, h2⟩ := h
  exact ⟨kvs, s _ _ h1, h2⟩
theorem HighAt.dget {H : Hp} {p : Addr} {pool : List Str} {f : Str → Int} (h : HighAt H p pool f) {z : Str} (hz : z ∈ pool) : DGet H p (.str z) (some (.int (f z))) := by
  obtain ⟨kvs, h1, _, h2⟩ := h
  rw [← (h2 z hz).1]
  exact DGet.k (k := Sum.inr z) h1
theorem HighAt.bnd {H : Hp} {p : Addr} {pool : List Str} {f : Str → Int} (h : HighAt H p pool f) {z : Str} (hz : z ∈ pool) : 0 ≤ f z ∧ f z < 5 * 10 ^ 59 := by
  obtain ⟨kvs, h1, _, h2⟩ := h
  exact (h2 z hz).2
def sp__law_highs (K : PySem.W.Frag) : Sp := fun vs H Q _ => ∃ (p : Addr) (pool : List Str) (c : Int), vs = [.ref p, .int c] ∧ SqL K H p (pool.map V.str) ∧ pool.length ≤ 24 ∧
  ∀ (d : Addr) (f : Str → Int) (H' : Hp), H d = none → Same H H' → HighAt H' d pool f → Q (.ref d) H'
def lp1__law_highs (K : PySem.W.Frag) : TS :=
  (tFor (iRng1 (tCons (tCB (cLenQ K) (tCons (uVar 0) tNil)) tNil)) (gName 4)
  (tSeq (tAsg (tOp kMul (tOp kAdd (tOp kAdd (tOp kMul (uVar 4) (uVar 4)) (tOp kMul (tC (.int 3)) (uVar 4))) (tC (.int 1))) (tOp kAdd (tOp kMul (tC (.int 982451653)) (tOp kPow (tC (.int 10)) (tC (.int 46)))) (tC (.int 39)))) (gName 5))
  (tSeq (uDPut (uVar 2) (tOp (cIxL K) (uVar 0) (uVar 4)) (tOp kMod (tOp kMulW (tOp kAdd (uVar 3) (uVar 4)) (uVar 5)) (tOp kMul (tC (.int 5)) (tOp kPow (tC (.int 10)) (tC (.int 59))))))
  (uIfS (uT (tOp kEqI (tOp kMod (uVar 1) (tC (.int 5))) (tC (.int 1))))
  (uDPut (uVar 2) (tOp (cIxL K) (uVar 0) (uVar 4)) (tOp kMod (tOp kMul (uVar 4) (uVar 4)) (tC (.int 3))))
  tNext))))
def t__law_highs (K : PySem.W.Frag) : TS :=
  (tSeq (tAsg uDNew (gName 2))
  (tSeq (tAsg (tOp kMod (uVar 1) (tOp kPow (tC (.int 10)) (tC (.int 60)))) (gName 3))
  (tSeq (lp1__law_highs K)
  (tRet (uVar 2)))))
theorem putK_len {κ : Type} [DecidableEq κ] (kvs : List (κ × V)) (k : κ) (v : V) : (putK kvs k v).length ≤ kvs.length + 1 := by
  unfold putK
  split
  · simp
  · simp
/-- what is put under the next peg -/
theorem high_put {kvs : List (Key × V)} {pool : List Str} {i : Nat} {g : Str} {f : Str → Int} {hv : Int} (eg : pool[i]? = some g) (hf : ∀ z ∈ pool.take i, valV kvs (Sum.inr z) = some (.int (f z)) ∧ 0 ≤ f z ∧ f z < 5 * 10 ^ 59) (v0 : 0 ≤ hv) (v1 : hv < 5 * 10 ^ 59) :
    ∀ z ∈ pool.take (i + 1), valV (putK kvs (Sum.inr g) (.int hv)) (Sum.inr z) = some (.int (if z = g then hv else f z)) ∧ 0 ≤ (if z = g then hv else f z) ∧ (if z = g then hv else f z) < 5 * 10 ^ 59 := fun z hz => by
  rw [List.take_add_one, eg] at hz
  rw [valV_put]
  by_cases e : z = g
  · subst e
    rw [if_pos rfl, if_pos rfl]
    exact ⟨rfl, v0, v1⟩
  · rw [if_neg e, if_neg (fun q => e (Sum.inr.inj q))]
    refine hf z ?_
    rcases List.mem_append.mp hz with m | m
    · exact m
    · exact absurd (by simpa using m) e
theorem log2_small {n m : Nat} (h : n < 2 ^ m) (hm : 0 < m) : n.log2 < m := by
  by_cases e : n = 0
  · rw [e]
    exact hm
  · exact (Nat.log2_lt e).mpr h
theorem rd__law_highs {K : PySem.W.Frag} {vs : List V} {H : Hp} {Q : VK} {E : XK} (h : sp__law_highs K vs H Q E) : t__law_highs K { nx := fun _ H' => Q .non H', rt := Q } (start N__law_highs vs) H := by
  obtain ⟨p, pool, c, rfl, hP, hlen, q⟩ := h
  have p60 : CPow 10 60 := ⟨by decide, by decide, by decide⟩
  have p46 : CPow 10 46 := ⟨by decide, by decide, by decide⟩
  have p59 : CPow 10 59 := ⟨by decide, by decide, by decide⟩
  have e60 : (10 : Int) ^ (60 : Int).toNat = 10 ^ 60 := rfl
  have e46 : (10 : Int) ^ (46 : Int).toNat = 10 ^ 46 := rfl
  have e59 : (10 : Int) ^ (59 : Int).toNat = 10 ^ 59 := rfl
  intro d H1 n1 s1 t1
  have pl : (pool.map V.str).length = pool.length := List.length_map ..
  refine ⟨p60, by decide, ?_⟩
  rw [e60]
  have m0 : 0 ≤ c % 10 ^ 60 := Int.emod_nonneg _ (by decide)
  have m1 : c % 10 ^ 60 < 10 ^ 60 := Int.emod_lt_of_pos _ (by decide)
  generalize c % 10 ^ 60 = st at m0 m1 ⊢
  refine ⟨_, .inl (same_l s1 hP), _, rfl, by omega, by rw [pl]; omega, for_range (lo := 0) (n := ((pool.map V.str).length : Int).toNat) (fun i σ H' => Same H H' ∧ ∃ (kvs : List (Key × V)) (f : Str → Int) (x y : Option V), H' d = some (.dK kvs) ∧ kvs.length ≤ 2 * i ∧ (∀ z ∈ pool.take i, valV kvs (Sum.inr z) = some (.int (f z)) ∧ 0 ≤ f z ∧ f z < 5 * 10 ^ 59) ∧ σ = [some (.ref p), some (.int c), some (.ref d), some (.int st), x, y])
    ⟨s1, [], fun _ => 0, none, none, t1, Nat.le_refl _, fun z h => (by cases h), rfl⟩ ?_ ?_⟩
  · rintro i σ H2 hi ⟨s2, kvs, f, x, y, hd, hkl, hf, rfl⟩
    have hi : i < pool.length := by omega
    obtain ⟨g, eg⟩ : ∃ g, pool[i]? = some g := ⟨_, List.getElem?_eq_getElem hi⟩
    have ev : (pool.map V.str)[i]? = some (.str g) := by rw [List.getElem?_map, eg]; rfl
    have k3 : ∀ i : Fin 25, 0 ≤ (0 + ((i : Nat) : Int)) * (0 + ((i : Nat) : Int)) ∧ (0 + ((i : Nat) : Int)) * (0 + ((i : Nat) : Int)) ≤ 1000 := by decide
    have k3 : 0 ≤ (0 + (i : Int)) * (0 + (i : Int)) ∧ (0 + (i : Int)) * (0 + (i : Int)) ≤ 1000 := k3 ⟨i, by omega⟩
    refine ⟨.inl (by omega), .inl (by decide), p46, .inl (by decide), .inl (by omega), ?_⟩
    generalize (0 + (i : Int)) * (0 + (i : Int)) = sq at k3 ⊢
    rw [e46]
    have w1 : (st + (0 + (i : Int))).natAbs.log2 < 300 := log2_small (by omega) (by decide)
    have w2 : ((sq + 3 * (0 + (i : Int)) + 1) * (982451653 * 10 ^ 46 + 39)).natAbs.log2 < 300 := log2_small (by omega) (by decide)
    refine ⟨by show _ + _ < _; omega, p59, .inl (by decide), by decide, ?_⟩
    rw [e59]
    have vm0 := Int.emod_nonneg ((st + (0 + (i : Int))) * ((sq + 3 * (0 + (i : Int)) + 1) * (982451653 * 10 ^ 46 + 39))) (show ((5 : Int) * 10 ^ 59) ≠ 0 by decide)
    have vm1 := Int.emod_lt_of_pos ((st + (0 + (i : Int))) * ((sq + 3 * (0 + (i : Int)) + 1) * (982451653 * 10 ^ 46 + 39))) (show (0 : Int) < 5 * 10 ^ 59 by decide)
    generalize (st + (0 + (i : Int))) * ((sq + 3 * (0 + (i : Int)) + 1) * (982451653 * 10 ^ 46 + 39)) % (5 * 10 ^ 59) = hv at vm0 vm1 ⊢
    refine ⟨_, _, same_l s2 hP, at_nat (j := i) (by omega) ev, kvs, Sum.inr g, hd, rfl, szl (by omega), fun H3 c3 t3 => ?_⟩
    have s3 := same_chd s2 c3 n1
    have l3 := putK_len kvs (Sum.inr g) (.int hv)
    have f3 := high_put eg hf vm0 vm1
    refine ⟨by decide, ⟨fun _ => ?_, fun _ => ⟨s3, _, _, _, _, t3, by omega, f3, rfl⟩⟩⟩
    refine ⟨.inl (by omega), by decide, _, _, same_l s3 hP, at_nat (j := i) (by omega) ev, _, Sum.inr g, t3, rfl, szl (by omega), fun H4 c4 t4 => ?_⟩
    have l4 := putK_len (putK kvs (Sum.inr g) (.int hv)) (Sum.inr g) (.int ((0 + (i : Int)) * (0 + (i : Int)) % 3))
    refine ⟨same_chd s3 c4 n1, _, fun z => if z = g then (0 + (i : Int)) * (0 + (i : Int)) % 3 else (if z = g then hv else f z), _, _, t4, by omega, fun z hz => ?_, rfl⟩
    have k := f3 z hz
    dsimp only
    rw [valV_put]
    by_cases e : z = g
    · subst e
      rw [if_pos rfl, if_pos rfl]
      have g0 := Int.emod_nonneg ((0 + (i : Int)) * (0 + (i : Int))) (show (3 : Int) ≠ 0 by decide)
      have g1 := Int.emod_lt_of_pos ((0 + (i : Int)) * (0 + (i : Int))) (show (0 : Int) < 3 by decide)
      exact ⟨rfl, g0, by omega⟩
    · rw [if_neg e, if_neg (fun q => e (Sum.inr.inj q))]
      exact k
  · rintro σ H2 ⟨s2, kvs, f, x, y, hd, hkl, hf, rfl⟩
    have e : ((pool.map V.str).length : Int).toNat = pool.length := by omega
    rw [e] at hkl hf
    rw [List.take_length] at hf
    exact q d f H2 n1 s2 ⟨kvs, hd, hkl, hf⟩
/-! ### _law_sighting -/
abbrev N__law_sighting : List Str := ["_law_some", "_law_highs_here", "_law_cell", "_law_k", "_law_number", "_law_one", "_law_other", "_law_way_here", "_law_rise_here"]
def sp__law_sighting (K : PySem.W.Frag) : Sp := fun vs H Q _ => ∃ (p d : Addr) (pool : List Str) (f : Str → Int) (c k : Int), vs = [.ref p, .ref d, .int c, .int k] ∧ SqL K H p (pool.map V.str) ∧ pool ≠ [] ∧ pool.length ≤ 24 ∧ HighAt H d pool f ∧
  ∀ (t : Addr) (s : Sg) (H' : Hp), H t = none → Same H H' → H' t = some (.tup (sgV s)) → s.1 ∈ pool → s.2.1 ∈ pool → Bnd s.2.2 → Q (.ref t) H'
def t__law_sighting (K : PySem.W.Frag) : TS :=
  (tSeq (tAsg (tOp kAdd (tOp kMod (tOp kAdd (uVar 2) (uVar 3)) (tC (.int 2147483629))) (tC (.int 1))) (gName 4))
  (tSeq (tAsg (tOp (cIxL K) (uVar 0) (tOp kMod (tOp kMod (tOp kMul (uVar 4) (tC (.int 48271))) (tC (.int 1000003))) (tCB (cLenQ K) (tCons (uVar 0) tNil)))) (gName 5))
  (tSeq (tAsg (tOp (cIxL K) (uVar 0) (tOp kMod (tOp kMod (tOp kMul (uVar 4) (tC (.int 69621))) (tC (.int 999983))) (tCB (cLenQ K) (tCons (uVar 0) tNil)))) (gName 6))
  (tSeq (tAsg (tOp kMod (tOp kMod (tOp kMul (uVar 4) (tC (.int 40692))) (tC (.int 999979))) (tC (.int 6))) (gName 7))
  (tSeq (tAsg (tOp kSub (uDGet (uVar 1) (uVar 6)) (uDGet (uVar 1) (uVar 5))) (gName 8))
  (Evl.tCut (uIfS (uT (tOp kEqI (uVar 7) (tC (.int 4))))
  (tAsg (tOp kSub (tOp kAdd (uVar 8) (tC (.int 1))) (tOp kMul (tC (.int 2)) (tOp kMod (uVar 4) (tC (.int 2))))) (gName 8))
  tNext)
  (Evl.tCut (uIfS (uT (tOp kEqI (uVar 7) (tC (.int 5))))
  (tAsg (tOp kSub (tOp kMod (uVar 2) (tOp kSub (tOp kMul (tC (.int 2)) (tOp kPow (tC (.int 10)) (tC (.int 60)))) (tC (.int 1)))) (tOp kSub (tOp kPow (tC (.int 10)) (tC (.int 60))) (tC (.int 1)))) (gName 8))
  tNext)
  (tRet (uTup (tCons (uVar 5) (tCons (uVar 6) (tCons (uVar 8) tNil))))))))))))
theorem rd__law_sighting {K : PySem.W.Frag} {vs : List V} {H : Hp} {Q : VK} {E : XK} (h : sp__law_sighting K vs H Q E) : t__law_sighting K { nx := fun _ H' => Q .non H', rt := Q } (start N__law_sighting vs) H := by
  obtain ⟨p, d, pool, f, c, k, rfl, hP, ne, hlen, hd, q⟩ := h
  have pl : (pool.map V.str).length = pool.length := List.length_map ..
  have pos : 0 < pool.length := List.length_pos_iff.mpr ne
  have p60 : CPow 10 60 := ⟨by decide, by decide, by decide⟩
  have e60 : (10 : Int) ^ (60 : Int).toNat = 10 ^ 60 := rfl
  refine ⟨by decide, ?_⟩
  have n0 : 0 ≤ (c + k) % 2147483629 := by omega
  have n1 : (c + k) % 2147483629 < 2147483629 := by omega
  generalize (c + k) % 2147483629 = n at n0 n1 ⊢
  have one : ∀ x : Int, ∃ z, z ∈ pool ∧ atI (pool.map V.str) (x % ((pool.map V.str).length : Int)) = some (.str z) := fun x => by
    rw [pl]
    exact at_map V.str (xs := pool) (Int.emod_nonneg _ (by omega)) (Int.emod_lt_of_pos _ (by omega))
  obtain ⟨z1, m1, e1⟩ := one ((n + 1) * 48271 % 1000003)
  obtain ⟨z2, m2, e2⟩ := one ((n + 1) * 69621 % 999983)
  have b1 := hd.bnd m1
  have b2 := hd.bnd m2
  refine ⟨.inr (by decide), by decide, _, .inl hP, by rw [pl]; omega, _, _, hP, e1, .inr (by decide), by decide, _, .inl hP, by rw [pl]; omega, _, _, hP, e2, .inr (by decide), by decide, by decide, _, hd.dget m2, _, hd.dget m1, ?_⟩
  generalize (n + 1) * 40692 % 999979 % 6 = way
  refine ⟨fun σ' H' => H' = H ∧ ∃ r : Int, (-(5 * 10 ^ 59) ≤ r ∧ r ≤ 5 * 10 ^ 59) ∧ σ' = [some (.ref p), some (.ref d), some (.int c), some (.int k), some (.int (n + 1)), some (.str z1), some (.str z2), some (.int way), some (.int r)], ⟨fun _ => ⟨by decide, .inl (by decide), rfl, _, ⟨by omega, by omega⟩, rfl⟩, fun _ => ⟨rfl, _, ⟨by omega, by omega⟩, rfl⟩⟩, ?_⟩
  rintro σ' H' ⟨rfl, r, ⟨r0, r1⟩, rfl⟩
  refine ⟨fun σ' H1 => H1 = H' ∧ ∃ r : Int, Bnd r ∧ σ' = [some (.ref p), some (.ref d), some (.int c), some (.int k), some (.int (n + 1)), some (.str z1), some (.str z2), some (.int way), some (.int r)], ⟨fun _ => ⟨p60, .inl (by decide), by decide, p60, rfl, _, ?_, rfl⟩, fun _ => ⟨rfl, _, ⟨by omega, by omega⟩, rfl⟩⟩, ?_⟩
  · rw [e60]
    have g0 := Int.emod_nonneg c (show ((2 : Int) * 10 ^ 60 - 1) ≠ 0 by decide)
    have g1 := Int.emod_lt_of_pos c (show (0 : Int) < 2 * 10 ^ 60 - 1 by decide)
    generalize c % (2 * 10 ^ 60 - 1) = x at g0 g1 ⊢
    exact ⟨by omega, by omega⟩
  rintro σ' H1 ⟨rfl, r, br, rfl⟩
  exact ⟨szr rfl, fun t H2 n2 s2 t2 => q t (z1, z2, r) H2 n2 s2 t2 m1 m2 br⟩
/-! ### _law_tops -/
abbrev N__law_tops : List Str := ["_law_rows_here", "_law_tops_here", "_law_row", "_law_peg", "_law_first", "_law_second", "_law_gap_here"]
def sp__law_tops (K : PySem.W.Frag) : Sp := fun vs H Q _ => ∃ (p : Addr) (xs : List V) (rows : List Row) (f : Str → Int), vs = [.ref p] ∧ SqL K H p xs ∧ DpAll K H xs (rows.map rowD) ∧ (∀ r ∈ rows, r.rise = f r.other - f r.one) ∧ rows.length ≤ 1000 ∧
  ∀ (d : Addr) (T : Tops) (H' : Hp), H d = none → Same H H' → TopAt K H' d T → TopOf rows T → Q (.ref d) H'
def lp1__law_tops (K : PySem.W.Frag) : TS :=
  (tFor (iList K (uLst (tCons (tOp (cIxT K) (uVar 2) (tC (.int 1))) (tCons (tOp (cIxT K) (uVar 2) (tC (.int 2))) tNil)))) (gName 3)
  (uIfS (uT (uDIn false (uVar 3) (uVar 1)))
  (uDPut (uVar 1) (uVar 3) (uTup (tCons (uVar 3) (tCons (tC (.int 0)) tNil))))
  tNext))
def lp2__law_tops (K : PySem.W.Frag) : TS :=
  (tFor (iList K (tCB cListD (tCons (uVar 1) tNil))) (gName 3)
  (uIfS (uT (tOp kEqS (tOp (cIxT K) (uDGet (uVar 1) (uVar 3)) (tC (.int 0))) (tOp (cIxT K) (uVar 5) (tC (.int 0)))))
  (uDPut (uVar 1) (uVar 3) (uTup (tCons (tOp (cIxT K) (uVar 4) (tC (.int 0))) (tCons (tOp kAdd (tOp (cIxT K) (uDGet (uVar 1) (uVar 3)) (tC (.int 1))) (uVar 6)) tNil))))
  tNext))
def lp3__law_tops (K : PySem.W.Frag) : TS :=
  (tFor (iList K (uVar 0)) (gName 2)
  (tSeq (lp1__law_tops K)
  (tSeq (tAsg (uDGet (uVar 1) (tOp (cIxT K) (uVar 2) (tC (.int 1)))) (gName 4))
  (tSeq (tAsg (uDGet (uVar 1) (tOp (cIxT K) (uVar 2) (tC (.int 2)))) (gName 5))
  (uIfS (uT (tOp kNeS (tOp (cIxT K) (uVar 4) (tC (.int 0))) (tOp (cIxT K) (uVar 5) (tC (.int 0)))))
  (tSeq (tAsg (tOp kSub (tOp kAdd (tOp (cIxT K) (uVar 4) (tC (.int 1))) (tOp (cIxT K) (uVar 2) (tC (.int 3)))) (tOp (cIxT K) (uVar 5) (tC (.int 1)))) (gName 6))
  (lp2__law_tops K))
  tNext)))))
def t__law_tops (K : PySem.W.Frag) : TS :=
  (tSeq (tAsg uDNew (gName 1))
  (tSeq (lp3__law_tops K)
  (tRet (uVar 1))))
theorem rd__law_tops {K : PySem.W.Frag} {vs : List V} {H : Hp} {Q : VK} {E : XK} (h : sp__law_tops K vs H Q E) : t__law_tops K { nx := fun _ H' => Q .non H', rt := Q } (start N__law_tops vs) H := by
  obtain ⟨p, xs, rows, f, rfl, hp, al, ag, hlen, q⟩ := h
  intro d H1 n1 s1 t1
  have hx : xs.length = rows.length := by rw [dpAll_length al, List.length_map]
  refine ⟨p, rfl, ⟨_, same_l s1 hp⟩, for_list (K := K) (a := p) (xs := xs) (fun i σ H' => Same H H' ∧ ∃ (T : Tops) (w2 w3 w4 w5 w6 : Option V), TopAt K H' d T ∧ TopOf (rows.take i) T ∧ T.D.length ≤ 2 * i ∧ σ = [some (.ref p), some (.ref d), w2, w3, w4, w5, w6]) ⟨s1, Tops.nil, none, none, none, none, none, ⟨[], t1, rfl, fun z h => (by cases h)⟩, TopOf.nil, Nat.le_refl _, rfl⟩ (fun i σ H' _ h => same_l h.1 hp) ?_ ?_⟩
  · rintro i x σ H2 e ⟨s2, T, w2, w3, w4, w5, w6, hT, tT, lT, rfl⟩
    obtain ⟨dd, hd, dx⟩ := dpAll_get al e
    rw [List.getElem?_map] at hd
    obtain ⟨r, er, rfl⟩ := Option.map_eq_some_iff.mp hd
    have hi : i < rows.length := (List.getElem?_eq_some_iff.mp er).1
    obtain ⟨t, rfl, ht⟩ := row_at dx
    refine ⟨_, _, same_t s2 ht, rfl, _, _, same_t s2 ht, rfl, szr rfl, fun lp H3 n3 s3 t3 => ?_⟩
    have nlp : lp ≠ d := fun z => by
      obtain ⟨kvs, hk, _⟩ := hT
      rw [z] at n3
      rw [hk] at n3
      cases n3
    have hT3 := hT.mono s3
    have step : ∀ (T' : Tops) (z : Str) (H' : Hp) (w4 w5 w6 : Option V) (P : L2.St → Hp → Prop) (D : Ends), D.nx = P → Chd d H3 H' → TopAt K H' d T' → (¬ z ∈ T'.D → T'.rt z = z ∧ T'.of z = 0) → T'.D.length ≤ 90000 →
        (∀ H'', Chd d H3 H'' → TopAt K H'' d (T'.ens z) → P [some (.ref p), some (.ref d), some (.ref t), some (.str z), w4, w5, w6] H'') →
        (uIfS (uT (uDIn false (uVar 3) (uVar 1))) (uDPut (uVar 1) (uVar 3) (uTup (tCons (uVar 3) (tCons (tC (.int 0)) tNil)))) tNext) D [some (.ref p), some (.ref d), some (.ref t), some (.str z), w4, w5, w6] H' := fun T' z H' w4 w5 w6 P D eD c hT' o l k => by
      subst eD
      by_cases hz : z ∈ T'.D
      · obtain ⟨tt, dg, _⟩ := hT'.get hz
        exact ⟨_, dg, br_f (k H' c (hT'.same_ens hz))⟩
      · refine ⟨_, hT'.no hz, br_t ⟨szr rfl, fun t4 H4 n4 s4 t4' => ?_⟩⟩
        obtain ⟨kvs, hk, kl⟩ := (hT'.mono s4).size
        exact ⟨kvs, Sum.inr z, hk, rfl, szl (by omega), fun H5 c5 t5 => k H5 (chd_trans (chd_same c s4) c5) ((hT'.mono s4).put_new hz (o hz) hk (SqT.of t4') c5 t5)⟩
    have out1 : ¬ r.one ∈ T.D → T.rt r.one = r.one ∧ T.of r.one = 0 := fun h => tT.out _ h
    have out2 : ¬ r.other ∈ (T.ens r.one).D → (T.ens r.one).rt r.other = r.other ∧ (T.ens r.one).of r.other = 0 := fun h => by
      rw [Tops.ens_rt, Tops.ens_of]
      exact tT.out _ fun m => h ((Tops.ens_mem _ _ _).mpr (.inl m))
    have l1 := Tops.ens_len T r.one
    refine ⟨lp, rfl, ⟨_, SqL.of t3⟩, for_list (K := K) (a := lp) (xs := [.str r.one, .str r.other]) (fun j σ H' => Chd d H3 H' ∧ ∃ w3, TopAt K H' d (match j with | 0 => T | 1 => T.ens r.one | _ => T.both r) ∧ σ = [some (.ref p), some (.ref d), some (.ref t), w3, w4, w5, w6]) ⟨fun b o _ h => h, _, hT3, rfl⟩ (fun j σ H' _ h => SqL.of (h.1 _ _ nlp t3)) ?_ ?_⟩
    · rintro j x σ H4 ej ⟨c4, w3, hT4, rfl⟩
      match j, ej, hT4 with
      | 0, ej, hT4 =>
        cases ej
        exact step T r.one H4 _ _ _ _ _ rfl c4 hT4 out1 (by omega) fun H5 c5 h5 => ⟨c5, _, h5, rfl⟩
      | 1, ej, hT4 =>
        cases ej
        exact step (T.ens r.one) r.other H4 _ _ _ _ _ rfl c4 hT4 out2 (by omega) fun H5 c5 h5 => ⟨c5, _, h5, rfl⟩
    · rintro σ H4 ⟨c4, w3, hT4, rfl⟩
      have hT4 : TopAt K H4 d (T.both r) := hT4
      have s4 : Same H H4 := same_chd (s2.trans s3) c4 n1
      have ht4 := same_t s4 ht
      have m1 : r.one ∈ (T.both r).D := (Tops.both_mem _ _ _).mpr (.inr (.inl rfl))
      have m2 : r.other ∈ (T.both r).D := (Tops.both_mem _ _ _).mpr (.inr (.inr rfl))
      have ert : (T.both r).rt = T.rt := by unfold Tops.both; rw [Tops.ens_rt, Tops.ens_rt]
      have eof : (T.both r).of = T.of := by unfold Tops.both; rw [Tops.ens_of, Tops.ens_of]
      have etk : rows.take (i + 1) = rows.take i ++ [r] := by rw [List.take_add_one, er]; rfl
      have top : TopOf (rows.take (i + 1)) (T.lay r) := by
        rw [etk]
        refine tT.lay r fun y g => ?_
        obtain ⟨⟨ss, w⟩, all⟩ := tT.gap_some g
        rw [← all ss w, way_sum (fun s hs => ag s (List.mem_of_mem_take hs)) w]
        exact (ag r (List.mem_of_getElem? er)).symm
      have ll := Tops.lay_len T r
      obtain ⟨ta, dg1, qa⟩ := hT4.get m1
      obtain ⟨tb, dg2, qb⟩ := hT4.get m2
      rw [ert, eof] at qa qb
      refine ⟨_, _, ht4, rfl, _, dg1, _, _, ht4, rfl, _, dg2, _, _, qa, rfl, _, _, qb, rfl, ⟨fun e => ?_, fun e => ?_⟩⟩
      · have e : ¬ T.rt r.one = T.rt r.other := by simpa using e
        have elay : T.lay r = ⟨(T.both r).D, fun z => if T.rt z = T.rt r.other then T.rt r.one else T.rt z, fun z => if T.rt z = T.rt r.other then T.of z + (T.of r.one + r.rise - T.of r.other) else T.of z⟩ := by
          unfold Tops.lay
          rw [if_neg e]
        refine ⟨_, _, qa, rfl, _, _, ht4, rfl, _, _, qb, rfl, ?_⟩
        obtain ⟨kvs, hk, hkeys, _⟩ := id hT4
        have ek : (kvs.map fun kv => kV kv.1) = (T.both r).D.map V.str := by
          have z : (kvs.map fun kv => kV kv.1) = (kvs.map (·.1)).map kV := by rw [List.map_map]; rfl
          rw [z, hkeys, List.map_map]
          rfl
        have nd : (T.both r).D.Nodup := by
          have z := top.nd
          rw [elay] at z
          exact z
        refine ⟨kvs, .inl hk, fun kp H5 n5 s5 t5 => ?_⟩
        rw [ek] at t5
        have nkp : kp ≠ d := fun z => by
          rw [z, hk] at n5
          cases n5
        let Tj : Nat → Tops := fun j => ⟨(T.both r).D, fun z => if z ∈ (T.both r).D.take j ∧ T.rt z = T.rt r.other then T.rt r.one else T.rt z, fun z => if z ∈ (T.both r).D.take j ∧ T.rt z = T.rt r.other then T.of z + (T.of r.one + r.rise - T.of r.other) else T.of z⟩
        refine ⟨kp, rfl, ⟨_, SqL.of t5⟩, for_list (K := K) (a := kp) (xs := (T.both r).D.map V.str) (fun j σ H' => Chd d H5 H' ∧ ∃ w3, TopAt K H' d (Tj j) ∧ σ = [some (.ref p), some (.ref d), some (.ref t), w3, some (.ref ta), some (.ref tb), some (.int (T.of r.one + r.rise - T.of r.other))]) ⟨fun b o _ h => h, _, (hT4.mono s5).congr rfl fun z _ => ?_, rfl⟩ (fun j σ H' _ h => SqL.of (h.1 _ _ nkp t5)) ?_ ?_⟩
        · have z0 : ¬ (z ∈ (T.both r).D.take 0 ∧ T.rt z = T.rt r.other) := fun h => absurd h.1 (by rw [List.take_zero]; exact List.not_mem_nil)
          exact ⟨(if_neg (t := T.rt r.one) z0).trans (congrFun ert z).symm, (if_neg (t := T.of z + (T.of r.one + r.rise - T.of r.other)) z0).trans (congrFun eof z).symm⟩
        · rintro j x σ H6 ej ⟨c6, w3, hT6, rfl⟩
          rw [List.getElem?_map] at ej
          obtain ⟨z, ez, rfl⟩ := Option.map_eq_some_iff.mp ej
          have hz : z ∈ (T.both r).D := List.mem_of_getElem? ez
          have mem_tk : ∀ y, y ∈ (T.both r).D.take (j + 1) ↔ y ∈ (T.both r).D.take j ∨ y = z := fun y => by
            rw [List.take_add_one, ez]
            show y ∈ _ ++ [z] ↔ _
            rw [List.mem_append, List.mem_singleton]
          have znot : ¬ z ∈ (T.both r).D.take j := fun m => by
            have hj : j < (T.both r).D.length := (List.getElem?_eq_some_iff.mp ez).1
            have e1 : (T.both r).D[j] = z := (List.getElem?_eq_some_iff.mp ez).2
            have nd2 := nd
            rw [← List.take_append_drop j (T.both r).D, List.nodup_append] at nd2
            refine nd2.2.2 z m z ?_ rfl
            rw [List.drop_eq_getElem_cons hj, e1]
            exact List.mem_cons_self ..
          obtain ⟨tz, dgz, qz⟩ := hT6.get hz
          have qz : SqT K H6 tz [.str (T.rt z), .int (T.of z)] := by
            have e1 : (Tj j).rt z = T.rt z := if_neg fun h => znot h.1
            have e2 : (Tj j).of z = T.of z := if_neg fun h => znot h.1
            rw [e1, e2] at qz
            exact qz
          have tp : Tups H5 H6 := tups_chd c6 (s5 _ _ hk) True.intro
          have qa6 := tups_t tp (same_t s5 qa)
          have qb6 := tups_t tp (same_t s5 qb)
          refine ⟨_, dgz, _, _, qz, rfl, _, _, qb6, rfl, ⟨fun ee => ?_, fun ee => ?_⟩⟩
          · have ee : T.rt z = T.rt r.other := of_decide_eq_true ee
            refine ⟨_, _, qa6, rfl, _, dgz, _, _, qz, rfl, szr rfl, fun tn H7 n7 s7 t7 => ?_⟩
            obtain ⟨kvs7, hk7, kl7⟩ := (hT6.mono s7).size
            have kl7 : kvs7.length = (T.both r).D.length := kl7
            have lb : (T.both r).D.length ≤ T.D.length + 2 := by
              have z := ll
              rw [elay] at z
              exact z
            refine ⟨kvs7, Sum.inr z, hk7, rfl, szl (by omega), fun H8 c8 t8 => ⟨chd_trans (chd_same c6 s7) c8, _, ((hT6.mono s7).put_old hz hk7 (SqT.of t7) c8 t8).congr rfl fun y hy => ?_, rfl⟩⟩
            show (if y ∈ (T.both r).D.take (j + 1) ∧ T.rt y = T.rt r.other then T.rt r.one else T.rt y) = (if y = z then T.rt r.one else (if y ∈ (T.both r).D.take j ∧ T.rt y = T.rt r.other then T.rt r.one else T.rt y)) ∧
              (if y ∈ (T.both r).D.take (j + 1) ∧ T.rt y = T.rt r.other then T.of y + (T.of r.one + r.rise - T.of r.other) else T.of y) = (if y = z then T.of z + (T.of r.one + r.rise - T.of r.other) else (if y ∈ (T.both r).D.take j ∧ T.rt y = T.rt r.other then T.of y + (T.of r.one + r.rise - T.of r.other) else T.of y))
            by_cases yz : y = z
            · subst yz
              rw [if_pos ⟨(mem_tk y).mpr (.inr rfl), ee⟩, if_pos rfl, if_pos ⟨(mem_tk y).mpr (.inr rfl), ee⟩, if_pos rfl]
              exact ⟨rfl, rfl⟩
            · have k : y ∈ (T.both r).D.take (j + 1) ↔ y ∈ (T.both r).D.take j := by
                rw [mem_tk]
                exact ⟨fun h => h.elim id fun e => absurd e yz, .inl⟩
              simp only [k, if_neg yz]
              exact ⟨trivial, trivial⟩
          · have ee : ¬ T.rt z = T.rt r.other := of_decide_eq_false ee
            refine ⟨c6, _, hT6.congr rfl fun y hy => ?_, rfl⟩
            show (if y ∈ (T.both r).D.take (j + 1) ∧ T.rt y = T.rt r.other then T.rt r.one else T.rt y) = (if y ∈ (T.both r).D.take j ∧ T.rt y = T.rt r.other then T.rt r.one else T.rt y) ∧
              (if y ∈ (T.both r).D.take (j + 1) ∧ T.rt y = T.rt r.other then T.of y + (T.of r.one + r.rise - T.of r.other) else T.of y) = (if y ∈ (T.both r).D.take j ∧ T.rt y = T.rt r.other then T.of y + (T.of r.one + r.rise - T.of r.other) else T.of y)
            by_cases yz : y = z
            · subst yz
              rw [if_neg fun h => ee h.2, if_neg fun h => ee h.2, if_neg fun h => ee h.2, if_neg fun h => ee h.2]
              exact ⟨rfl, rfl⟩
            · have k : y ∈ (T.both r).D.take (j + 1) ↔ y ∈ (T.both r).D.take j := by
                rw [mem_tk]
                exact ⟨fun h => h.elim id fun e => absurd e yz, .inl⟩
              simp only [k]
              exact ⟨trivial, trivial⟩
        · rintro σ H6 ⟨c6, w3, hT6, rfl⟩
          refine ⟨same_chd (s4.trans s5) c6 n1, T.lay r, _, _, _, _, _, hT6.congr (by rw [elay]) fun z hz => ?_, top, by omega, rfl⟩
          have hz : z ∈ (T.both r).D := hz
          have zt : z ∈ (T.both r).D.take ((T.both r).D.map V.str).length := by
            rw [List.length_map, List.take_length]
            exact hz
          rw [elay]
          show (if _ then _ else _) = (if _ then _ else _) ∧ (if _ then _ else _) = (if _ then _ else _)
          by_cases c : T.rt z = T.rt r.other
          · rw [if_pos c, if_pos ⟨zt, c⟩, if_pos c, if_pos ⟨zt, c⟩]
            exact ⟨rfl, rfl⟩
          · rw [if_neg c, if_neg fun h => c h.2, if_neg c, if_neg fun h => c h.2]
            exact ⟨rfl, rfl⟩
      · have e : T.rt r.one = T.rt r.other := by simpa using e
        have elay : T.lay r = T.both r := by
          unfold Tops.lay
          rw [if_pos e]
        exact ⟨s4, T.lay r, _, _, _, _, _, by rw [elay]; exact hT4, top, by omega, rfl⟩
  · rintro σ H2 ⟨s2, T, w2, w3, w4, w5, w6, hT, tT, lT, rfl⟩
    rw [hx, List.take_length] at tT
    exact q d T H2 n1 s2 hT tT
/-! ### _law_gap -/
abbrev N__law_gap : List Str := ["_law_tops_here", "_law_one", "_law_other"]
def sp__law_gap (K : PySem.W.Frag) : Sp := fun vs H Q _ => ∃ (d : Addr) (T : Tops) (rows : List Row) (one other : Str), vs = [.ref d, .str one, .str other] ∧ TopAt K H d T ∧ TopOf rows T ∧ Q (gapV (T.gap one other)) H
def t__law_gap (K : PySem.W.Frag) : TS :=
  (tSeq (uIfS (uT (tOp kEqS (uVar 1) (uVar 2)))
  (tRet (tC (.int 0)))
  tNext)
  (tSeq (uIfS (uOr (uT (uDIn false (uVar 1) (uVar 0))) (uOr (uT (uDIn false (uVar 2) (uVar 0))) (uT (tOp kNeS (tOp (cIxT K) (uDGet (uVar 0) (uVar 1)) (tC (.int 0))) (tOp (cIxT K) (uDGet (uVar 0) (uVar 2)) (tC (.int 0)))))))
  (tRet (tC .non))
  tNext)
  (tRet (tOp kSub (tOp (cIxT K) (uDGet (uVar 0) (uVar 2)) (tC (.int 1))) (tOp (cIxT K) (uDGet (uVar 0) (uVar 1)) (tC (.int 1)))))))
theorem rd__law_gap {K : PySem.W.Frag} {vs : List V} {H : Hp} {Q : VK} {E : XK} (h : sp__law_gap K vs H Q E) : t__law_gap K { nx := fun _ H' => Q .non H', rt := Q } (start N__law_gap vs) H := by
  obtain ⟨d, T, rows, one, other, rfl, hd, ht, q⟩ := h
  refine ⟨fun e => ?_, fun e => ?_⟩
  · have e := of_decide_eq_true e
    subst e
    have g : T.gap one one = some 0 := by
      unfold Tops.gap
      rw [if_pos rfl, Int.sub_self]
    rw [g] at q
    exact q
  have e := of_decide_eq_false e
  by_cases h1 : one ∈ T.D
  · obtain ⟨t1, d1, q1⟩ := hd.get h1
    refine ⟨_, d1, br_f ?_⟩
    by_cases h2 : other ∈ T.D
    · obtain ⟨t2, d2, q2⟩ := hd.get h2
      refine ⟨_, d2, br_f ⟨_, d1, _, _, q1, rfl, _, d2, _, _, q2, rfl, ⟨fun z => ?_, fun z => ?_⟩⟩⟩
      · have z : ¬ T.rt one = T.rt other := by simpa using z
        have g : T.gap one other = none := by
          unfold Tops.gap
          rw [if_neg z]
        rw [g] at q
        exact q
      · have z : T.rt one = T.rt other := by simpa using z
        have g : T.gap one other = some (T.of other - T.of one) := by
          unfold Tops.gap
          rw [if_pos z]
        rw [g] at q
        exact ⟨_, d2, _, _, q2, rfl, _, d1, _, _, q1, rfl, q⟩
    · refine ⟨_, hd.no h2, br_t (br_t ?_)⟩
      rw [ht.gap_out e (.inr h2)] at q
      exact q
  · refine ⟨_, hd.no h1, br_t (br_t ?_)⟩
    rw [ht.gap_out e (.inl h1)] at q
    exact q
/-! ### _law_step -/
abbrev N__law_step : List Str := ["_law_step_here", "_law_rows_here"]
def sp__law_step (K : PySem.W.Frag) : Sp := fun vs H Q _ => ∃ (v w : V) (s : Row) (rows : List Row), vs = [v, w] ∧ Dp K H v (rowD s) ∧ Dp K H w (rowsD rows) ∧ (∀ r ∈ rows, r.Ok) ∧ s.Ok ∧ IsStep rows s ∧ ∀ (H' : Hp), Same H H' → Q (.bl true) H'
def t__law_step (K : PySem.W.Frag) : TS :=
  (tSeq (uIfS (uOr (uNot (uT (tCB (cIsi K) (tCons (uVar 0) (tCons (tC (.ty "tuple")) tNil))))) (uOr (uT (tOp kNeI (tCB (cLenQ K) (tCons (uVar 0) tNil)) (tC (.int 4)))) (uOr (uNot (uT (tCall (sp__law_whole K) [] E0 (tCons (tOp (cIxT K) (uVar 0) (tC (.int 0))) tNil)))) (uNot (uT (tCall (sp__law_whole K) [] E0 (tCons (tOp (cIxT K) (uVar 0) (tC (.int 3))) tNil)))))))
  (tRet (tC (.bl false)))
  tNext)
  (tRet (uOrV (tOp (rInD K) (uVar 0) (uVar 1)) (tOp (rInD K) (uTup (tCons (tOp (cIxT K) (uVar 0) (tC (.int 0))) (tCons (tOp (cIxT K) (uVar 0) (tC (.int 2))) (tCons (tOp (cIxT K) (uVar 0) (tC (.int 1))) (tCons (tOp kSub (tC (.int 0)) (tOp (cIxT K) (uVar 0) (tC (.int 3)))) tNil))))) (uVar 1)))))
theorem rd__law_step {K : PySem.W.Frag} {vs : List V} {H : Hp} {Q : VK} {E : XK} (h : sp__law_step K vs H Q E) : t__law_step K { nx := fun _ H' => Q .non H', rt := Q } (start N__law_step vs) H := by
  obtain ⟨v, w, s, rows, rfl, hs, hw, ok, sk, st, q⟩ := h
  obtain ⟨t, rfl, ht⟩ := row_at hs
  refine ⟨"tuple", true, ty_tup ht, by decide +kernel, br_f ⟨_, .inr ht, br_f ⟨_, _, ht, rfl, _, _, rfl, .int s.n, br_f ⟨_, _, ht, rfl, _, _, rfl, .int s.rise, br_f ?_⟩⟩⟩⟩
  refine ⟨rowD s, rows.map rowD, hs, hw, rowD_shaped sk, rowsD_shaped ok, ?_⟩
  rw [any_row]
  refine ⟨fun _ => q H (Same.refl H), fun e => ?_⟩
  have e := of_decide_eq_false e
  refine ⟨_, _, ht, rfl, _, _, ht, rfl, _, _, ht, rfl, _, _, ht, rfl, szr rfl, fun p H1 n1 s1 t1 => ⟨rowD s.turn, rows.map rowD, row_mk (SqT.of t1), dp_mono s1 hw, rowD_shaped ⟨sk.2, sk.1⟩, rowsD_shaped ok, ?_⟩⟩
  rw [any_row, decide_eq_true (show s.turn ∈ rows from st.resolve_left e)]
  exact q H1 s1
/-! ### _law_way -/
abbrev N__law_way : List Str := ["_law_found", "_law_rows_here", "_law_one", "_law_other", "_law_seen", "_law_at", "_law_step_here"]
def sp__law_way (K : PySem.W.Frag) : Sp := fun vs H Q _ => ∃ (p : Addr) (w : V) (one other : Str) (xs : List V) (ss rows : List Row), vs = [.ref p, w, .str one, .str other] ∧ SqL K H p xs ∧ DpAll K H xs (ss.map rowD) ∧ Dp K H w (rowsD rows) ∧ (∀ r ∈ rows, r.Ok) ∧ Way rows one ss other ∧ Simple ss other ∧ ss.length ≤ 2001 ∧ ∀ (H' : Hp), Same H H' → Q (.bl true) H'
def lp1__law_way (K : PySem.W.Frag) : TS :=
  (tFor (iList K (uVar 0)) (gName 6)
  (tSeq (uIfS (uOr (uNot (uT (tCall (sp__law_step K) [] E0 (tCons (uVar 6) (tCons (uVar 1) tNil))))) (uOr (uT (tOp kNeS (tOp (cIxT K) (uVar 6) (tC (.int 1))) (uVar 5))) (uT (uDIn true (uVar 5) (uVar 4)))))
  (tRet (tC (.bl false)))
  tNext)
  (tSeq (uDPut (uVar 4) (uVar 5) (tC (.bl true)))
  (tAsg (tOp (cIxT K) (uVar 6) (tC (.int 2))) (gName 5)))))
def t__law_way (K : PySem.W.Frag) : TS :=
  (tSeq (uIfS (uNot (uT (tCB (cIsi K) (tCons (uVar 0) (tCons (tC (.ty "list")) tNil)))))
  (tRet (tC (.bl false)))
  tNext)
  (tSeq (tAsg uDNew (gName 4))
  (tSeq (tAsg (uVar 2) (gName 5))
  (tSeq (lp1__law_way K)
  (tRet (uAndV (tOp kEqS (uVar 5) (uVar 3)) (uDIn false (uVar 5) (uVar 4))))))))
theorem Way.at {rows : List Row} {a b : Str} {ss : List Row} (w : Way rows a ss b) : (ss.map Row.one ++ [b])[0]? = some a ∧ ∀ (i : Nat) (s : Row), ss[i]? = some s → IsStep rows s ∧ (ss.map Row.one ++ [b])[i]? = some s.one ∧ (ss.map Row.one ++ [b])[i + 1]? = some s.other := by
  induction w with
  | nil a => exact ⟨rfl, fun i s e => by simp at e⟩
  | @cons s ss b h t ih =>
    refine ⟨rfl, fun i s' e => ?_⟩
    cases i with
    | zero =>
      have e : s = s' := by simpa using e
      subst e
      exact ⟨h, rfl, by simpa using ih.1⟩
    | succ i =>
      obtain ⟨h1, h2, h3⟩ := ih.2 i s' (by simpa using e)
      exact ⟨h1, by simpa using h2, by simpa using h3⟩
theorem IsStep.ok {rows : List Row} {s : Row} (h : IsStep rows s) (ok : ∀ r ∈ rows, r.Ok) : s.Ok := by
  rcases h with h | h
  · exact ok s h
  · exact ⟨(ok _ h).2, (ok _ h).1⟩
theorem not_in_take {α : Type} {l : List α} (nd : l.Nodup) {i : Nat} {x : α} (h : l[i]? = some x) : ¬ x ∈ l.take i := fun m => by
  obtain ⟨j, hj, e⟩ := List.mem_take_iff_getElem.mp m
  obtain ⟨hi, e2⟩ := List.getElem?_eq_some_iff.mp h
  have := (List.getElem_inj nd).mp (e.trans e2.symm)
  omega
theorem rd__law_way {K : PySem.W.Frag} {vs : List V} {H : Hp} {Q : VK} {E : XK} (h : sp__law_way K vs H Q E) : t__law_way K { nx := fun _ H' => Q .non H', rt := Q } (start N__law_way vs) H := by
  obtain ⟨p, w, one, other, xs, ss, rows, rfl, hl, al, hw, ok, W, S, hn, q⟩ := h
  have hxl : xs.length = ss.length := by rw [dpAll_length al, List.length_map]
  obtain ⟨w0, wa⟩ := W.at
  refine ⟨"list", true, ty_lst hl, by decide +kernel, br_f ?_⟩
  intro g H1 n1 s1 t1
  refine ⟨p, rfl, ⟨_, same_l s1 hl⟩, for_list (K := K) (a := p) (xs := xs) (fun i σ H' => Same H H' ∧ ∃ (h : Str) (kvs : List (Key × V)) (x : Option V), (ss.map Row.one ++ [other])[i]? = some h ∧ H' g = some (.dK kvs) ∧ kvs.length ≤ i ∧ (∀ z, ¬ z ∈ (ss.map Row.one ++ [other]).take i → valV kvs (Sum.inr z) = none) ∧ σ = [some (.ref p), some w, some (.str one), some (.str other), some (.ref g), some (.str h), x])
    ⟨s1, one, [], none, w0, t1, Nat.le_refl _, fun z _ => rfl, rfl⟩ (fun i σ H' _ h => same_l h.1 hl) ?_ ?_⟩
  · rintro i v σ H2 e ⟨s2, h, kvs, x, eh, hg, kl, hv, rfl⟩
    have hi : i < xs.length := (List.getElem?_eq_some_iff.mp e).1
    obtain ⟨dd, hd, dx⟩ := dpAll_get al e
    rw [List.getElem?_map] at hd
    obtain ⟨s, es, rfl⟩ := Option.map_eq_some_iff.mp hd
    obtain ⟨st, e1, e2⟩ := wa i s es
    rw [e1] at eh
    cases eh
    obtain ⟨t, rfl, ht⟩ := row_at dx
    refine ⟨_, _, s, rows, rfl, dp_mono s2 dx, dp_mono s2 hw, ok, st.ok ok, st, fun H3 s3 => br_f ?_⟩
    have s23 := s2.trans s3
    refine ⟨_, _, same_t s23 ht, rfl, br_ff (by simp) ⟨_, DGet.k (k := Sum.inr s.one) (s3 _ _ hg), br_ff (by rw [hv _ (not_in_take S e1)]; rfl) ?_⟩⟩
    refine ⟨kvs, Sum.inr s.one, s3 _ _ hg, rfl, szl (by omega), fun H4 c4 t4 => ?_⟩
    have s4 := same_chd s23 c4 n1
    refine ⟨_, _, same_t s4 ht, rfl, s4, _, _, _, e2, t4, Nat.le_trans (putK_len ..) (by omega), fun z hz => ?_, rfl⟩
    rw [List.take_add_one, e1] at hz
    have h1 : ¬ z = s.one := fun k => hz (List.mem_append_right _ (by rw [k]; simp))
    rw [valV_put, if_neg fun k => h1 (Sum.inr.inj k)]
    exact hv z fun m => hz (List.mem_append_left _ m)
  · rintro σ H2 ⟨s2, h, kvs, x, eh, hg, kl, hv, rfl⟩
    have e : (ss.map Row.one ++ [other])[xs.length]? = some other := by
      rw [hxl, List.getElem?_append_right (by rw [List.length_map]; exact Nat.le_refl _)]
      simp
    rw [e] at eh
    cases eh
    refine br_tt (decide_eq_true rfl) ⟨_, DGet.k (k := Sum.inr other) hg, ?_⟩
    rw [hv _ (not_in_take S e)]
    exact q H2 s2
/-! ### _law_kind -/
abbrev N__law_kind : List Str := ["_law_e", "_law_some", "_law_words", "_law_found", "_law_k"]
def kindOf : Er → Str
  | .sighting => "sighting"
  | .full => "full"
  | .against => "against"
  | .number => "number"
  | .way => "way"
  | .text => "text"
def kinds : List Er := [.sighting, .full, .against, .number, .way, .text]
def sp__law_kind (K : PySem.W.Frag) (A : Ad) : Sp := fun vs H Q _ => ∃ (a : Addr) (d : Option Addr) (e : Er), vs = [.ref a] ∧ H a = some (ErO (.ref (A.er e)) d a) ∧ DictOk H d ∧ ∀ H', Same H H' → Q (.str (kindOf e)) H'
def t__law_kind (K : PySem.W.Frag) (A : Ad) : TS :=
  (tSeq (tAsg (uLst (tCons (tCB (cIsX K) (tCons (uVar 0) (tCons (tC (.ref A.NoSighting)) tNil))) (tCons (tCB (cIsX K) (tCons (uVar 0) (tCons (tC (.ref A.Full)) tNil))) (tCons (tCB (cIsX K) (tCons (uVar 0) (tCons (tC (.ref A.Against)) tNil))) (tCons (tCB (cIsX K) (tCons (uVar 0) (tCons (tC (.ref A.NoNumber)) tNil))) tNil))))) (gName 1))
  (tSeq (tAsg (tOp cCat (uVar 1) (uLst (tCons (tCB (cIsX K) (tCons (uVar 0) (tCons (tC (.ref A.NoWay)) tNil))) (tCons (tCB (cIsX K) (tCons (uVar 0) (tCons (tC (.ref A.NoText)) tNil))) tNil)))) (gName 1))
  (tSeq (tAsg (uLst (tCons (tC (.str "sighting")) (tCons (tC (.str "full")) (tCons (tC (.str "against")) (tCons (tC (.str "number")) (tCons (tC (.str "way")) (tCons (tC (.str "text")) tNil))))))) (gName 2))
  (tSeq (tAsg (uLc (iRng1 (tCons (tC (.int 6)) tNil)) (gName 4) (uT (tOp (cIxL K) (uVar 1) (uVar 4))) (tOp (cIxL K) (uVar 2) (uVar 4)) [4]) (gName 3))
  (tSeq (uIfS (uOr (uT (tOp kNeI (tCB (cLenQ K) (tCons (uVar 3) tNil)) (tC (.int 1)))) (uNot (uT (tCB (cIsX K) (tCons (uVar 0) (tCons (tC (.ty "ValueError")) tNil))))))
  (tRet (tC (.str "odd")))
  tNext)
  (tRet (tOp (cIxL K) (uVar 3) (tC (.int 0)))))))))
theorem dictOk_mono {H H' : Hp} {d : Option Addr} (s : Same H H') (h : DictOk H d) : DictOk H' d := by
  cases d with
  | none => exact True.intro
  | some dd =>
    obtain ⟨fs, h⟩ := h
    exact ⟨fs, s _ _ h⟩
theorem rd__law_kind {K : PySem.W.Frag} {A : Ad} (T : Tx K A) {vs : List V} {H : Hp} {Q : VK} {E : XK} (h : sp__law_kind K A vs H Q E) : t__law_kind K A { nx := fun _ H' => Q .non H', rt := Q } (start N__law_kind vs) H := by
  obtain ⟨a, d, e, rfl, ha, hd, q⟩ := h
  refine ⟨A.er e, d, _, _, ha, hd, T.exc e, .own _, T.kit e .sighting, A.er e, d, _, _, ha, hd, T.exc e, .own _, T.kit e .full, A.er e, d, _, _, ha, hd, T.exc e, .own _, T.kit e .against, A.er e, d, _, _, ha, hd, T.exc e, .own _, T.kit e .number, szr rfl, fun p1 H1 n1 s1 t1 => ?_⟩
  have ha1 := s1 _ _ ha
  have hd1 := dictOk_mono s1 hd
  refine ⟨A.er e, d, _, _, ha1, hd1, T.exc e, .own _, T.kit e .way, A.er e, d, _, _, ha1, hd1, T.exc e, .own _, T.kit e .text, szr rfl, fun p2 H2 n2 s2 t2 => ⟨_, _, s2 _ _ t1, t2, szr rfl, fun p3 H3 n3 s3 t3 => ?_⟩⟩
  have s03 := (s1.trans s2).trans s3
  refine ⟨szr rfl, fun p4 H4 n4 s4 t4 => ?_⟩
  have t34 := s4 _ _ t3
  have at1 : ∀ (i : Nat) (c : Er), kinds[i]? = some c → ([V.bl (decide (e = .sighting)), .bl (decide (e = .full)), .bl (decide (e = .against)), .bl (decide (e = .number))] ++ [V.bl (decide (e = .way)), .bl (decide (e = .text))])[i]? = some (.bl (decide (e = c))) ∧
      ([V.str "sighting", .str "full", .str "against", .str "number", .str "way", .str "text"] : List V)[i]? = some (.str (kindOf c)) := fun i c h => by
    match i, h with
    | 0, h => cases h; exact ⟨rfl, rfl⟩
    | 1, h => cases h; exact ⟨rfl, rfl⟩
    | 2, h => cases h; exact ⟨rfl, rfl⟩
    | 3, h => cases h; exact ⟨rfl, rfl⟩
    | 4, h => cases h; exact ⟨rfl, rfl⟩
    | 5, h => cases h; exact ⟨rfl, rfl⟩
  have kat : ∀ i : Nat, i < 6 → ∃ c, kinds[i]? = some c := fun i hi => by
    match i, hi with
    | 0, _ => exact ⟨_, rfl⟩
    | 1, _ => exact ⟨_, rfl⟩
    | 2, _ => exact ⟨_, rfl⟩
    | 3, _ => exact ⟨_, rfl⟩
    | 4, _ => exact ⟨_, rfl⟩
    | 5, _ => exact ⟨_, rfl⟩
  refine lcd_range (K := K) (n := 6) (fun i => (kinds[i]?).bind fun c => if decide (e = c) then some (.str (kindOf c)) else none) (fun i dd h => ?_) (fun R k => k) (by omega) (fun x => rfl) (fun i H5 R hi s k => ?_) (fun i dd H5 R hi h s k => ?_) fun p5 H5 vs n5 s5 t5 a5 => ?_
  · obtain ⟨c, _, h⟩ := Option.bind_eq_some_iff.mp h
    split at h
    · cases h; exact TStay.str _
    · cases h
  · obtain ⟨c, hc⟩ := kat i hi
    refine ⟨_, _, SqL.of (s _ _ t34), at_nat (j := i) (by omega) (at1 i c hc).1, ?_⟩
    rw [hc] at k
    have k : R (if decide (e = c) = true then some (PyData.str (kindOf c)) else none).isSome H5 := k
    show R (decide (e = c)) H5
    cases z : decide (e = c) with
    | true => rw [if_pos z] at k; exact k
    | false => rw [if_neg (by rw [z]; exact Bool.false_ne_true)] at k; exact k
  · obtain ⟨c, hc⟩ := kat i hi
    rw [hc] at h
    have h : (if decide (e = c) = true then some (PyData.str (kindOf c)) else none) = some dd := h
    split at h
    · cases h
      exact ⟨_, _, SqL.of (s _ _ t4), at_nat (j := i) (by omega) (at1 i c hc).2, k _ H5 (Same.refl H5) (.str _)⟩
    · cases h
  · have ev : (List.range 6).filterMap (fun i => (kinds[i]?).bind fun c => if decide (e = c) then some (PyData.str (kindOf c)) else none) = [PyData.str (kindOf e)] := by
      cases e <;> rfl
    rw [ev] at a5
    have evs := dp_strs (ns := [kindOf e]) a5
    subst evs
    refine ⟨_, .inl (SqL.of t5), br_f ⟨A.er e, d, _, true, (s03.trans (s4.trans s5)) _ _ ha, dictOk_mono (s03.trans (s4.trans s5)) hd, T.exc e, .ty _, T.kitV e, br_f ⟨_, _, SqL.of t5, at_nat (j := 0) rfl rfl, q H5 (s03.trans (s4.trans s5))⟩⟩⟩
/-! ### _law_rows -/
abbrev N__law_rows : List Str := ["_law_found", "_law_rows_here", "_law_row"]
def sp__law_rows (K : PySem.W.Frag) : Sp := fun vs H Q _ => ∃ (v w : V) (rows : List Row), vs = [v, w] ∧ Dp K H v (rowsD rows) ∧ Dp K H w (rowsD rows) ∧ (∀ r ∈ rows, r.Ok) ∧ Q (.bl true) H
def lp1__law_rows (K : PySem.W.Frag) : TS :=
  (tFor (iList K (uVar 0)) (gName 2)
  (uIfS (uOr (uNot (uT (tCB (cIsi K) (tCons (uVar 2) (tCons (tC (.ty "tuple")) tNil))))) (uOr (uNot (uT (tCall (sp__law_whole K) [] E0 (tCons (tOp (cIxT K) (uVar 2) (tC (.int 0))) tNil)))) (uNot (uT (tCall (sp__law_whole K) [] E0 (tCons (tOp (cIxT K) (uVar 2) (tC (.int 3))) tNil))))))
  (tRet (tC (.bl false)))
  tNext))
def t__law_rows (K : PySem.W.Frag) : TS :=
  (tSeq (uIfS (uOr (uNot (uT (tCB (cIsi K) (tCons (uVar 0) (tCons (tC (.ty "list")) tNil))))) (uT (tOp (rNeD K) (uVar 0) (uVar 1))))
  (tRet (tC (.bl false)))
  tNext)
  (tSeq (lp1__law_rows K)
  (tRet (tC (.bl true)))))
theorem rowsD_eqv_self (rows : List Row) : PyData.eqv (rowsD rows) (rowsD rows) = true := by
  show PyData.eqv (.list _) (.list _) = true
  rw [PyData.eqv, rowsD_eqv]
  exact decide_eq_true rfl
theorem rd__law_rows {K : PySem.W.Frag} {vs : List V} {H : Hp} {Q : VK} {E : XK} (h : sp__law_rows K vs H Q E) : t__law_rows K { nx := fun _ H' => Q .non H', rt := Q } (start N__law_rows vs) H := by
  obtain ⟨v, w, rows, rfl, hv, hw, ok, q⟩ := h
  obtain ⟨a, xs, rfl, hl, al⟩ := dp_lst hv
  refine ⟨"list", true, ty_lst hl, by decide +kernel, br_f ⟨_, _, hv, hw, rowsD_shaped ok, rowsD_shaped ok, br_ff (by rw [rowsD_eqv_self]; rfl) ?_⟩⟩
  refine ⟨a, rfl, ⟨xs, hl⟩, for_list (K := K) (a := a) (xs := xs) (fun i σ H' => H' = H ∧ ∃ x, σ = [some (.ref a), some w, x]) ⟨rfl, _, rfl⟩ (fun i σ H' _ h => by rw [h.1]; exact hl) ?_ ?_⟩
  · rintro i x σ H' e ⟨rfl, z, rfl⟩
    obtain ⟨dd, hd, dx⟩ := dpAll_get al e
    rw [List.getElem?_map] at hd
    obtain ⟨r, er, rfl⟩ := Option.map_eq_some_iff.mp hd
    obtain ⟨t, rfl, ht⟩ := row_at dx
    exact ⟨"tuple", true, ty_tup ht, by decide +kernel, br_f ⟨_, _, ht, rfl, _, _, rfl, .int r.n, br_f ⟨_, _, ht, rfl, _, _, rfl, .int r.rise, br_f ⟨rfl, _, rfl⟩⟩⟩⟩
  · rintro σ H' ⟨rfl, z, rfl⟩
    exact q
/-! ### _law_part -/
abbrev N__law_part : List Str := ["_law_tops_here", "_law_one", "_law_peg"]
def sp__law_part (K : PySem.W.Frag) : Sp := fun vs H Q _ => ∃ (d : Addr) (T : Tops) (rows : List Row) (one : Str), vs = [.ref d, .str one] ∧ TopAt K H d T ∧ TopOf rows T ∧ T.D.length < 64 ∧
  ∀ (p : Addr) (H' : Hp) (ys : List Str), H p = none → Same H H' → H' p = some (.lst (ys.map V.str)) → ys.Nodup → sortedS ys = true → (∀ z, z ∈ ys ↔ Reach rows one z) → Q (.ref p) H'
def t__law_part (K : PySem.W.Frag) : TS :=
  (tSeq (uIfS (uT (uDIn false (uVar 1) (uVar 0)))
  (tRet (uLst (tCons (uVar 1) tNil)))
  tNext)
  (tRet (tCB (cSortedS K) (tCons (tLockE (uLc (iKeys (uVar 0)) (gName 2) (uT (tOp kEqS (tOp (cIxT K) (uDGet (uVar 0) (uVar 2)) (tC (.int 0))) (tOp (cIxT K) (uDGet (uVar 0) (uVar 1)) (tC (.int 0))))) (uVar 2) [2])) tNil))))
theorem rd__law_part {K : PySem.W.Frag} {vs : List V} {H : Hp} {Q : VK} {E : XK} (h : sp__law_part K vs H Q E) : t__law_part K { nx := fun _ H' => Q .non H', rt := Q } (start N__law_part vs) H := by
  obtain ⟨d, T, rows, one, rfl, hT, tT, lT, q⟩ := h
  by_cases m : one ∈ T.D
  · obtain ⟨t1, g1, _⟩ := hT.get m
    refine ⟨_, g1, br_f ?_⟩
    obtain ⟨kvs, hk, hkeys, hv⟩ := hT
    have hl : kvs.length = T.D.length := by
      have e := congrArg List.length hkeys
      rw [List.length_map, List.length_map] at e
      exact e
    have kat : ∀ {i : Nat} {k : Key} {v : V}, kvs[i]? = some (k, v) → ∃ z, T.D[i]? = some z ∧ k = Sum.inr z := fun {i k v} e => by
      have e1 : (kvs.map (·.1))[i]? = some k := by rw [List.getElem?_map, e]; rfl
      rw [hkeys, List.getElem?_map] at e1
      obtain ⟨z, ez, rfl⟩ := Option.map_eq_some_iff.mp e1
      exact ⟨z, ez, rfl⟩
    refine ⟨d, _, hk, True.intro, fun od => ?_⟩
    have tl : Tups H (upd H d (.frz od (.dK kvs))) := tups_lock hk
    refine lcd_keys (K := K) (d := d) (od := od) (kvs := kvs) (fun i => (T.D[i]?).bind fun z => if decide (T.rt z = T.rt one) then some (PyData.str z) else none) (fun i dd e => ?_) upd_same (fun R h => h) (by omega) (fun x => rfl) (fun i k v H1 R e s1 z => ?_) (fun i k v dd H1 R e ef s1 z => ?_) fun p H2 vs n2 s2 t2 a2 => ?_
    · cases es : T.D[i]? with
      | none => rw [es] at e; cases e
      | some s =>
        rw [es] at e
        have e : (if decide (T.rt s = T.rt one) = true then some (PyData.str s) else none) = some dd := e
        split at e
        · cases e; exact TStay.str s
        · cases e
    · obtain ⟨y, ey, rfl⟩ := kat e
      obtain ⟨ty, hy, qy⟩ := hv y (List.mem_of_getElem? ey)
      obtain ⟨to, ho, qo⟩ := hv one m
      have hd1 := s1 _ _ upd_same
      have qy1 := same_t s1 (tups_t tl qy)
      have qo1 := same_t s1 (tups_t tl qo)
      refine ⟨.ref ty, ?_, _, _, qy1, rfl, .ref to, ?_, _, _, qo1, rfl, ?_⟩
      · rw [← hy]; exact locked_get hd1 (Sum.inr y)
      · rw [← ho]; exact locked_get hd1 (Sum.inr one)
      rw [ey] at z
      have z : R (if decide (T.rt y = T.rt one) = true then some (PyData.str y) else none).isSome H1 := z
      show R (decide (T.rt y = T.rt one)) H1
      cases c : decide (T.rt y = T.rt one) with
      | true => rw [if_pos c] at z; exact z
      | false => rw [if_neg (by rw [c]; exact Bool.false_ne_true)] at z; exact z
    · obtain ⟨y, ey, rfl⟩ := kat e
      rw [ey] at ef
      have ef : (if decide (T.rt y = T.rt one) = true then some (PyData.str y) else none) = some dd := ef
      split at ef
      · cases ef
        exact z (.str y) H1 (Same.refl H1) (.str y)
      · cases ef
    · rw [hl, filt_at, filtMap] at a2
      have ev := dp_strs (a2 : DpAll K H2 vs ((T.D.filter fun z => decide (T.rt z = T.rt one)).map PyData.str))
      subst ev
      have pd : p ≠ d := fun z => by rw [z, upd_same] at n2; cases n2
      have s2' := same_unlock hk s2
      have np : H p = none := by
        rw [upd_ne pd] at n2
        exact n2
      refine ⟨s2 _ _ upd_same, T.D.filter fun z => decide (T.rt z = T.rt one), SqL.of (by rw [upd_ne pd]; exact t2), Nat.lt_of_le_of_lt (List.length_filter_le ..) lT, fun ys pm so => fun p3 H3 n3 s3 t3 => q p3 H3 ys (s2'.free n3) (s2'.trans s3) t3 (pm.nodup_iff.mpr (tT.nd.sublist (List.filter_sublist ..))) so fun z => ?_⟩
      rw [pm.mem_iff, List.mem_filter, decide_eq_true_eq]
      exact tT.part m z
  · refine ⟨_, hT.no m, br_t ⟨szr rfl, fun p H1 n1 s1 t1 => q p H1 [one] n1 s1 t1 (by simp) rfl fun z => ?_⟩⟩
    rw [List.mem_singleton]
    exact (tT.alone m z).symm
/-! ### _law_keep -/
abbrev N__law_keep : List Str := ["_law_held", "_law_told", "_law_copied", "_law_number"]
def Alike (d : PyData) : Prop := SeqAt.shaped d = true ∧ PyData.eqv d d = true
/-- pairs of lists held: each holds the same twice, apart from what changes -/
def HeldA (K : PySem.W.Frag) (l : List Addr) (H : Hp) (hs : List V) : Prop := ∀ v ∈ hs, ∃ d, Hold K l H v (.list [d, d]) ∧ Alike d
/-- the law's book, its own rows, its count, what it holds -/
structure BH (K : PySem.W.Frag) (A : Ad) (H : Hp) (b d R Ct hl : Addr) (most taken : Int) (rows : List Row) (m : Nat) : Prop where
  bs : BS K A H b d R Ct most taken rows
  hd : ∃ hs, H hl = some (.lst hs) ∧ hs.length ≤ m ∧ HeldA K [b, d, R, Ct, hl] H hs
  hR : hl ≠ R
  hC : hl ≠ Ct
def sp__law_keep (K : PySem.W.Frag) : Sp := fun vs H Q _ => ∃ (hl p q : Addr) (n : Int) (D : PyData) (xs hs : List V) (L : List Addr), vs = [.ref hl, .ref p, .ref q, .int n] ∧ H hl = some (.lst hs) ∧ hs.length ≤ 5000 ∧ H p = some (.lst xs) ∧ xs.length ≤ 50000 ∧ hl ∈ L ∧ hl ≠ p ∧ ¬ p ∈ L ∧ ¬ q ∈ L ∧ (∀ x ∈ L, ∃ o, H x = some o) ∧
  Hold K L H (.ref p) D ∧ Hold K L H (.ref q) D ∧ Alike D ∧ HeldA K (p :: L) H hs ∧
  ∀ (hs' : List V) (H' : Hp), ChdL [hl, p] H H' → Tups H H' → H' hl = some (.lst hs') → hs'.length ≤ hs.length + 1 → HeldA K L H' hs' → Q (.bl true) H'
def t__law_keep (K : PySem.W.Frag) : TS :=
  (Evl.tCut (uIfS (uT (tOp kEqI (tOp kMod (uVar 3) (tC (.int 2))) (tC (.int 0))))
  (tDrop (tBM K "list" cApp (uVar 0) (tCons (uLst (tCons (uVar 1) (tCons (uVar 2) tNil))) tNil)))
  (tDrop (tBM K "list" cApp (uVar 1) (tCons (tC .non) tNil))))
  (tRet (tC (.bl true))))
theorem HeldA.chd {K : PySem.W.Frag} {l : List Addr} {H H' : Hp} {hs : List V} (c : ChdL l H H') (h : HeldA K l H hs) : HeldA K l H' hs := fun v hv => let ⟨d, k, a⟩ := h v hv; ⟨d, k.chd c, a⟩
theorem HeldA.less {K : PySem.W.Frag} {l : List Addr} {p : Addr} {H : Hp} {hs : List V} (h : HeldA K (p :: l) H hs) : HeldA K l H hs := fun v hv => by
  obtain ⟨d, k, a⟩ := h v hv
  refine ⟨d, dp_mono (fun x o e => ?_) k, a⟩
  unfold cutH at e ⊢
  split at e
  · cases e
  · rename_i n
    rw [if_neg fun m => n (List.mem_cons_of_mem _ m)]
    exact e
/-- what H does not know is in no data held -/
theorem HeldA.more {K : PySem.W.Frag} {l : List Addr} {p : Addr} {H : Hp} {hs : List V} (n : H p = none) (h : HeldA K l H hs) : HeldA K (p :: l) H hs := fun v hv => by
  obtain ⟨d, k, a⟩ := h v hv
  refine ⟨d, dp_mono (fun x o e => ?_) k, a⟩
  unfold cutH at e ⊢
  split at e
  · cases e
  · rename_i m
    have xp : x ≠ p := fun z => by rw [z, n] at e; cases e
    rw [if_neg fun z => (List.mem_cons.mp z).elim xp m]
    exact e
theorem rd__law_keep {K : PySem.W.Frag} {vs : List V} {H : Hp} {Q : VK} {E : XK} (h : sp__law_keep K vs H Q E) : t__law_keep K { nx := fun _ H' => Q .non H', rt := Q } (start N__law_keep vs) H := by
  obtain ⟨hl, p, q, n, D, xs, hs, L, rfl, hh, h5, hp, hx, mh, hlp, pL, qL, inL, hD, hE, al, HH, qq⟩ := h
  refine ⟨fun σ' H' => Q (.bl true) H', ⟨by decide, ⟨fun _ => ?_, fun _ => ?_⟩⟩, fun σ' H' z => z⟩
  · refine ⟨.inl ⟨rfl, _, SqL.of hh⟩, szr rfl, fun t H1 n1 s1 t1 => ⟨hs, s1 _ _ hh, szl (by omega), fun H2 c2 t2 => ?_⟩⟩
    have th : t ≠ hl := fun z => by rw [z, hh] at n1; cases n1
    have c02 : ChdL [hl] H H2 := (ChdL.of s1).chd c2 (by simp)
    have cL : ChdL L H H2 := (ChdL.of s1).chd c2 mh
    refine qq _ H2 (c02.sub (by simp)) ((tups_of s1).trans (tups_chd c2 (s1 _ _ hh) True.intro)) t2 (by rw [List.length_append]; exact Nat.le_refl _) fun v hv => ?_
    rcases List.mem_append.mp hv with m | m
    · exact (HH.less.chd cL) v m
    · rw [List.mem_singleton.mp m]
      refine ⟨D, ?_, al⟩
      have tL : ¬ t ∈ L := fun m => by
        obtain ⟨o, e⟩ := inL t m
        rw [e] at n1
        cases n1
      exact Dp.lst (SqL.of (by rw [cutH_at tL]; exact c2 _ _ th t1)) (.cons (hD.chd cL) (.cons (hE.chd cL) .nil))
  · refine ⟨.inl ⟨rfl, _, SqL.of hp⟩, xs, hp, szl (by omega), fun H2 c2 t2 => ?_⟩
    refine qq hs H2 (ChdL.refl.chd c2 (by simp)) (tups_chd c2 hp True.intro) (c2 _ _ hlp hh) (Nat.le_succ _) ?_
    exact (HH.chd (ChdL.refl.chd c2 (by simp))).less

section
variable {K : PySem.W.Frag} {A : Ad} {H H1 H' : Hp} {b d R Ct hl : Addr} {most taken : Int} {rows : List Row} {m : Nat}
theorem BS.keepL {l : List Addr} (B : BS K A H b d R Ct most taken rows) (c : ChdL l H H') (tp : Tups H H') (n : ∀ x ∈ l, x ≠ b ∧ x ≠ d ∧ x ≠ R ∧ x ≠ Ct) : BS K A H' b d R Ct most taken rows := by
  obtain ⟨h1, ⟨xs, h2, h3⟩, h4, h5, h6, h7, h8, h9⟩ := B
  exact ⟨h1.keep tp (fun o e => c b o (fun z => (n b z).1 rfl) e) (fun o e => c d o (fun z => (n d z).2.1 rfl) e), ⟨xs, c R _ (fun z => (n R z).2.2.1 rfl) h2, prows_tups tp h3⟩, c Ct _ (fun z => (n Ct z).2.2.2 rfl) h4, h5, h6, h7, h8, h9⟩
theorem BH.nl (h : BH K A H b d R Ct hl most taken rows m) : hl ≠ b ∧ hl ≠ d ∧ hl ≠ R ∧ hl ≠ Ct := by
  obtain ⟨hs, hh, _⟩ := h.hd
  exact ⟨(h.bs.book.ne_lst hh).1.symm, (h.bs.book.ne_lst hh).2.symm, h.hR, h.hC⟩
theorem BH.inL (h : BH K A H b d R Ct hl most taken rows m) : ∀ x ∈ [b, d, R, Ct, hl], ∃ o, H x = some o ∧ Plain o := fun x hx => by
  obtain ⟨dx, h1⟩ := h.bs.book.ins
  obtain ⟨kvs, h2, _⟩ := h.bs.book.dict
  obtain ⟨xs, h3, _⟩ := h.bs.rl
  obtain ⟨hs, h4, _⟩ := h.hd
  simp only [List.mem_cons, List.not_mem_nil, or_false] at hx
  rcases hx with rfl | rfl | rfl | rfl | rfl
  · exact ⟨_, h1, True.intro⟩
  · exact ⟨_, h2, True.intro⟩
  · exact ⟨_, h3, True.intro⟩
  · exact ⟨_, h.bs.ct, True.intro⟩
  · exact ⟨_, h4, True.intro⟩
theorem BH.new (h : BH K A H b d R Ct hl most taken rows m) {p : Addr} (n : H p = none) : ¬ p ∈ [b, d, R, Ct, hl] := fun hp => by
  obtain ⟨o, e, _⟩ := h.inL p hp
  rw [e] at n
  cases n
theorem BH.mono (s : Same H H') (h : BH K A H b d R Ct hl most taken rows m) : BH K A H' b d R Ct hl most taken rows m := by
  obtain ⟨h1, ⟨hs, h2, h3, h4⟩, h5, h6⟩ := h
  exact ⟨h1.mono s, ⟨hs, s _ _ h2, h3, h4.chd (ChdL.of s)⟩, h5, h6⟩
theorem BH.more {m' : Nat} (h : BH K A H b d R Ct hl most taken rows m) (le : m ≤ m') : BH K A H b d R Ct hl most taken rows m' := by
  obtain ⟨h1, ⟨hs, h2, h3, h4⟩, h5, h6⟩ := h
  exact ⟨h1, ⟨hs, h2, Nat.le_trans h3 le, h4⟩, h5, h6⟩
/-- what was told is held beside a copy, or changed by the asker -/
theorem BH.keep {p q : Addr} {n : Int} {D : PyData} {xs : List V} {Q : VK} {E : XK} (B : BH K A H b d R Ct hl most taken rows m) (hm : m ≤ 4999) (s : Same H H1) (np : H p = none) (nq : H q = none) (hp : H1 p = some (.lst xs)) (hx : xs.length ≤ 50000)
    (hD : Hold K [b, d, R, Ct, hl] H1 (.ref p) D) (hE : Hold K [b, d, R, Ct, hl] H1 (.ref q) D) (al : Alike D) (k : ∀ H', ChdL [hl] H H' → Tups H H' → BH K A H' b d R Ct hl most taken rows (m + 1) → Q (.bl true) H') : sp__law_keep K [.ref hl, .ref p, .ref q, .int n] H1 Q E := by
  have B1 := B.mono s
  obtain ⟨hs, h2, h3, h4⟩ := B.hd
  have h21 := s _ _ h2
  have pn := B.new np
  refine ⟨hl, p, q, n, D, xs, hs, [b, d, R, Ct, hl], rfl, h21, by omega, hp, hx, by simp, fun z => pn (by rw [← z]; simp), pn, B.new nq, fun x hx => (B1.inL x hx).imp fun o e => e.1, hD, hE, al, (h4.more np).chd (ChdL.of s), fun hs' H' c tp hh' hl' HH' => ?_⟩
  obtain ⟨n1, n2, n3, n4⟩ := B.nl
  have pnn : p ≠ b ∧ p ≠ d ∧ p ≠ R ∧ p ≠ Ct := by
    simp only [List.mem_cons, List.not_mem_nil, or_false, not_or] at pn
    exact ⟨pn.1, pn.2.1, pn.2.2.1, pn.2.2.2.1⟩
  refine k H' (fun x o nx e => c x o (fun z => ?_) (s x o e)) ((tups_of s).trans tp) ⟨B1.bs.keepL c tp fun x hx => ?_, ⟨hs', hh', by omega, HH'⟩, B.hR, B.hC⟩
  · rcases List.mem_cons.mp z with z | z
    · exact nx (by rw [z]; simp)
    · rw [List.mem_singleton.mp z, np] at e
      cases e
  · rcases List.mem_cons.mp hx with z | z
    · rw [z]; exact ⟨n1, n2, n3, n4⟩
    · rw [List.mem_singleton.mp z]; exact pnn
end
theorem canAll_rows {ss : List Row} (h : ∀ s ∈ ss, s.Ok) : Alike (rowsD ss) := ⟨rowsD_shaped h, rowsD_eqv_self ss⟩
theorem Way.ok {rows : List Row} {a b : Str} {ss : List Row} (w : Way rows a ss b) (ok : ∀ r ∈ rows, r.Ok) : ∀ s ∈ ss, s.Ok := by
  induction w with
  | nil a => exact fun s h => (by cases h)
  | cons h t ih => exact fun s hs => (List.mem_cons.mp hs).elim (fun e => e ▸ h.ok ok) (ih s)
theorem tstay_rows (ss : List Row) : ∀ d ∈ ss.map rowD, TStay d := fun d hd => by
  obtain ⟨r, _, rfl⟩ := List.mem_map.mp hd
  exact TStay.row r
/-! ### _law_near -/
abbrev N__law_near : List Str := ["_law_refused", "_law_near_here", "_law_tops_here", "_law_one", "_law_held", "_law_number"]
def sp__law_near (K : PySem.W.Frag) (A : Ad) : Sp := fun vs H Q _ => ∃ (H0 : Hp) (a dd p td b d R Ct hl : Addr) (most taken n : Int) (rows : List Row) (m : Nat) (ys P : List Str) (T : Tops) (one : Str), vs = [.ref a, .ref p, .ref td, .str one, .ref hl, .int n] ∧ BH K A H0 b d R Ct hl most taken rows m ∧ m ≤ 4999 ∧ Same H0 H ∧ H0 p = none ∧
  H a = some (ErO (.ref (A.er .way)) (some dd) a) ∧ DictOk H (some dd) ∧ H p = some (.lst (ys.map V.str)) ∧ PartOf rows one ys ∧ TopAt K H td T ∧ TopOf rows T ∧ Pool P rows ∧ P.length < 64 ∧ Pg one ∧ one ∈ P ∧
  ∀ H', ChdL [hl] H0 H' → Tups H0 H' → BH K A H' b d R Ct hl most taken rows (m + 1) → Q (.bl true) H'
def t__law_near (K : PySem.W.Frag) (A : Ad) : TS :=
  (tSeq (uIfS (uOr (uT (tOp (cNon true) (uVar 0) (tC .non))) (uOr (uT (tOp kNeS (tCall (sp__law_kind K A) [] E0 (tCons (uVar 0) tNil)) (tC (.str "way")))) (uNot (uT (tCB (cIsi K) (tCons (uVar 1) (tCons (tC (.ty "list")) tNil)))))))
  (tRet (tC (.bl false)))
  tNext)
  (tRet (uAndV (tOp (rEqD K) (uVar 1) (tCall (sp__law_part K) [] E0 (tCons (uVar 2) (tCons (uVar 3) tNil)))) (tCall (sp__law_keep K) [] E0 (tCons (uVar 4) (tCons (uVar 1) (tCons (tCB (cList K) (tCons (uVar 1) tNil)) (tCons (tOp kDiv (uVar 5) (tC (.int 2))) tNil))))))))
theorem reach_pg {rows : List Row} (h : Pgs rows) {a z : Str} (ha : Pg a) (r : Reach rows a z) : Pg z := r.closed (S := Pg) (fun s st _ => by
  rcases st with st | st
  · exact (h s st).2
  · exact (h _ st).1) ha
theorem strs_alike {ys : List Str} (h : ∀ z ∈ ys, PyData.strOk z = true) : Alike (strsD ys) := ⟨strsD_shaped h, strs_eqv_self ys⟩
theorem rd__law_near {K : PySem.W.Frag} {A : Ad} (T : Tx K A) {vs : List V} {H : Hp} {Q : VK} {E : XK} (h : sp__law_near K A vs H Q E) : t__law_near K A { nx := fun _ H' => Q .non H', rt := Q } (start N__law_near vs) H := by
  obtain ⟨H0, a, dd, p, td, b, d, R, Ct, hl, most, taken, n, rows, m, ys, P, U, one, rfl, B, hm, s, np, ha, hdd, hp, py, hU, tU, hP, lP, pg, o1, q⟩ := h
  refine br_f ⟨a, some dd, .way, rfl, ha, hdd, fun H1 s1 => br_ff (by decide) ⟨"list", true, ty_lst (SqL.of (s1 _ _ hp)), by decide +kernel, br_f ?_⟩⟩
  have lD := Nat.lt_of_le_of_lt (tU.len hP) lP
  refine ⟨td, U, rows, one, rfl, hU.mono s1, tU, lD, fun p2 H2 zs n2 s2 t2 nd2 so2 mem2 => ?_⟩
  have e : ys = zs := py.uniq ⟨nd2, so2, mem2⟩
  subst e
  have ok : ∀ z ∈ ys, PyData.strOk z = true := fun z hz => (reach_pg B.bs.pgs pg ((py.mem z).mp hz)).ok
  have s12 := s1.trans s2
  refine ⟨strsD ys, strsD ys, strsD_mk (SqL.of (s12 _ _ hp)), strsD_mk (SqL.of t2), strsD_shaped ok, strsD_shaped ok, ?_⟩
  rw [strs_eqv_self]
  have hyl : ys.length ≤ 100 := by
    have : ys.length ≤ P.length := nodup_len py.nd fun z hz => reach_pool hP o1 ((py.mem z).mp hz)
    omega
  refine br_t ⟨_, .inl (SqL.of (s12 _ _ hp)), fun c3 H3 n3 s3 t3 => ⟨by decide, ?_⟩⟩
  have s03 := s.trans (s12.trans s3)
  have nc := (s.trans s12).free n3
  refine B.keep (E := E0) hm s03 np nc (s3 _ _ (s12 _ _ hp)) (by rw [List.length_map]; omega) (Hold.strs (B.new np) (s3 _ _ (s12 _ _ hp))) (Hold.strs (B.new nc) t3) (strs_alike ok) q
/-! ### _law_rise -/
abbrev N__law_rise : List Str := ["_law_book", "_law_tops_here", "_law_one", "_law_other", "_law_held", "_law_number", "_law_due", "_law_found", "_law_refused", "_law_near_here", "_law_e"]
def sp__law_rise (K : PySem.W.Frag) (A : Ad) : Sp := fun vs H Q _ => ∃ (td b d R Ct hl : Addr) (most taken n : Int) (rows : List Row) (m : Nat) (P : List Str) (T : Tops) (one other : Str), vs = [.ref b, .ref td, .str one, .str other, .ref hl, .int n] ∧ BH K A H b d R Ct hl most taken rows m ∧ m ≤ 4999 ∧
  TopAt K H td T ∧ TopOf rows T ∧ Pool P rows ∧ P.length < 64 ∧ Pg one ∧ Pg other ∧ one ∈ P ∧ rows.length ≤ 1000 ∧
  ∀ H', ChdL [hl] H H' → Tups H H' → BH K A H' b d R Ct hl most taken rows (m + 1) → Q (.bl true) H'
def t__law_rise (K : PySem.W.Frag) (A : Ad) : TS :=
  (tSeq (tAsg (tCall (sp__law_gap K) [] E0 (tCons (uVar 1) (tCons (uVar 2) (tCons (uVar 3) tNil)))) (gName 6))
  (tSeq (tAsg (tC .non) (gName 7))
  (tSeq (tAsg (tC .non) (gName 8))
  (tSeq (tAsg (uLst tNil) (gName 9))
  (Evl.tCut (uTryK K (.ref A.NoWay) 10 (fun a cls d => (tSeq (tAsg (uVar 10) (gName 8))
  (tAsg (tXf a cls d A.NoWay "near" (uVar 10)) (gName 9)))) (fun W => (tAsg (uMethS A.Book "rise" (sp_Book_rise K A) (WE W) (uVar 0) (tCons (uVar 2) (tCons (uVar 3) tNil))) (gName 7))))
  (tSeq (uIfS (uT (tOp (cNon true) (uVar 6) (tC .non)))
  (tRet (tCall (sp__law_near K A) [] E0 (tCons (uVar 8) (tCons (uVar 9) (tCons (uVar 1) (tCons (uVar 2) (tCons (uVar 4) (tCons (uVar 5) tNil))))))))
  tNext)
  (tRet (uAndV (tOp (cNon true) (uVar 8) (tC .non)) (uAndV (tCall (sp__law_whole K) [] E0 (tCons (uVar 7) tNil)) (tOp (rEqD K) (uVar 7) (uVar 6)))))))))))
theorem rd__law_rise {K : PySem.W.Frag} {A : Ad} (T : Tx K A) {vs : List V} {H : Hp} {Q : VK} {E : XK} (h : sp__law_rise K A vs H Q E) : t__law_rise K A { nx := fun _ H' => Q .non H', rt := Q } (start N__law_rise vs) H := by
  obtain ⟨td, b, d, R, Ct, hl, most, taken, n, rows, m, P, U, one, other, rfl, BB, hm, hU, tU, oP, lP, po, pt, o1, hlen, q⟩ := h
  refine ⟨td, U, rows, one, other, rfl, hU, tU, ?_⟩
  refine ⟨szr rfl, fun e0 H0 n0 s0 t0 => ?_⟩
  have B0 := BB.bs.book.mono s0
  obtain ⟨dx, hi⟩ := B0.ins
  refine ⟨fun σ H' => (∃ x, U.gap one other = some x ∧ σ = [some (.ref b), some (.ref td), some (.str one), some (.str other), some (.ref hl), some (.int n), some (gapV (U.gap one other)), some (.int x), some .non, some (.ref e0), none] ∧ Same H H') ∨
      (U.gap one other = none ∧ ∃ (a dd p : Addr) (ys : List Str), σ = [some (.ref b), some (.ref td), some (.str one), some (.str other), some (.ref hl), some (.int n), some (gapV (U.gap one other)), some .non, some (.ref a), some (.ref p), none] ∧ H' a = some (ErO (.ref (A.er .way)) (some dd) a) ∧ DictOk H' (some dd) ∧ Same H H' ∧ H p = none ∧
        H' p = some (.lst (ys.map V.str)) ∧ PartOf rows one ys), ?_, ?_⟩
  · refine ⟨⟨dx, _, hi, rfl⟩, b, d, most, taken, rows, .str one, .str other, rfl, B0, hlen, po.s7, pt.s7, fun e => ?_, fun o1' o2' e1 e2 _ => ?_⟩
    · have e : (pegS one && pegS other) = false := e
      rw [po.pegS, pt.pegS] at e
      cases e
    · cases V.str.inj e1
      cases V.str.inj e2
      refine ⟨P, o1, oP, lP, fun H1 ss s1 W => .inl ?_, fun nr H1 dd p ys np s1 hdd hp nd so mem => ?_⟩
      · cases g : U.gap one other with
        | none => exact absurd ⟨ss, W⟩ (tU.gap_none g)
        | some x =>
          have ex : total ss = x := (tU.gap_some g).2 ss W
          rw [ex]
          exact ⟨x, rfl, rfl, s0.trans s1⟩
      · refine ⟨true, T.slf .way, fun _ a na => ?_, fun z => nomatch z⟩
        refine ⟨rfl, rfl, dd, _, .ref p, rfl, hdd, rfl, fun H2 na2 s2 t2 => .inr ⟨(tU.gap_none_iff one other).mpr nr, a, dd, p, ys, rfl, t2, ⟨_, s2 _ _ hdd⟩, (s0.trans s1).trans s2, s0.free np, s2 _ _ hp, nd, so, mem⟩⟩
  · rintro σ H1 (⟨x, g, rfl, s1⟩ | ⟨g, a, dd, p, ys, rfl, ha, hdd, s1, np, hp, py⟩)
    · rw [g]
      refine br_f (br_t ⟨.int x, "int", rfl, .int _, br_t ⟨.int x, .int x, .int _, .int _, rfl, rfl, ?_⟩⟩)
      rw [int_eqv, decide_eq_true rfl]
      exact q H1 (ChdL.of s1) (tups_of s1) ((BB.mono s1).more (Nat.le_succ _))
    · rw [g]
      exact br_t ⟨H, a, dd, p, td, b, d, R, Ct, hl, most, taken, n, rows, m, ys, P, U, one, rfl, BB, hm, s1, np, ha, hdd, hp, py, hU.mono s1, tU, oP, lP, po, o1, q⟩
/-! ### _law_parts -/
abbrev N__law_parts : List Str := ["_law_tops_here", "_law_found", "_law_peg", "_law_part_here"]
def sp__law_parts (K : PySem.W.Frag) : Sp := fun vs H Q _ => ∃ (d : Addr) (T : Tops) (rows : List Row) (ys : List Str), vs = [.ref d] ∧ TopAt K H d T ∧ TopOf rows T ∧ T.D.length < 64 ∧ Pegs rows ys ∧
  ∀ (p : Addr) (H' : Hp) (xs : List V) (ps : List (List Str)), H p = none → Same H H' → H' p = some (.lst xs) → StrLs (fun _ => True) H' xs ps → PartsOf rows ys ps → Q (.ref p) H'
def lp1__law_parts (K : PySem.W.Frag) : TS :=
  (tFor (iList K (tCB cSortedD (tCons (uVar 0) tNil))) (gName 2)
  (tSeq (tAsg (tCall (sp__law_part K) [] E0 (tCons (uVar 0) (tCons (uVar 2) tNil))) (gName 3))
  (uIfS (uT (tOp kEqS (tOp (cIxL K) (uVar 3) (tC (.int 0))) (uVar 2)))
  (tDrop (tBM K "list" cApp (uVar 1) (tCons (uVar 3) tNil)))
  tNext)))
def t__law_parts (K : PySem.W.Frag) : TS :=
  (tSeq (tAsg (uLst tNil) (gName 1))
  (tSeq (lp1__law_parts K)
  (tRet (uVar 1))))
theorem TopOf.pegs {rows : List Row} {T : Tops} (h : TopOf rows T) {ys zs : List Str} (hy : Pegs rows ys) (pm : zs.Perm T.D) (so : sortedS zs = true) : zs = ys := sorted_eq so hy.so (pm.nodup_iff.mpr h.nd) hy.nd fun z => by rw [pm.mem_iff, h.dom, hy.mem]
theorem rd__law_parts {K : PySem.W.Frag} {vs : List V} {H : Hp} {Q : VK} {E : XK} (h : sp__law_parts K vs H Q E) : t__law_parts K { nx := fun _ H' => Q .non H', rt := Q } (start N__law_parts vs) H := by
  obtain ⟨d, T, rows, ys, rfl, hT, tT, lT, hy, q⟩ := h
  refine ⟨szr rfl, fun p H1 n1 s1 t1 => ?_⟩
  obtain ⟨kvs, hk, hkeys, _⟩ := hT.mono s1
  refine ⟨kvs, T.D, .inl hk, hkeys, lT, fun zs pm so l H2 n2 s2 t2 => ?_⟩
  have ez := tT.pegs hy pm so
  subst ez
  have nlp : l ≠ p := fun z => by rw [z, t1] at n2; cases n2
  refine ⟨l, rfl, ⟨_, SqL.of t2⟩, for_list (K := K) (a := l) (xs := zs.map V.str) (fun i σ H' => Chd p H2 H' ∧ ∃ (xs : List V) (ps : List (List Str)) (w2 w3 : Option V), H' p = some (.lst xs) ∧ xs.length ≤ i ∧ StrLs (fun q => q ≠ p) H' xs ps ∧ PartsOf rows (zs.take i) ps ∧ σ = [some (.ref d), some (.ref p), w2, w3]) ⟨fun b o _ h => h, [], [], none, none, s2 _ _ t1, Nat.le_refl _, .nil, .nil, rfl⟩ (fun i σ H' _ h => SqL.of (h.1 _ _ nlp t2)) ?_ ?_⟩
  · rintro i x σ H3 e ⟨c3, xs, ps, w2, w3, hp, hx, ls, po, rfl⟩
    rw [List.getElem?_map] at e
    obtain ⟨z, ez, rfl⟩ := Option.map_eq_some_iff.mp e
    have hi : i < zs.length := (List.getElem?_eq_some_iff.mp ez).1
    have zl : zs.length < 64 := by rw [pm.length_eq]; exact lT
    have s03 : Same H H3 := same_chd (s1.trans s2) c3 n1
    refine ⟨d, T, rows, z, rfl, hT.mono s03, tT, lT, fun q0 H4 part n4 s4 t4 nd4 so4 mem4 => ?_⟩
    have pz : PartOf rows z part := ⟨nd4, so4, mem4⟩
    obtain ⟨y, r, rfl⟩ := pz.ne
    have q0p : q0 ≠ p := fun w => by rw [w, hp] at n4; cases n4
    have etk : zs.take (i + 1) = zs.take i ++ [z] := by rw [List.take_add_one, ez]; rfl
    refine ⟨_, _, SqL.of t4, at_nat (j := 0) rfl rfl, ⟨fun eq => ?_, fun eq => ?_⟩⟩
    · have f : IsFst rows z := pz.head.mp (of_decide_eq_true eq)
      refine ⟨.inl ⟨rfl, _, SqL.of (s4 _ _ hp)⟩, xs, s4 _ _ hp, szl (by omega), fun H5 c5 t5 => ⟨chd_trans (chd_same c3 s4) c5, xs ++ [.ref q0], ps ++ [y :: r], _, _, t5, by rw [List.length_append]; exact Nat.succ_le_succ hx, ?_, ?_, rfl⟩⟩
      · exact (((ls.mono s4).chd c5 fun q n => n).snoc q0p (c5 _ _ q0p t4))
      · unfold PartsOf
        rw [etk, (firsts_snoc rows (zs.take i) z).1 f]
        exact Paired.snoc' po pz
    · have nf : ¬ IsFst rows z := fun f => (of_decide_eq_false eq) (pz.head.mpr f)
      refine ⟨chd_same c3 s4, xs, ps, _, _, s4 _ _ hp, Nat.le_succ_of_le hx, ls.mono s4, ?_, rfl⟩
      unfold PartsOf
      rw [etk, (firsts_snoc rows (zs.take i) z).2 nf]
      exact po
  · rintro σ H3 ⟨c3, xs, ps, w2, w3, hp, hx, ls, po, rfl⟩
    rw [List.length_map, List.take_length] at po
    exact q p H3 xs ps n1 (same_chd (s1.trans s2) c3 n1) hp (ls.imp fun _ _ => True.intro) po
/-! ### _law_alike -/
abbrev N__law_alike : List Str := ["_law_found", "_law_due", "_law_part_here"]
def sp__law_alike (K : PySem.W.Frag) : Sp := fun vs H Q _ => ∃ (N N' : Addr → Prop) (p w : Addr) (xs ys : List V) (ps : List (List Str)), vs = [.ref p, .ref w] ∧ H p = some (.lst xs) ∧ StrLs N H xs ps ∧ H w = some (.lst ys) ∧ StrLs N' H ys ps ∧ (∀ z ∈ ps, ∀ y ∈ z, PyData.strOk y = true) ∧ xs.length ≤ 1000 ∧ ∀ H', Same H H' → Q (.bl true) H'
def t__law_alike (K : PySem.W.Frag) : TS :=
  (tSeq (uIfS (uOr (uNot (uT (tCB (cIsi K) (tCons (uVar 0) (tCons (tC (.ty "list")) tNil))))) (uT (tOp (rNeD K) (uVar 0) (uVar 1))))
  (tRet (tC (.bl false)))
  tNext)
  (tRet (tOp (rEqD K) (uLc (iList K (uVar 0)) (gName 2) (uNot (uT (tCB (cIsi K) (tCons (uVar 2) (tCons (tC (.ty "list")) tNil))))) (uVar 2) [2]) (uLst tNil))))
theorem rd__law_alike {K : PySem.W.Frag} {vs : List V} {H : Hp} {Q : VK} {E : XK} (h : sp__law_alike K vs H Q E) : t__law_alike K { nx := fun _ H' => Q .non H', rt := Q } (start N__law_alike vs) H := by
  obtain ⟨N, N', p, w, xs, ys, ps, rfl, hp, lx, hw, ly, ok, hlen, q⟩ := h
  refine ⟨"list", true, ty_lst (SqL.of hp), by decide +kernel, br_f ⟨partsD ps, partsD ps, .lst (SqL.of hp) lx.dp, .lst (SqL.of hw) ly.dp, parts_shaped ok, parts_shaped ok, ?_⟩⟩
  rw [parts_eqv]
  refine br_f ?_
  refine lcd_list (K := K) (a := p) (xs := xs) (fun i => none) (fun i d h => (by cases h)) (SqL.of hp) (fun R h => h) (by omega) (fun x => rfl) (fun i x H1 R e s1 k => ?_) (fun i x d H1 R e h s1 k => (by cases h)) fun l H1 vs n1 s1 t1 a1 => ?_
  · obtain ⟨d, hd, dx⟩ := dpAll_get (K := K) lx.dp e
    rw [List.getElem?_map] at hd
    obtain ⟨z, ez, rfl⟩ := Option.map_eq_some_iff.mp hd
    obtain ⟨a, zs, rfl, hl, _⟩ := dp_lst (dp_mono s1 dx)
    exact ⟨"list", true, ty_lst hl, by decide +kernel, k⟩
  · have e0 : (List.range xs.length).filterMap (fun _ => (none : Option PyData)) = [] := by simp
    rw [e0] at a1
    obtain rfl := dpAll_nil a1
    refine ⟨szr rfl, fun l2 H2 n2 s2 t2 => ⟨.list [], .list [], .lst (SqL.of (s2 _ _ t1)) .nil, .lst (SqL.of t2) .nil, by decide, by decide, ?_⟩⟩
    have e1 : PyData.eqv (.list []) (.list []) = true := by simp [PyData.eqv, PyData.eqvAll]
    rw [e1]
    exact q H2 (s1.trans s2)
/-! ### _law_heights -/
abbrev N__law_heights : List Str := ["_law_found", "_law_rows_here", "_law_tops_here", "_law_highs_here", "_law_pair", "_law_row", "_law_part_here"]
def sp__law_heights (K : PySem.W.Frag) : Sp := fun vs H Q _ => ∃ (p R td : Addr) (xs : List V) (ys : List Str) (g : Str → Int) (rows : List Row) (T : Tops), vs = [.ref p, .ref R, .ref td] ∧ H p = some (.lst xs) ∧ DpAll K H xs (ys.map fun z => pairD z (g z)) ∧ Dp K H (.ref R) (rowsD rows) ∧ TopAt K H td T ∧ TopOf rows T ∧ T.D.length < 64 ∧ Pegs rows ys ∧ HeightsOf rows ys g ∧ Pgs rows ∧ rows.length ≤ 1000 ∧
  ∀ H', Same H H' → Q (.bl true) H'
def lp1__law_heights (K : PySem.W.Frag) : TS :=
  (tFor (iList K (uVar 0)) (gName 4)
  (tSeq (uIfS (uOr (uNot (uT (tCB (cIsi K) (tCons (uVar 4) (tCons (tC (.ty "tuple")) tNil))))) (uOr (uT (tOp kNeI (tCB (cLenQ K) (tCons (uVar 4) tNil)) (tC (.int 2)))) (uNot (uT (tCall (sp__law_whole K) [] E0 (tCons (tOp (cIxT K) (uVar 4) (tC (.int 1))) tNil))))))
  (tRet (tC (.bl false)))
  tNext)
  (uDPut (uVar 3) (tOp (cIxT K) (uVar 4) (tC (.int 0))) (tOp (cIxT K) (uVar 4) (tC (.int 1))))))
def lp2__law_heights (K : PySem.W.Frag) : TS :=
  (tFor (iList K (uVar 1)) (gName 5)
  (uIfS (uT (tOp kNeI (tOp kSub (uDGet (uVar 3) (tOp (cIxT K) (uVar 5) (tC (.int 2)))) (uDGet (uVar 3) (tOp (cIxT K) (uVar 5) (tC (.int 1))))) (tOp (cIxT K) (uVar 5) (tC (.int 3)))))
  (tRet (tC (.bl false)))
  tNext))
def lp3__law_heights (K : PySem.W.Frag) : TS :=
  (tFor (iList K (tCall (sp__law_parts K) [] E0 (tCons (uVar 2) tNil))) (gName 6)
  (uIfS (uT (tOp kNeI (uDGet (uVar 3) (tOp (cIxL K) (uVar 6) (tC (.int 0)))) (tC (.int 0))))
  (tRet (tC (.bl false)))
  tNext))
def t__law_heights (K : PySem.W.Frag) : TS :=
  (tSeq (uIfS (uNot (uT (tCB (cIsi K) (tCons (uVar 0) (tCons (tC (.ty "list")) tNil)))))
  (tRet (tC (.bl false)))
  tNext)
  (tSeq (tAsg uDNew (gName 3))
  (tSeq (lp1__law_heights K)
  (tSeq (uIfS (uT (tOp (rNeD K) (uLc (iList K (uVar 0)) (gName 4) tYes (tOp (cIxT K) (uVar 4) (tC (.int 0))) [4]) (tCB cSortedD (tCons (uVar 2) tNil))))
  (tRet (tC (.bl false)))
  tNext)
  (tSeq (lp2__law_heights K)
  (tSeq (lp3__law_heights K)
  (tRet (tC (.bl true)))))))))
theorem Pegs.ok {rows : List Row} {ys : List Str} (h : Pegs rows ys) (pg : Pgs rows) : ∀ z ∈ ys, PyData.strOk z = true := fun z hz => by
  obtain ⟨r, hr, e | e⟩ := (h.mem z).mp hz
  · rw [e]; exact (pg r hr).1.ok
  · rw [e]; exact (pg r hr).2.ok
theorem Paired.left {α β : Type} {R : α → β → Prop} : ∀ {xs : List α} {ys : List β}, Paired R xs ys → ∀ y ∈ ys, ∃ x ∈ xs, R x y
  | _, _, .nil, y, hy => by cases hy
  | _, _, .cons a t, y, hy => by
    rcases List.mem_cons.mp hy with e | hy
    · exact ⟨_, List.mem_cons_self .., e ▸ a⟩
    · obtain ⟨x, hx, r⟩ := Paired.left t y hy
      exact ⟨x, List.mem_cons_of_mem _ hx, r⟩
theorem rd__law_heights {K : PySem.W.Frag} {vs : List V} {H : Hp} {Q : VK} {E : XK} (h : sp__law_heights K vs H Q E) : t__law_heights K { nx := fun _ H' => Q .non H', rt := Q } (start N__law_heights vs) H := by
  obtain ⟨p, R, td, xs, ys, g, rows, T, rfl, hp, al, hR, hT, tT, lT, hy, hg, pgs, hlen, q⟩ := h
  have hxl : xs.length = ys.length := by rw [dpAll_length al, List.length_map]
  have yl : ys.length < 64 := by
    have := nodup_len hy.nd fun z hz => (tT.dom z).mpr ((hy.mem z).mp hz)
    omega
  refine ⟨"list", true, ty_lst (SqL.of hp), by decide +kernel, br_f ?_⟩
  intro hd H1 n1 s1 t1
  have nph : p ≠ hd := fun z => by rw [z] at hp; rw [hp] at n1; cases n1
  have hp1 := s1 _ _ hp
  refine ⟨p, rfl, ⟨_, SqL.of hp1⟩, for_list (K := K) (a := p) (xs := xs) (fun i σ H' => Chd hd H1 H' ∧ ∃ (kv : List (Key × V)) (w4 : Option V), H' hd = some (.dK kv) ∧ kv.length ≤ i ∧ (∀ z ∈ ys.take i, valV kv (Sum.inr z) = some (.int (g z))) ∧ σ = [some (.ref p), some (.ref R), some (.ref td), some (.ref hd), w4, none, none])
    ⟨fun b o _ h => h, [], none, t1, Nat.le_refl _, fun z h => (by rw [List.take_zero] at h; cases h), rfl⟩ (fun i σ H' _ h => SqL.of (h.1 _ _ nph hp1)) ?_ ?_⟩
  · rintro i x σ H2 e ⟨c2, kv, w4, hd2, hk, hv, rfl⟩
    obtain ⟨dd, hdd, dx⟩ := dpAll_get al e
    rw [List.getElem?_map] at hdd
    obtain ⟨z, ez, rfl⟩ := Option.map_eq_some_iff.mp hdd
    obtain ⟨t, rfl, ht⟩ := pair_at dx
    have ht2 := same_t (same_chd s1 c2 n1) ht
    have hi : i < ys.length := (List.getElem?_eq_some_iff.mp ez).1
    refine ⟨"tuple", true, ty_tup ht2, by decide +kernel, br_f ⟨_, .inr ht2, br_f ⟨_, _, ht2, rfl, .int (g z), "int", rfl, .int _, br_f ?_⟩⟩⟩
    refine ⟨_, _, ht2, rfl, _, _, ht2, rfl, kv, Sum.inr z, hd2, rfl, szl (by omega), fun H3 c3 t3 => ⟨chd_trans c2 c3, _, _, t3, Nat.le_trans (putK_len' ..) (by omega), fun y hy' => ?_, rfl⟩⟩
    rw [valV_put]
    by_cases c : y = z
    · rw [if_pos (by rw [c]), c]
    · rw [if_neg fun h => c (Sum.inr.inj h)]
      rw [List.take_add_one, ez] at hy'
      rcases List.mem_append.mp hy' with m | m
      · exact hv y m
      · exact absurd (by simpa using m) c
  · rintro σ H2 ⟨c2, kv, w4, hd2, hk, hv, rfl⟩
    rw [hxl, List.take_length] at hv
    have s02 := same_chd s1 c2 n1
    have hp2 := s02 _ _ hp
    have al2 := dpAll_mono s02 al
    refine lcd_list (K := K) (a := p) (xs := xs) (fun i => (ys[i]?).bind fun z => some (PyData.str z)) (fun i dd h => ?_) (SqL.of hp2) (fun R h => h) (by omega) (fun x => rfl) (fun i x H3 R e s3 k => ?_) (fun i x dd H3 R e h s3 k => ?_) fun l H3 vs n3 s3 t3 a3 => ?_
    · obtain ⟨z, _, e⟩ := Option.bind_eq_some_iff.mp h
      cases e
      exact TStay.str _
    · have hi : i < ys.length := by rw [← hxl]; exact (List.getElem?_eq_some_iff.mp e).1
      rw [List.getElem?_eq_getElem hi] at k
      exact k
    · obtain ⟨d2, hd2', dx⟩ := dpAll_get al2 e
      rw [List.getElem?_map] at hd2'
      obtain ⟨z, ez, rfl⟩ := Option.map_eq_some_iff.mp hd2'
      obtain ⟨t, rfl, ht⟩ := pair_at dx
      rw [ez] at h
      cases h
      exact ⟨_, _, same_t s3 ht, rfl, k _ H3 (Same.refl H3) (.str z)⟩
    · rw [hxl, filt_at] at a3
      have e1 : ys.filterMap (fun z => some (PyData.str z)) = ys.map PyData.str := by rw [List.filterMap_eq_map']
      rw [e1] at a3
      obtain rfl := dp_strs a3
      obtain ⟨kvs, hk3, hkeys, _⟩ := hT.mono (s02.trans s3)
      refine ⟨kvs, T.D, .inl hk3, hkeys, lT, fun zs pm so l2 H4 n4 s4 t4 => ?_⟩
      have ez := tT.pegs hy pm so
      subst ez
      have ok := hy.ok pgs
      refine ⟨strsD zs, strsD zs, strsD_mk (SqL.of (s4 _ _ t3)), strsD_mk (SqL.of t4), strsD_shaped ok, strsD_shaped ok, ?_⟩
      rw [strs_eqv_self]
      refine br_f ?_
      have s24 := s3.trans s4
      have s04 := s02.trans s24
      have hd4 := s24 _ _ hd2
      have get : ∀ {H' : Hp} {z : Str}, Same H4 H' → z ∈ zs → DGet H' hd (.str z) (some (.int (g z))) := fun {H' z} s hz => by
        rw [← hv z hz]
        exact DGet.k (k := Sum.inr z) (s _ _ hd4)
      obtain ⟨_, xr, er, hRl, alr⟩ := dp_lst (dp_mono s04 hR)
      cases er
      refine ⟨R, rfl, ⟨_, hRl⟩, for_list (K := K) (a := R) (xs := xr) (fun i σ H' => H' = H4 ∧ ∃ w5, σ = [some (.ref p), some (.ref R), some (.ref td), some (.ref hd), w4, w5, none]) ⟨rfl, none, rfl⟩ (fun i σ H' _ h => by rw [h.1]; exact hRl) ?_ ?_⟩
      · rintro i x σ H' e ⟨rfl, w5, rfl⟩
        obtain ⟨dd, hdd, dx⟩ := dpAll_get alr e
        rw [List.getElem?_map] at hdd
        obtain ⟨r, er, rfl⟩ := Option.map_eq_some_iff.mp hdd
        have hr : r ∈ rows := List.mem_of_getElem? er
        obtain ⟨t, rfl, ht⟩ := row_at dx
        have m1 : r.one ∈ zs := (hy.mem _).mpr ⟨r, hr, .inl rfl⟩
        have m2 : r.other ∈ zs := (hy.mem _).mpr ⟨r, hr, .inr rfl⟩
        refine ⟨_, _, ht, rfl, _, get (Same.refl _) m2, _, _, ht, rfl, _, get (Same.refl _) m1, _, _, ht, rfl, br_ff ?_ ⟨rfl, _, rfl⟩⟩
        rw [decide_eq_true (hg.rise r hr)]
        rfl
      · rintro σ H' ⟨rfl, w5, rfl⟩
        refine ⟨td, T, rows, zs, rfl, hT.mono s04, tT, lT, hy, fun lp H5 xp ps n5 s5 t5 lps po => ?_⟩
        refine ⟨lp, rfl, ⟨_, SqL.of t5⟩, for_list (K := K) (a := lp) (xs := xp) (fun i σ H' => H' = H5 ∧ ∃ w6, σ = [some (.ref p), some (.ref R), some (.ref td), some (.ref hd), w4, w5, w6]) ⟨rfl, none, rfl⟩ (fun i σ H' _ h => by rw [h.1]; exact SqL.of t5) ?_ ?_⟩
        · rintro i x σ H' e ⟨rfl, w6, rfl⟩
          have hl : xp.length = ps.length := Paired.length lps
          have hi : i < ps.length := by rw [← hl]; exact (List.getElem?_eq_some_iff.mp e).1
          obtain ⟨part, ep⟩ : ∃ part, ps[i]? = some part := ⟨_, List.getElem?_eq_getElem hi⟩
          obtain ⟨q0, rfl, _, hq⟩ := Paired.get2 lps e ep
          obtain ⟨z, hz, pz⟩ := Paired.left po part (List.mem_of_getElem? ep)
          have hz := mem_firsts.mp hz
          obtain ⟨y, r, rfl⟩ := pz.ne
          have ey := pz.head.mpr hz.2
          subst ey
          refine ⟨_, _, SqL.of hq, at_nat (j := 0) rfl rfl, _, get s5 hz.1, br_ff ?_ ⟨rfl, _, rfl⟩⟩
          rw [hg.zero _ hz.1 hz.2]
          rfl
        · rintro σ H' ⟨rfl, w6, rfl⟩
          exact q H' (s04.trans s5)
/-! ### _law_take -/
abbrev N__law_take : List Str := ["_law_book", "_law_rows_here", "_law_box", "_law_most", "_law_sighting_here", "_law_held", "_law_gap_here", "_law_due", "_law_found", "_law_refused", "_law_trail", "_law_e", "_law_step_here"]
def dueOf (T : Tops) (many most : Int) (s : Sg) : Str := if many = most then "full" else match T.gap s.1 s.2.1 with
  | none => "taken"
  | some x => if x = s.2.2 then "taken" else "against"
def dueW (o : Option Int) (c : Int) : Str := match o with
  | none => "taken"
  | some x => if x = c then "taken" else "against"
def sp__law_take (K : PySem.W.Frag) (A : Ad) : Sp := fun vs H Q _ => ∃ (b d R Ct hl s : Addr) (most taken : Int) (rows : List Row) (m : Nat) (P : List Str) (g : Sg), vs = [.ref b, .ref R, .ref Ct, .int most, .ref s, .ref hl] ∧ BH K A H b d R Ct hl most taken rows m ∧ m ≤ 4999 ∧ SqT K H s (sgV g) ∧ GoodS g ∧ g.1 ∈ P ∧ g.2.1 ∈ P ∧ Pool P rows ∧ rows.length ≤ 900 ∧
  ∀ (taken' : Int) (rows' : List Row) (H' : Hp), ChdL [b, d, R, Ct, hl] H H' → Tups H H' → BH K A H' b d R Ct hl most taken' rows' (m + 1) → Pool P rows' → rows'.length ≤ rows.length + 1 → taken' ≤ taken + 1 → Q (.bl true) H'
def t__law_take (K : PySem.W.Frag) (A : Ad) : TS :=
  (tSeq (tAsg (tCall (sp__law_gap K) [] E0 (tCons (tCall (sp__law_tops K) [] E0 (tCons (uVar 1) tNil)) (tCons (tOp (cIxT K) (uVar 4) (tC (.int 0))) (tCons (tOp (cIxT K) (uVar 4) (tC (.int 1))) tNil)))) (gName 6))
  (tSeq (tAsg (tC (.str "taken")) (gName 7))
  (Evl.tCut (uIfS (uAnd (uT (tOp (cNon false) (uVar 6) (tC .non))) (uT (tOp (rNeD K) (uVar 6) (tOp (cIxT K) (uVar 4) (tC (.int 2))))))
  (tAsg (tC (.str "against")) (gName 7))
  tNext)
  (Evl.tCut (uIfS (uT (tOp kEqI (tCB (cLenQ K) (tCons (uVar 1) tNil)) (uVar 3)))
  (tAsg (tC (.str "full")) (gName 7))
  tNext)
  (tSeq (tAsg (tC .non) (gName 8))
  (tSeq (tAsg (tC .non) (gName 9))
  (tSeq (tAsg (uLst tNil) (gName 10))
  (Evl.tCut (uTryK2 K (.ref A.Against) (.ref A.PegError) 11 (fun a cls d => (tSeq (tAsg (uVar 11) (gName 9))
  (tAsg (tXf a cls d A.Against "trail" (uVar 11)) (gName 10)))) (fun a cls d => (tAsg (uVar 11) (gName 9))) (fun W => (tAsg (uMethS A.Book "take" (sp_Book_take K A) (WE W) (uVar 0) (tCons (tOp (cIxT K) (uVar 4) (tC (.int 0))) (tCons (tOp (cIxT K) (uVar 4) (tC (.int 1))) (tCons (tOp (cIxT K) (uVar 4) (tC (.int 2))) tNil)))) (gName 8))))
  (tSeq (uIfS (uT (tOp kEqS (uVar 7) (tC (.str "taken"))))
  (tSeq (tAsg (tOp kAdd (tOp (cIxL K) (uVar 2) (tC (.int 0))) (tC (.int 1))) (gSub (uVar 2) (tC (.int 0)) cSetL))
  (tSeq (tDrop (tBM K "list" cApp (uVar 1) (tCons (tOp (cCatT K) (uTup (tCons (tOp (cIxL K) (uVar 2) (tC (.int 0))) tNil)) (uVar 4)) tNil)))
  (tRet (uAndV (tOp (cNon true) (uVar 9) (tC .non)) (uAndV (tCall (sp__law_whole K) [] E0 (tCons (uVar 8) tNil)) (tOp kEqI (uVar 8) (tOp (cIxL K) (uVar 2) (tC (.int 0)))))))))
  tNext)
  (tSeq (uIfS (uOr (uT (tOp (cNon true) (uVar 9) (tC .non))) (uT (tOp kNeS (tCall (sp__law_kind K A) [] E0 (tCons (uVar 9) tNil)) (uVar 7))))
  (tRet (tC (.bl false)))
  tNext)
  (tSeq (uIfS (uT (tOp kEqS (uVar 7) (tC (.str "full"))))
  (tRet (tC (.bl true)))
  tNext)
  (tSeq (uIfS (uOr (uNot (uT (tCall (sp__law_way K) [] E0 (tCons (uVar 10) (tCons (uVar 1) (tCons (tOp (cIxT K) (uVar 4) (tC (.int 0))) (tCons (tOp (cIxT K) (uVar 4) (tC (.int 1))) tNil))))))) (uT (tOp (rNeD K) (tCB (cSum K) (tCons (uLc (iList K (uVar 10)) (gName 12) tYes (tOp (cIxT K) (uVar 12) (tC (.int 3))) [12]) tNil)) (uVar 6))))
  (tRet (tC (.bl false)))
  tNext)
  (tRet (tCall (sp__law_keep K) [] E0 (tCons (uVar 5) (tCons (uVar 10) (tCons (tCB (cList K) (tCons (uVar 10) tNil)) (tCons (tOp (cIxL K) (uVar 2) (tC (.int 0))) tNil))))))))))))))))))
theorem due_cases {rows : List Row} {T : Tops} (hT : TopOf rows T) (most : Int) (g : Sg) (le : (rows.length : Int) ≤ most) :
    ((rows.length : Int) = most ∧ dueOf T rows.length most g = "full") ∨
    ((rows.length : Int) < most ∧ dueOf T rows.length most g = "taken" ∧ (¬ Reach rows g.1 g.2.1 ∨ ∃ ss, Way rows g.1 ss g.2.1 ∧ total ss = g.2.2) ∧ (∀ ss, Way rows g.1 ss g.2.1 → total ss = g.2.2) ∧ ∀ x, T.gap g.1 g.2.1 = some x → x = g.2.2) ∨
    ((rows.length : Int) < most ∧ dueOf T rows.length most g = "against" ∧ Reach rows g.1 g.2.1 ∧ ∃ x, T.gap g.1 g.2.1 = some x ∧ x ≠ g.2.2 ∧ ∀ ss, Way rows g.1 ss g.2.1 → total ss = x) := by
  unfold dueOf
  by_cases e : (rows.length : Int) = most
  · exact .inl ⟨e, if_pos e⟩
  rw [if_neg e]
  refine .inr ?_
  cases hg : T.gap g.1 g.2.1 with
  | none =>
    have nr := hT.gap_none hg
    exact .inl ⟨by omega, rfl, .inl nr, fun ss w => absurd ⟨ss, w⟩ nr, fun x z => nomatch z⟩
  | some x =>
    obtain ⟨⟨ss, w⟩, all⟩ := hT.gap_some hg
    by_cases c : x = g.2.2
    · subst c
      exact .inl ⟨by omega, if_pos rfl, .inr ⟨ss, w, all ss w⟩, all, fun y z => (Option.some.inj z).symm⟩
    · exact .inr ⟨by omega, if_neg c, ⟨ss, w⟩, x, rfl, c, all⟩
theorem agr_snoc {rows : List Row} {T : Tops} (hT : TopOf rows T) {n : Int} {g : Sg} (ag : ∀ x, T.gap g.1 g.2.1 = some x → x = g.2.2) : Agr (rows ++ [rowOf n g]) := ⟨_, (hT.lay (rowOf n g) ag).rise⟩
theorem pgs_snoc {rows : List Row} (h : Pgs rows) {n : Int} {g : Sg} (k : GoodS g) : Pgs (rows ++ [rowOf n g]) := fun r hr => by
  rcases List.mem_append.mp hr with m | m
  · exact h r m
  · rw [List.mem_singleton.mp m]
    exact ⟨k.one, k.other⟩
theorem pool_snoc {rows : List Row} {P : List Str} (h : Pool P rows) {n : Int} {g : Sg} (k1 : g.1 ∈ P) (k2 : g.2.1 ∈ P) : Pool P (rows ++ [rowOf n g]) := fun r hr => by
  rcases List.mem_append.mp hr with m | m
  · exact h r m
  · rw [List.mem_singleton.mp m]
    exact ⟨k1, k2⟩
/-- the sum of the steps' rises -/
theorem lcd_rises {K : PySem.W.Frag} {H : Hp} {a : Addr} {xs : List V} {ss : List Row} {tl te : TE} {j : Nat} {σ : L2.St} {Q : VK} (hl : SqL K H a xs) (al : DpAll K H xs (ss.map rowD)) (htl : ∀ R, R (.ref a) H → tl σ H R) (hlen : ss.length ≤ 3000) (hw : ∀ x, wipe ((wipe σ [j]).set j (some x)) [j] = wipe σ [j])
    (he : ∀ (r : Row) (t : Addr) (H1 : Hp) (R : VK), SqT K H1 t (rowV r) → R (.int r.rise) H1 → te ((wipe σ [j]).set j (some (.ref t))) H1 R)
    (q : ∀ (p : Addr) (H2 : Hp), H p = none → Same H H2 → H2 p = some (.lst ((ss.map Row.rise).map V.int)) → Q (.ref p) H2) : uLc (iList K tl) (gName j) tYes te [j] σ H Q := by
  have hx : xs.length = ss.length := by rw [dpAll_length al, List.length_map]
  refine lc_map (K := K) (a := a) (xs := xs) (fun i => .int ((ss[i]?.map Row.rise).getD 0)) hl htl (by omega) hw (fun i v H3 R e s3 k => ?_) (fun np H3 n3 s3 t3 => ?_)
  · obtain ⟨dd, hd, dv⟩ := dpAll_get al e
    rw [List.getElem?_map] at hd
    obtain ⟨r, er, rfl⟩ := Option.map_eq_some_iff.mp hd
    obtain ⟨t, rfl, ht⟩ := row_at dv
    refine he r t H3 R (same_t s3 ht) ?_
    have z := k H3 (Same.refl H3)
    rw [er] at z
    exact z
  · refine q np H3 n3 s3 ?_
    rw [t3, hx, List.map_map]
    refine congrArg (fun l => some (HO.lst l)) (List.ext_getElem? fun i => ?_)
    rw [List.getElem?_map, List.getElem?_map]
    by_cases c : i < ss.length
    · rw [List.getElem?_range c, List.getElem?_eq_getElem c]
      simp [List.getElem?_eq_getElem c]
    · rw [List.getElem?_eq_none (by simpa using c), List.getElem?_eq_none (by simpa using c)]
      rfl
theorem rd__law_take {K : PySem.W.Frag} {A : Ad} (T : Tx K A) {vs : List V} {H : Hp} {Q : VK} {E : XK} (h : sp__law_take K A vs H Q E) : t__law_take K A { nx := fun _ H' => Q .non H', rt := Q } (start N__law_take vs) H := by
  obtain ⟨b, d, R, Ct, hl, s, most, taken, rows, m, P, g, rfl, BB, hm, hs, gd, gp1, gp2, hP, hlen, q⟩ := h
  have S := BB.bs
  obtain ⟨xs, hR, al⟩ := S.rl
  have hxl : xs.length = rows.length := by rw [dpAll_length al, List.length_map]
  obtain ⟨f, hf⟩ := S.agr
  refine ⟨R, xs, rows, f, rfl, SqL.of hR, al, hf, by omega, fun td U H1 n1 s1 hU tU => ?_⟩
  have hs1 := same_t s1 hs
  refine ⟨_, _, hs1, rfl, _, _, hs1, rfl, td, U, rows, g.1, g.2.1, rfl, hU, tU, ?_⟩
  -- what is due
  refine ⟨fun σ' H' => H' = H1 ∧ σ' = [some (.ref b), some (.ref R), some (.ref Ct), some (.int most), some (.ref s), some (.ref hl), some (gapV (U.gap g.1 g.2.1)), some (.str (dueW (U.gap g.1 g.2.1) g.2.2)), none, none, none, none, none], ?_, ?_⟩
  · cases hg : U.gap g.1 g.2.1 with
    | none => exact br_f (br_f ⟨rfl, rfl⟩)
    | some x =>
      refine br_t ⟨_, _, hs1, rfl, .int x, .int g.2.2, .int _, .int _, rfl, rfl, ?_⟩
      rw [int_eqv]
      by_cases c : x = g.2.2
      · rw [decide_eq_true c]
        refine br_f ⟨rfl, ?_⟩
        have e : dueW (some x) g.2.2 = "taken" := if_pos c
        rw [e]
        rfl
      · rw [decide_eq_false c]
        refine br_t ⟨rfl, ?_⟩
        have e : dueW (some x) g.2.2 = "against" := if_neg c
        rw [e]
        rfl
  rintro σ' H1' ⟨rfl, rfl⟩
  refine ⟨fun σ' H' => H' = H1' ∧ σ' = [some (.ref b), some (.ref R), some (.ref Ct), some (.int most), some (.ref s), some (.ref hl), some (gapV (U.gap g.1 g.2.1)), some (.str (dueOf U rows.length most g)), none, none, none, none, none], ?_, ?_⟩
  · refine ⟨_, .inl (SqL.of (s1 _ _ hR)), ⟨fun e => ⟨rfl, ?_⟩, fun e => ⟨rfl, ?_⟩⟩⟩
    · have e := of_decide_eq_true e
      rw [hxl] at e
      have ed : dueOf U rows.length most g = "full" := if_pos e
      rw [ed]
      rfl
    · have e := of_decide_eq_false e
      rw [hxl] at e
      have ed : dueOf U rows.length most g = dueW (U.gap g.1 g.2.1) g.2.2 := if_neg e
      rw [ed]
  rintro σ' H1 ⟨rfl, rfl⟩
  have cs := due_cases tU most g S.le
  generalize edue : dueOf U rows.length most g = due at cs ⊢
  refine ⟨szr rfl, fun e0 H2 n2 s2 t2 => ?_⟩
  have s02 := s1.trans s2
  have hs2 := same_t s02 hs
  have S2 := S.mono s02
  obtain ⟨dx, hi⟩ := S2.book.ins
  have base : List (Option V) := []
  refine ⟨fun σ H' => (due = "against" ∧ ∃ (a dd p : Addr) (ys : List V) (ss : List Row), σ = [some (.ref b), some (.ref R), some (.ref Ct), some (.int most), some (.ref s), some (.ref hl), some (gapV (U.gap g.1 g.2.1)), some (.str due), some .non, some (.ref a), some (.ref p), none, none] ∧ H' a = some (ErO (.ref (A.er .against)) (some dd) a) ∧ DictOk H' (some dd) ∧ Same H H' ∧ H p = none ∧ H' p = some (.lst ys) ∧ DpAll K H' ys (ss.map rowD) ∧ Way rows g.1 ss g.2.1 ∧ Simple ss g.2.1 ∧ ss.length ≤ 2001) ∨
      (due = "full" ∧ ∃ (a : Addr), σ = [some (.ref b), some (.ref R), some (.ref Ct), some (.int most), some (.ref s), some (.ref hl), some (gapV (U.gap g.1 g.2.1)), some (.str due), some .non, some (.ref a), some (.ref e0), none, none] ∧ H' a = some (ErO (.ref (A.er .full)) none a) ∧ Same H H') ∨
      (due = "taken" ∧ σ = [some (.ref b), some (.ref R), some (.ref Ct), some (.int most), some (.ref s), some (.ref hl), some (gapV (U.gap g.1 g.2.1)), some (.str due), some (.int (taken + 1)), some .non, some (.ref e0), none, none] ∧ (∀ x, U.gap g.1 g.2.1 = some x → x = g.2.2) ∧ (rows.length : Int) < most ∧ Chd2 b d H H' ∧ BookAt K A H' b d most (taken + 1) (rows ++ [rowOf (taken + 1) g])), ?_, ?_⟩
  · refine ⟨⟨dx, _, hi, rfl⟩, _, _, hs2, rfl, _, _, hs2, rfl, _, _, hs2, rfl, b, d, most, taken, rows, .str g.1, .str g.2.1, .int g.2.2, rfl, S2.book, by omega, S.t0, gd.one.s7, gd.other.s7, ⟨_, .int _⟩, fun e => absurd (gd.sig.symm.trans e) (by decide), fun _ le H3 s3 => ?_, fun one other rise e1 e2 e3 _ lt => ?_⟩
    · rcases cs with ⟨_, hk⟩ | ⟨c, _⟩ | ⟨c, _⟩
      · refine ⟨false, T.exm .full .against, (fun z => nomatch z), fun _ => ⟨true, T.peg .full, fun _ a na H4 na4 s4 t4 => .inr (.inl ⟨hk, a, rfl, t4, (s02.trans s3).trans s4⟩), fun z => nomatch z⟩⟩
      · omega
      · omega
    · have e1 := V.str.inj e1
      have e2 := V.str.inj e2
      have e3 := V.int.inj e3
      subst e1 e2 e3
      refine ⟨fun how H3 c3 B3 => .inr (.inr ?_), fun ss H3 dd p ys W Sm hss ne np s3 hdd hp hal => ?_⟩
      · rcases cs with ⟨c, _⟩ | ⟨_, hk, _, _, ag⟩ | ⟨_, _, hr, x, _, nx, all⟩
        · omega
        · exact ⟨hk, rfl, ag, lt, fun x o h1 h2 e => c3 x o h1 h2 (s02 x o e), B3⟩
        · rcases how with how | ⟨ss, w, e⟩
          · exact absurd hr how
          · exact absurd ((all ss w).symm.trans e) nx
      · rcases cs with ⟨c, _⟩ | ⟨_, hk, _, all, _⟩ | ⟨_, hk, hr, x, _, nx, all⟩
        · omega
        · exact absurd (all ss W) ne
        · refine ⟨true, T.slf .against, fun _ a na => ?_, fun z => nomatch z⟩
          exact ⟨rfl, rfl, dd, _, .ref p, rfl, hdd, rfl, fun H4 na4 s4 t4 => .inl ⟨hk, a, dd, p, ys, ss, rfl, t4, ⟨_, s4 _ _ hdd⟩, (s02.trans s3).trans s4, s02.free np, s4 _ _ hp, dpAll_mono s4 hal, W, Sm, hss⟩⟩
  · rintro σ H3 (⟨hk, a, dd, p, ys, ss, rfl, ha, hdd, s3, np, hp, hal, W, Sm, hss⟩ | ⟨hk, a, rfl, ha, s3⟩ | ⟨hk, rfl, ag, lt, c3, B3⟩)
    · -- against
      have nx : ∃ x, U.gap g.1 g.2.1 = some x ∧ ∀ ss, Way rows g.1 ss g.2.1 → total ss = x := by
        rcases cs with ⟨_, z⟩ | ⟨_, z, _⟩ | ⟨_, _, _, x, hg, _, all⟩
        · rw [hk] at z; exact absurd z (by decide)
        · rw [hk] at z; exact absurd z (by decide)
        · exact ⟨x, hg, all⟩
      obtain ⟨x, hg, all⟩ := nx
      subst hk
      refine br_ff (by decide) (br_f ⟨a, some dd, .against, rfl, ha, hdd, fun H4 s4 => br_ff (by decide) (br_ff (by decide) ?_)⟩)
      have s04 := s3.trans s4
      have hs4 := same_t s04 hs
      have hp4 := s4 _ _ hp
      have hal4 := dpAll_mono s4 hal
      have hyl : ys.length = ss.length := by rw [dpAll_length hal, List.length_map]
      refine ⟨_, _, hs4, rfl, _, _, hs4, rfl, p, .ref R, g.1, g.2.1, ys, ss, rows, rfl, SqL.of hp4, hal4, .lst (SqL.of (s04 _ _ hR)) (dpAll_mono s04 al), S.pgs.ok, W, Sm, hss, fun H5 s5 => br_f ?_⟩
      refine lcd_rises (SqL.of (s5 _ _ hp4)) (dpAll_mono s5 hal4) (fun R h => h) (by omega) (fun x => rfl) (fun r t H6 R ht k => ⟨_, _, ht, rfl, k⟩) fun l6 H6 n6 s6 t6 => ?_
      rw [hg]
      refine ⟨ss.map Row.rise, SqL.of t6, .int (total ss), .int x, .int _, .int _, rfl, rfl, ?_⟩
      rw [int_eqv, decide_eq_true (all ss W)]
      have s06 := s04.trans (s5.trans s6)
      have s46 := s5.trans s6
      refine br_f ⟨_, .inl (SqL.of (s46 _ _ hp4)), fun cp H7 n7 s7 t7 => ?_⟩
      have s07 := s06.trans s7
      have nc := s06.free n7
      have B7 := BB.mono s07
      refine ⟨_, _, SqL.of (s07 _ _ S.ct), at_nat (j := 0) rfl rfl, ?_⟩
      have hal7 := dpAll_mono (s46.trans s7) hal4
      refine BB.keep (E := E0) hm s07 np nc (s7 _ _ (s46 _ _ hp4)) (by omega) (Hold.lst B7.inL (BB.new np) (s7 _ _ (s46 _ _ hp4)) hal7 (tstay_rows ss)) (Hold.lst B7.inL (BB.new nc) t7 hal7 (tstay_rows ss)) (canAll_rows (W.ok S.pgs.ok)) fun H' c tp B' => ?_
      exact q taken rows H' (c.sub (by simp)) tp B' hP (by omega) (by omega)
    · -- full
      subst hk
      refine br_ff (by decide) (br_f ⟨a, none, .full, rfl, ha, True.intro, fun H4 s4 => br_ff (by decide) (br_tt (by decide) ?_)⟩)
      exact q taken rows H4 (ChdL.of (s3.trans s4)) (tups_of (s3.trans s4)) ((BB.mono (s3.trans s4)).more (Nat.le_succ _)) hP (by omega) (by omega)
    · -- taken
      subst hk
      obtain ⟨Rb, Rd, Cb, Cd⟩ := S.nb
      obtain ⟨kvs, hd, _⟩ := S.book.dict
      obtain ⟨dx0, hi0⟩ := S.book.ins
      refine br_tt (by decide) ?_
      have ct1 := c3 _ _ Cb Cd S.ct
      have hR1 := c3 _ _ Rb Rd hR
      have tp1 : Tups H H3 := tups_chd2 c3 hi0 hd True.intro True.intro
      refine ⟨_, _, SqL.of ct1, at_nat (j := 0) rfl rfl, _, 0, ct1, rfl, fun H4 c4 t4 => ?_⟩
      have t4 : H4 Ct = some (.lst [.int (taken + 1)]) := t4
      have tp2 : Tups H3 H4 := tups_chd c4 ct1 True.intro
      have hR2 := c4 _ _ S.ne hR1
      have hs4 := tups_t (tp1.trans tp2) hs
      refine ⟨.inl ⟨rfl, _, SqL.of hR2⟩, _, _, SqL.of t4, at_nat (j := 0) rfl rfl, szr rfl, fun tt H5 n5 s5 t5 => ⟨[.int (taken + 1)], sgV g, SqT.of t5, same_t s5 hs4, (fun z => nomatch z), (fun z => nomatch z), szr rfl, fun tn H6 n6 s6 t6 => ⟨xs, s6 _ _ (s5 _ _ hR2), szl (by omega), fun H7 c7 t7 => ?_⟩⟩⟩
      have s56 := s5.trans s6
      have ct7 := c7 _ _ S.ne.symm (s56 _ _ t4)
      have tp7 : Tups H6 H7 := tups_chd c7 (s56 _ _ hR2) True.intro
      have tp : Tups H H7 := ((tp1.trans tp2).trans (tups_of s56)).trans tp7
      refine br_t ⟨.int (taken + 1), "int", rfl, .int _, br_t ⟨_, _, SqL.of ct7, at_nat (j := 0) rfl rfl, ?_⟩⟩
      show Q (.bl (decide (taken + 1 = taken + 1))) H7
      rw [decide_eq_true rfl]
      have cL : ChdL [b, d, R, Ct, hl] H H7 := ((((ChdL.refl.chd2 c3 (by simp) (by simp)).chd c4 (by simp)).same s56).chd c7 (by simp))
      obtain ⟨hs0, hh, hhl, HH⟩ := BB.hd
      obtain ⟨n1', n2', n3', n4'⟩ := BB.nl
      have hh7 : H7 hl = some (.lst hs0) := c7 _ _ n3' (s56 _ _ (c4 _ _ n4' (c3 _ _ n1' n2' hh)))
      refine q (taken + 1) (rows ++ [rowOf (taken + 1) g]) H7 cL tp ⟨⟨((B3.chd ct1 c4).mono s56).chd (s56 _ _ hR2) c7, ⟨_, t7, ?_⟩, ct7, S.ne, by have := S.t0; omega, agr_snoc tU ag, pgs_snoc S.pgs gd, by rw [List.length_append]; simp; omega⟩, ⟨hs0, hh7, by omega, HH.chd cL⟩, BB.hR, BB.hC⟩ (pool_snoc hP gp1 gp2) (by rw [List.length_append]; exact Nat.le_refl _) (Int.le_refl _)
      rw [List.map_append]
      exact dpAll_snoc (prows_tups tp al) (row_mk (r := rowOf (taken + 1) g) (tups_t tp7 (SqT.of t6)))
/-! ### _law_drop -/
abbrev N__law_drop : List Str := ["_law_book", "_law_rows_here", "_law_number", "_law_row", "_law_found"]
def sp__law_drop (K : PySem.W.Frag) (A : Ad) : Sp := fun vs H Q _ => ∃ (b d R Ct hl : Addr) (most taken n : Int) (rows : List Row) (m : Nat) (P : List Str), vs = [.ref b, .ref R, .int n] ∧ BH K A H b d R Ct hl most taken rows m ∧ rows ≠ [] ∧ Pool P rows ∧ rows.length ≤ 900 ∧
  ∀ (rows' : List Row) (H' : Hp), ChdL [b, d, R, Ct, hl] H H' → Tups H H' → BH K A H' b d R Ct hl most taken rows' m → Pool P rows' → rows'.length ≤ rows.length → Q (.bl true) H'
def t__law_drop (K : PySem.W.Frag) (A : Ad) : TS :=
  (tSeq (tAsg (tOp (cIxL K) (uVar 1) (tOp kMod (uVar 2) (tCB (cLenQ K) (tCons (uVar 1) tNil)))) (gName 3))
  (tSeq (tAsg (uMeth A.Book "drop" (sp_Book_drop K A) E0 (uVar 0) (tCons (tOp (cIxT K) (uVar 3) (tC (.int 0))) tNil)) (gName 4))
  (tSeq (tDrop (tBM K "list" (cRemD K) (uVar 1) (tCons (uVar 3) tNil)))
  (tRet (uAndV (tCB (cIsi K) (tCons (uVar 4) (tCons (tC (.ty "tuple")) tNil))) (uAndV (tOp (rEqD K) (uVar 4) (tSl (cSlT K) (uVar 3) (uPart (tC (.int 1))) tNoPart)) (tCall (sp__law_whole K) [] E0 (tCons (tOp (cIxT K) (uVar 4) (tC (.int 2))) tNil))))))))
theorem first_place {rows : List Row} (nd : (rows.map Row.n).Nodup) {j : Nat} {r : Row} (er : rows[j]? = some r) : ∀ (m : Nat) (z : PyData), m < j → (rows.map rowD)[m]? = some z → PyData.eqv z (rowD r) = false := fun m z hm e => by
  rw [List.getElem?_map] at e
  obtain ⟨s, es, rfl⟩ := Option.map_eq_some_iff.mp e
  rw [rowD_eqv]
  refine decide_eq_false fun k => ?_
  subst k
  have e1 : (rows.map Row.n)[m]? = some s.n := by rw [List.getElem?_map, es]; rfl
  have e2 : (rows.map Row.n)[j]? = some s.n := by rw [List.getElem?_map, er]; rfl
  obtain ⟨h1, k1⟩ := List.getElem?_eq_some_iff.mp e1
  obtain ⟨h2, k2⟩ := List.getElem?_eq_some_iff.mp e2
  have := (List.getElem_inj nd).mp (k1.trans k2.symm)
  omega
theorem BS.dropped {K : PySem.W.Frag} {A : Ad} {H H1 H2 : Hp} {b d R Ct : Addr} {most taken : Int} {rows : List Row} {j : Nat} {r : Row} {xs : List V} (S : BS K A H b d R Ct most taken rows) (hR : H R = some (.lst xs)) (al : DpAll K H xs (rows.map rowD)) (er : rows[j]? = some r)
    (c1 : Chd d H H1) (B1 : BookAt K A H1 b d most taken (rows.filter fun s => decide (s.n ≠ r.n))) (c2 : Chd R H1 H2) (t2 : H2 R = some (.lst (xs.eraseIdx j))) : BS K A H2 b d R Ct most taken (rows.filter fun s => decide (s.n ≠ r.n)) := by
  obtain ⟨Rb, Rd, Cb, Cd⟩ := S.nb
  obtain ⟨kvs, hd, _⟩ := S.book.dict
  have hR1 := c1 _ _ Rd hR
  have tp : Tups H H2 := (tups_chd c1 hd True.intro).trans (tups_chd c2 hR1 True.intro)
  refine ⟨B1.chd hR1 c2, ⟨_, t2, ?_⟩, c2 _ _ S.ne.symm (c1 _ _ Cd S.ct), S.ne, S.t0, S.agr.sub fun s hs => (List.mem_filter.mp hs).1, fun s hs => S.pgs s (List.mem_filter.mp hs).1, by have := S.le; have := List.length_filter_le (fun s => decide (s.n ≠ r.n)) rows; omega⟩
  rw [← erase_filter S.book.nd er]
  have a2 := dpAll_erase j al
  have e2 : (rows.map rowD).eraseIdx j = (rows.eraseIdx j).map rowD := by rw [List.eraseIdx_eq_take_drop_succ, List.eraseIdx_eq_take_drop_succ, List.map_append, List.map_take, List.map_drop]
  rw [e2] at a2
  exact prows_tups tp a2
theorem rd__law_drop {K : PySem.W.Frag} {A : Ad} (T : Tx K A) {vs : List V} {H : Hp} {Q : VK} {E : XK} (h : sp__law_drop K A vs H Q E) : t__law_drop K A { nx := fun _ H' => Q .non H', rt := Q } (start N__law_drop vs) H := by
  obtain ⟨b, d, R, Ct, hl, most, taken, n, rows, m, P, rfl, BB, ne, hP, hlen, q⟩ := h
  have S := BB.bs
  obtain ⟨dx, hi⟩ := S.book.ins
  obtain ⟨kvs, hd, _⟩ := S.book.dict
  obtain ⟨Rb, Rd, Cb, Cd⟩ := S.nb
  obtain ⟨xs, hR, al⟩ := S.rl
  have hx : xs.length = rows.length := by rw [dpAll_length al, List.length_map]
  have pos : 0 < rows.length := List.length_pos_iff.mpr ne
  have ix0 : 0 ≤ n % (xs.length : Int) := Int.emod_nonneg _ (by omega)
  have ix1 : n % (xs.length : Int) < xs.length := Int.emod_lt_of_pos _ (by omega)
  have hk : (n % (xs.length : Int)).toNat < xs.length := by omega
  generalize ej : (n % (xs.length : Int)).toNat = j at hk
  have ey : xs[j]? = some (xs[j]'hk) := List.getElem?_eq_getElem hk
  obtain ⟨dd, hdd, dv⟩ := dpAll_get al ey
  rw [List.getElem?_map] at hdd
  obtain ⟨r, er, rfl⟩ := Option.map_eq_some_iff.mp hdd
  obtain ⟨t, etr, ht⟩ := row_at dv
  rw [etr] at ey
  have hr : r ∈ rows := List.mem_of_getElem? er
  refine ⟨_, .inl (SqL.of hR), by omega, _, _, SqL.of hR, at_nat (j := j) (by omega) ey, ⟨dx, _, hi, rfl⟩, _, _, ht, rfl, b, d, most, taken, rows, .int r.n, "int", rfl, S.book, .int _, fun no => absurd rfl (no r hr), fun r' hr' e tt H2 n2 c2 B2 t2 => ?_⟩
  have er' : r' = r := nd_inj S.book.nd hr' hr (V.int.inj e).symm
  subst er'
  have tp2 : Tups H H2 := tups_chd c2 hd True.intro
  have ht2 := tups_t tp2 ht
  have hR2 := c2 _ _ Rd hR
  have al2 := prows_tups tp2 al
  have ok := S.pgs.ok
  refine ⟨.inl ⟨rfl, _, SqL.of hR2⟩, xs, rowD r', rows.map rowD, j, rowD r', hR2, al2, row_mk ht2, rowsD_shaped ok, rowD_shaped (ok _ hr), by rw [List.getElem?_map, er]; rfl, by rw [rowD_eqv]; exact decide_eq_true rfl, first_place S.book.nd er, fun H3 c3 t3 => ?_⟩
  have Rt : tt ≠ R := fun z => by rw [z, hR] at n2; cases n2
  have t3t := c3 _ _ Rt t2
  have tp3 : Tups H2 H3 := tups_chd c3 hR2 True.intro
  have ht3 := tups_t tp3 ht2
  refine ⟨"tuple", true, ty_tup (SqT.of t3t), by decide +kernel, br_t ⟨_, ht3, (show ¬ (HT.sIx 4 0 (some 1) = 0 ∧ HT.sIx 4 4 none = 4) by decide), fun p4 H4 n4 s4 t4 => ⟨sigD r'.one r'.other r'.rise, sigD r'.one r'.other r'.rise, sigD_mk (SqT.of (s4 _ _ t3t)), sigD_mk (SqT.of t4), sigD_shaped (ok _ hr).1 (ok _ hr).2, sigD_shaped (ok _ hr).1 (ok _ hr).2, ?_⟩⟩⟩
  rw [sigD_eqv]
  refine br_t ⟨_, _, SqT.of (s4 _ _ t3t), rfl, _, _, rfl, .int _, ?_⟩
  have cL : ChdL [b, d, R, Ct, hl] H H4 := ((ChdL.refl.chd c2 (by simp)).chd c3 (by simp)).same s4
  obtain ⟨hs0, hh, hhl, HH⟩ := BB.hd
  obtain ⟨n1', n2', n3', n4'⟩ := BB.nl
  exact q _ H4 cL ((tp2.trans tp3).trans (tups_of s4)) ⟨(S.dropped hR al er c2 B2 c3 t3).mono s4, ⟨hs0, s4 _ _ (c3 _ _ n3' (c2 _ _ n2' hh)), hhl, HH.chd cL⟩, BB.hR, BB.hC⟩ (fun s hs => hP s (Row.filter_sub s hs)) (List.length_filter_le ..)
/-! ### _law_no_sighting -/
abbrev N__law_no_sighting : List Str := ["_law_book", "_law_one", "_law_other", "_law_rise_here", "_law_cell", "_law_some", "_law_odd", "_law_refused", "_law_e"]
def sp__law_no_sighting (K : PySem.W.Frag) (A : Ad) : Sp := fun vs H Q _ => ∃ (b d : Addr) (most taken r c : Int) (rows : List Row) (one other : Str), vs = [.ref b, .str one, .str other, .int r, .int c] ∧ BookAt K A H b d most taken rows ∧ 0 ≤ taken ∧ rows.length ≤ 1000 ∧ Pg one ∧ Pg other ∧ Bnd r ∧ ∀ H', Same H H' → Q (.bl true) H'
def t__law_no_sighting (K : PySem.W.Frag) (A : Ad) : TS :=
  (tSeq (tAsg (uLst (tCons (uTup (tCons (tC (.str "")) (tCons (uVar 2) (tCons (uVar 3) tNil)))) (tCons (uTup (tCons (uVar 1) (tCons (tOp cAddS (tC (.str "A")) (tSl cSlS (uVar 1) (uPart (tC (.int 1))) tNoPart)) (tCons (uVar 3) tNil)))) (tCons (uTup (tCons (tOp cAddS (uVar 1) (tC (.str "abcdefgh"))) (tCons (uVar 2) (tCons (uVar 3) tNil)))) (tCons (uTup (tCons (tC .non) (tCons (uVar 2) (tCons (uVar 3) tNil)))) tNil))))) (gName 5))
  (tSeq (tAsg (tOp cCat (uVar 5) (uLst (tCons (uTup (tCons (uVar 1) (tCons (tC (.int 7)) (tCons (uVar 3) tNil)))) (tCons (uTup (tCons (uVar 1) (tCons (uVar 2) (tCons (tC (.bl true)) tNil)))) (tCons (uTup (tCons (uVar 1) (tCons (uVar 2) (tCons (tC .non) tNil)))) (tCons (uTup (tCons (uVar 1) (tCons (uVar 2) (tCons (tOp kPow (tC (.int 10)) (tC (.int 60))) tNil)))) tNil)))))) (gName 5))
  (tSeq (tAsg (tOp cCat (uVar 5) (uLst (tCons (uTup (tCons (uVar 1) (tCons (uVar 2) (tCons (tOp kSub (tC (.int 0)) (tOp kPow (tC (.int 10)) (tC (.int 60)))) tNil)))) (tCons (uTup (tCons (uVar 1) (tCons (uLst (tCons (uVar 2) tNil)) (tCons (uVar 3) tNil)))) (tCons (uTup (tCons (tOp cAddS (uVar 1) (tC (.str " "))) (tCons (uVar 2) (tCons (uVar 3) tNil)))) (tCons (uTup (tCons (uVar 1) (tCons (uVar 2) (tCons (tC (.str "5")) tNil)))) tNil)))))) (gName 5))
  (tSeq (tAsg (tOp (cIxL K) (uVar 5) (tOp kMod (uVar 4) (tC (.int 12)))) (gName 6))
  (tSeq (tAsg (tC .non) (gName 7))
  (Evl.tCut (uTryK K (.ref A.PegError) 8 (fun a cls d => (tAsg (uVar 8) (gName 7))) (fun W => (tDrop (uMethS A.Book "take" (sp_Book_take K A) (WE W) (uVar 0) (tCons (tOp (cIxT K) (uVar 6) (tC (.int 0))) (tCons (tOp (cIxT K) (uVar 6) (tC (.int 1))) (tCons (tOp (cIxT K) (uVar 6) (tC (.int 2))) tNil)))))))
  (tRet (uAndV (tOp (cNon false) (uVar 7) (tC .non)) (tOp kEqS (tCall (sp__law_kind K A) [] E0 (tCons (uVar 7) tNil)) (tC (.str "sighting")))))))))))
theorem at_mem {α : Type} {xs : List α} {i : Int} (h0 : 0 ≤ i) (h : i < xs.length) : ∃ c, c ∈ xs ∧ atI xs i = some c := by
  have e : xs[i.toNat]? = some (xs[i.toNat]'(by omega)) := List.getElem?_eq_getElem (by omega)
  exact ⟨_, List.mem_of_getElem? e, at_nat (j := i.toNat) (by omega) e⟩
theorem cut1_len {z : Str} (h : Pg z) : (cutS z (some 1) none).length ≤ 8 := by
  rw [str_len]
  unfold cutS
  have := h.sz
  rw [str_len] at this
  show (((z.cps.toList.drop _).take _).toArray).toList.length ≤ 8
  rw [List.length_take, List.length_drop]
  omega
/-- what is no peg, of a peg -/
theorem not_peg_A (z : Str) : pegS ("A" ++ z) = false := by
  show (decide (1 ≤ ("A" ++ z).length) && decide (("A" ++ z).length ≤ 8) && azB ("A" ++ z)) = false
  have e : azB ("A" ++ z) = false := by
    unfold azB
    rw [List.all_eq_false]
    refine ⟨65, ?_, by decide +kernel⟩
    rw [str_app_codes]
    exact List.mem_append_left _ (by decide +kernel)
  rw [e, Bool.and_false]
theorem not_peg_blank (z : Str) : pegS (z ++ " ") = false := by
  show (decide (1 ≤ (z ++ " ").length) && decide ((z ++ " ").length ≤ 8) && azB (z ++ " ")) = false
  have e : azB (z ++ " ") = false := by
    unfold azB
    rw [List.all_eq_false]
    refine ⟨32, ?_, by decide +kernel⟩
    rw [str_app_codes]
    exact List.mem_append_right _ (by decide +kernel)
  rw [e, Bool.and_false]
theorem not_peg_long {z : Str} (h : Pg z) : pegS (z ++ "abcdefgh") = false := by
  have l : (z ++ "abcdefgh").length = z.length + 8 := by rw [str_app_len]; rfl
  have h1 : 1 ≤ z.length := by
    obtain ⟨n, a, n1, _⟩ := h
    rw [a.len]; exact n1
  show (decide (1 ≤ (z ++ "abcdefgh").length) && decide ((z ++ "abcdefgh").length ≤ 8) && azB (z ++ "abcdefgh")) = false
  rw [decide_eq_false (show ¬ (z ++ "abcdefgh").length ≤ 8 by omega)]
  simp
theorem not_peg_nil : pegS "" = false := by decide +kernel
/-- three things that are no sighting -/
def NoSig (K : PySem.W.Frag) (H : Hp) (v : V) : Prop := ∃ (t : Addr) (x y z : V), v = .ref t ∧ SqT K H t [x, y, z] ∧ Some7 K H x ∧ Some7 K H y ∧ Some7 K H z ∧ sigB [x, y, z] = false
theorem NoSig.mono {K : PySem.W.Frag} {H H' : Hp} {v : V} (s : Same H H') (h : NoSig K H v) : NoSig K H' v := by
  obtain ⟨t, x, y, z, e, ht, k1, k2, k3, n⟩ := h
  exact ⟨t, x, y, z, e, same_t s ht, k1.imp fun _ k => k.mono s, k2.imp fun _ k => k.mono s, k3.imp fun _ k => k.mono s, n⟩
theorem rd__law_no_sighting {K : PySem.W.Frag} {A : Ad} (T : Tx K A) {vs : List V} {H : Hp} {Q : VK} {E : XK} (h : sp__law_no_sighting K A vs H Q E) : t__law_no_sighting K A { nx := fun _ H' => Q .non H', rt := Q } (start N__law_no_sighting vs) H := by
  obtain ⟨b, d, most, taken, r, c, rows, one, other, rfl, B, t0, hlen, po, pt, br, q⟩ := h
  have lo := po.sz
  have p60 : CPow 10 60 := ⟨by decide, by decide, by decide⟩
  have c1 := cut1_len po
  have la : ("A" : Str).length = 1 := by decide +kernel
  have l8 : ("abcdefgh" : Str).length = 8 := by decide +kernel
  have lb : (" " : Str).length = 1 := by decide +kernel
  have ko : ∀ H : Hp, Some7 K H (.str one) := fun H => po.s7
  have kt : ∀ H : Hp, Some7 K H (.str other) := fun H => pt.s7
  have ki : ∀ (H : Hp) (i : Int), Some7 K H (.int i) := fun H i => ⟨_, .int i⟩
  have ks : ∀ (H : Hp) (z : Str), z.length ≤ 100 → Some7 K H (.str z) := fun H z h => ⟨_, .str z (by omega)⟩
  have lA : ("A" ++ cutS one (some 1) none).length ≤ 100 := by rw [str_app_len, la]; omega
  have l88 : (one ++ "abcdefgh").length ≤ 100 := by rw [str_app_len, l8]; omega
  have lbl : (one ++ " ").length ≤ 100 := by rw [str_app_len, lb]; omega
  -- the first four
  refine ⟨szr rfl, fun a1 H1 n1 s1 t1 => ⟨sz (by omega), sz (by omega), szr rfl, fun a2 H2 n2 s2 t2 => ⟨sz (by omega), szr rfl, fun a3 H3 n3 s3 t3 => ⟨szr rfl, fun a4 H4 n4 s4 t4 => ⟨szr rfl, fun L1 H5 n5 s5 t5 => ?_⟩⟩⟩⟩⟩
  have w1 : NoSig K H5 (.ref a1) := NoSig.mono ((s2.trans s3).trans (s4.trans s5)) ⟨a1, _, _, _, rfl, SqT.of t1, ks _ "" (by decide +kernel), kt _, ki _ _, by show (pegS "" && pegS other && riseB (.int r)) = false; rw [not_peg_nil]; rfl⟩
  have w2 : NoSig K H5 (.ref a2) := NoSig.mono (s3.trans (s4.trans s5)) ⟨a2, _, _, _, rfl, SqT.of t2, ko _, ks _ _ lA, ki _ _, by show (pegS one && pegS _ && riseB (.int r)) = false; rw [not_peg_A, Bool.and_false]; rfl⟩
  have w3 : NoSig K H5 (.ref a3) := NoSig.mono (s4.trans s5) ⟨a3, _, _, _, rfl, SqT.of t3, ks _ _ l88, kt _, ki _ _, by show (pegS _ && pegS other && riseB (.int r)) = false; rw [not_peg_long po]; rfl⟩
  have w4 : NoSig K H5 (.ref a4) := NoSig.mono s5 ⟨a4, _, _, _, rfl, SqT.of t4, ⟨_, .non⟩, kt _, ki _ _, rfl⟩
  have s05 := ((s1.trans s2).trans s3).trans (s4.trans s5)
  -- four more
  refine ⟨szr rfl, fun a5 H6 n6 s6 t6 => ⟨szr rfl, fun a6 H7 n7 s7 t7 => ⟨szr rfl, fun a7 H8 n8 s8 t8 => ⟨p60, szr rfl, fun a8 H9 n9 s9 t9 => ⟨szr rfl, fun L2 Ha na sa ta => ⟨_, _, (((s6.trans s7).trans s8).trans (s9.trans sa)) _ _ t5, ta, szr rfl, fun L3 Hb nb sb tb => ?_⟩⟩⟩⟩⟩⟩
  have s5b := (((s6.trans s7).trans s8).trans (s9.trans sa)).trans sb
  have w5 : NoSig K Hb (.ref a5) := NoSig.mono (((s7.trans s8).trans (s9.trans sa)).trans sb) ⟨a5, _, _, _, rfl, SqT.of t6, ko _, ki _ _, ki _ _, by show (pegS one && false && riseB (.int r)) = false; rw [Bool.and_false]; rfl⟩
  have w6 : NoSig K Hb (.ref a6) := NoSig.mono ((s8.trans (s9.trans sa)).trans sb) ⟨a6, _, _, _, rfl, SqT.of t7, ko _, kt _, ⟨_, .bl _⟩, by show (pegS one && pegS other && false) = false; rw [Bool.and_false]⟩
  have w7 : NoSig K Hb (.ref a7) := NoSig.mono ((s9.trans sa).trans sb) ⟨a7, _, _, _, rfl, SqT.of t8, ko _, kt _, ⟨_, .non⟩, by show (pegS one && pegS other && false) = false; rw [Bool.and_false]⟩
  have w8 : NoSig K Hb (.ref a8) := NoSig.mono (sa.trans sb) ⟨a8, _, _, _, rfl, SqT.of t9, ko _, kt _, ki _ _, by
    show (pegS one && pegS other && decide (-(10 ^ 60) < (10 : Int) ^ (60 : Int).toNat ∧ (10 : Int) ^ (60 : Int).toNat < 10 ^ 60)) = false
    rw [decide_eq_false (by decide), Bool.and_false]⟩
  -- the last four
  refine ⟨p60, szr rfl, fun a9 Hc nc sc tc => ⟨szr rfl, fun ol Hd nd sd td => ⟨szr rfl, fun a10 He ne se te => ⟨sz (by omega), szr rfl, fun a11 Hf nf sf tf => ⟨szr rfl, fun a12 Hg ng sg tg => ⟨szr rfl, fun L4 Hh nh sh th => ?_⟩⟩⟩⟩⟩⟩
  have sbh := (((sc.trans sd).trans se).trans (sf.trans sg)).trans sh
  refine ⟨_, _, sbh _ _ tb, th, szr rfl, fun L5 Hi ni si ti => ?_⟩
  have sbi := sbh.trans si
  have w9 : NoSig K Hi (.ref a9) := NoSig.mono (((sd.trans se).trans (sf.trans sg)).trans (sh.trans si)) ⟨a9, _, _, _, rfl, SqT.of tc, ko _, kt _, ki _ _, by
    show (pegS one && pegS other && decide (-(10 ^ 60) < (0 : Int) - (10 : Int) ^ (60 : Int).toNat ∧ (0 : Int) - (10 : Int) ^ (60 : Int).toNat < 10 ^ 60)) = false
    rw [decide_eq_false (by decide), Bool.and_false]⟩
  have w10 : NoSig K Hi (.ref a10) := NoSig.mono ((sf.trans sg).trans (sh.trans si)) ⟨a10, _, _, _, rfl, SqT.of te, ko _, ⟨_, .lst (SqL.of (se _ _ td))⟩, ki _ _, by show (pegS one && false && riseB (.int r)) = false; rw [Bool.and_false]; rfl⟩
  have w11 : NoSig K Hi (.ref a11) := NoSig.mono (sg.trans (sh.trans si)) ⟨a11, _, _, _, rfl, SqT.of tf, ks _ _ lbl, kt _, ki _ _, by show (pegS _ && pegS other && riseB (.int r)) = false; rw [not_peg_blank]; rfl⟩
  have w12 : NoSig K Hi (.ref a12) := NoSig.mono (sh.trans si) ⟨a12, _, _, _, rfl, SqT.of tg, ko _, kt _, ks _ "5" (by decide +kernel), by show (pegS one && pegS other && false) = false; rw [Bool.and_false]⟩
  have s0i := s05.trans (s5b.trans sbi)
  refine ⟨by decide, ?_⟩
  obtain ⟨v, mv, ev⟩ := at_mem (α := V) (i := c % 12) (xs := ([V.ref a1, V.ref a2, V.ref a3, V.ref a4] ++ [V.ref a5, V.ref a6, V.ref a7, V.ref a8]) ++ [V.ref a9, V.ref a10, V.ref a11, V.ref a12]) (by omega) (by show c % 12 < 12; omega)
  have wv : NoSig K Hi v := by
    have m5 : ∀ x, NoSig K H5 x → NoSig K Hi x := fun x => NoSig.mono (s5b.trans sbi)
    have mb : ∀ x, NoSig K Hb x → NoSig K Hi x := fun x => NoSig.mono sbi
    simp only [List.mem_append, List.mem_cons, List.not_mem_nil, or_false] at mv
    rcases mv with ((rfl | rfl | rfl | rfl) | (rfl | rfl | rfl | rfl)) | (rfl | rfl | rfl | rfl)
    · exact m5 _ w1
    · exact m5 _ w2
    · exact m5 _ w3
    · exact m5 _ w4
    · exact mb _ w5
    · exact mb _ w6
    · exact mb _ w7
    · exact mb _ w8
    · exact w9
    · exact w10
    · exact w11
    · exact w12
  obtain ⟨t, x, y, z, rfl, ht, k1, k2, k3, nsg⟩ := wv
  refine ⟨_, _, SqL.of ti, ev, ?_⟩
  have Bi := B.mono s0i
  obtain ⟨dx, hi⟩ := Bi.ins
  refine ⟨fun σ H' => ∃ (a : Addr), σ = [some (.ref b), some (.str one), some (.str other), some (.int r), some (.int c), some (.ref L5), some (.ref t), some (.ref a), none] ∧ H' a = some (ErO (.ref (A.er .sighting)) none a) ∧ Same H H', ?_, ?_⟩
  · refine ⟨⟨dx, _, hi, rfl⟩, _, _, ht, rfl, _, _, ht, rfl, _, _, ht, rfl, b, d, most, taken, rows, x, y, z, rfl, Bi, hlen, t0, k1, k2, k3, fun _ H1 s1 => ?_, fun e => absurd (nsg.symm.trans e) (by decide), fun _ _ _ _ _ _ e => absurd (nsg.symm.trans e) (by decide)⟩
    exact ⟨true, T.peg .sighting, fun _ a na H2 na2 s2 t2 => ⟨a, rfl, t2, (s0i.trans s1).trans s2⟩, fun z => nomatch z⟩
  · rintro σ H1 ⟨a, rfl, ha, s1⟩
    exact br_t ⟨a, none, .sighting, rfl, ha, True.intro, fun H2 s2 => q H2 (s1.trans s2)⟩
/-! ### _law_no_peg -/
abbrev N__law_no_peg : List Str := ["_law_book", "_law_one", "_law_cell", "_law_odd", "_law_refused", "_law_e"]
def sp__law_no_peg (K : PySem.W.Frag) (A : Ad) : Sp := fun vs H Q _ => ∃ (b d : Addr) (most taken c : Int) (rows : List Row) (one : Str), vs = [.ref b, .str one, .int c] ∧ BookAt K A H b d most taken rows ∧ rows.length ≤ 1000 ∧ Pg one ∧ 0 ≤ c ∧ ∀ H', Same H H' → Q (.bl true) H'
def t__law_no_peg (K : PySem.W.Frag) (A : Ad) : TS :=
  (tSeq (tAsg (tOp (cIxL K) (uLst (tCons (tC (.str "")) (tCons (tOp cAddS (tC (.str "A")) (tSl cSlS (uVar 1) (uPart (tC (.int 1))) tNoPart)) (tCons (tOp cAddS (uVar 1) (tC (.str "abcdefgh"))) (tCons (tC .non) (tCons (tC (.int 7)) (tCons (uLst (tCons (uVar 1) tNil)) (tCons (tOp cAddS (uVar 1) (tC (.str " "))) (tCons (tC (.bl true)) tNil))))))))) (tOp kMod (uVar 2) (tC (.int 8)))) (gName 3))
  (tSeq (tAsg (tC .non) (gName 4))
  (Evl.tCut (uTryK K (.ref A.PegError) 5 (fun a cls d => (tAsg (uVar 5) (gName 4))) (fun W => (uIfS (uT (tOp kEqI (tOp kMod (tOp kDiv (uVar 2) (tC (.int 8))) (tC (.int 4))) (tC (.int 0))))
  (tDrop (uMethS A.Book "rise" (sp_Book_rise K A) (WE W) (uVar 0) (tCons (uVar 1) (tCons (uVar 3) tNil))))
  (uIfS (uT (tOp kEqI (tOp kMod (tOp kDiv (uVar 2) (tC (.int 8))) (tC (.int 4))) (tC (.int 1))))
  (tDrop (uMethS A.Book "rise" (sp_Book_rise K A) (WE W) (uVar 0) (tCons (uVar 3) (tCons (uVar 1) tNil))))
  (uIfS (uT (tOp kEqI (tOp kMod (tOp kDiv (uVar 2) (tC (.int 8))) (tC (.int 4))) (tC (.int 2))))
  (tDrop (uMethS A.Book "way" (sp_Book_way K A) (WE W) (uVar 0) (tCons (uVar 1) (tCons (uVar 3) tNil))))
  (tDrop (uMethS A.Book "way" (sp_Book_way K A) (WE W) (uVar 0) (tCons (uVar 3) (tCons (uVar 3) tNil)))))))))
  (tRet (uAndV (tOp (cNon false) (uVar 4) (tC .non)) (tOp kEqS (tCall (sp__law_kind K A) [] E0 (tCons (uVar 4) tNil)) (tC (.str "sighting"))))))))
theorem rd__law_no_peg {K : PySem.W.Frag} {A : Ad} (T : Tx K A) {vs : List V} {H : Hp} {Q : VK} {E : XK} (h : sp__law_no_peg K A vs H Q E) : t__law_no_peg K A { nx := fun _ H' => Q .non H', rt := Q } (start N__law_no_peg vs) H := by
  obtain ⟨b, d, most, taken, c, rows, one, rfl, B, hlen, po, c0, q⟩ := h
  have lo := po.sz
  have c1 := cut1_len po
  have la : ("A" : Str).length = 1 := by decide +kernel
  have l8 : ("abcdefgh" : Str).length = 8 := by decide +kernel
  have lb : (" " : Str).length = 1 := by decide +kernel
  have ks : ∀ (H : Hp) (z : Str), z.length ≤ 100 → Some7 K H (.str z) := fun H z h => ⟨_, .str z (by omega)⟩
  have lA : ("A" ++ cutS one (some 1) none).length ≤ 100 := by rw [str_app_len, la]; omega
  have l88 : (one ++ "abcdefgh").length ≤ 100 := by rw [str_app_len, l8]; omega
  have lbl : (one ++ " ").length ≤ 100 := by rw [str_app_len, lb]; omega
  refine ⟨sz (by omega), sz (by omega), sz (by omega), szr rfl, fun ol H1 n1 s1 t1 => ⟨sz (by omega), szr rfl, fun L H2 n2 s2 t2 => ⟨by decide, ?_⟩⟩⟩
  obtain ⟨v, mv, ev⟩ := at_mem (i := c % 8) (xs := ([.str "", .str ("A" ++ cutS one (some 1) none), .str (one ++ "abcdefgh"), .non, .int 7, .ref ol, .str (one ++ " "), .bl true] : List V)) (by omega) (show c % 8 < 8 by omega)
  have s02 := s1.trans s2
  have wv : Some7 K H2 v ∧ pegB v = false := by
    simp only [List.mem_cons, List.not_mem_nil, or_false] at mv
    rcases mv with rfl | rfl | rfl | rfl | rfl | rfl | rfl | rfl
    · exact ⟨ks _ "" (by decide +kernel), not_peg_nil⟩
    · exact ⟨ks _ _ lA, not_peg_A _⟩
    · exact ⟨ks _ _ l88, not_peg_long po⟩
    · exact ⟨⟨_, .non⟩, rfl⟩
    · exact ⟨⟨_, .int _⟩, rfl⟩
    · exact ⟨⟨_, .lst (SqL.of (s2 _ _ t1))⟩, rfl⟩
    · exact ⟨ks _ _ lbl, not_peg_blank _⟩
    · exact ⟨⟨_, .bl _⟩, rfl⟩
  obtain ⟨kv, nv⟩ := wv
  refine ⟨_, _, SqL.of t2, ev, ?_⟩
  have B2 := B.mono s02
  obtain ⟨dx, hi⟩ := B2.ins
  have n1 : (pegB (.str one) && pegB v) = false := by rw [nv, Bool.and_false]
  have n2 : (pegB v && pegB (.str one)) = false := by rw [nv]; rfl
  have n3 : (pegB v && pegB v) = false := by rw [nv]; rfl
  refine ⟨fun σ H' => ∃ (a : Addr), σ = [some (.ref b), some (.str one), some (.int c), some v, some (.ref a), none] ∧ H' a = some (ErO (.ref (A.er .sighting)) none a) ∧ Same H H', ?_, ?_⟩
  · refine ⟨by decide, by decide, ⟨fun _ => ?_, fun _ => ⟨by decide, by decide, ⟨fun _ => ?_, fun _ => ⟨by decide, by decide, ⟨fun _ => ?_, fun _ => ?_⟩⟩⟩⟩⟩⟩
    · refine ⟨⟨dx, _, hi, rfl⟩, b, d, most, taken, rows, .str one, v, rfl, B2, hlen, po.s7, kv, fun _ => ?_, fun _ _ _ _ e => absurd (n1.symm.trans e) (by decide)⟩
      exact ⟨true, T.peg .sighting, fun _ a na H3 na3 s3 t3 => ⟨a, rfl, t3, s02.trans s3⟩, fun z => nomatch z⟩
    · refine ⟨⟨dx, _, hi, rfl⟩, b, d, most, taken, rows, v, .str one, rfl, B2, hlen, kv, po.s7, fun _ => ?_, fun _ _ _ _ e => absurd (n2.symm.trans e) (by decide)⟩
      exact ⟨true, T.peg .sighting, fun _ a na H3 na3 s3 t3 => ⟨a, rfl, t3, s02.trans s3⟩, fun z => nomatch z⟩
    · refine ⟨⟨dx, _, hi, rfl⟩, b, d, most, taken, rows, .str one, v, rfl, B2, hlen, po.s7, kv, fun _ => ?_, fun _ _ _ _ e => absurd (n1.symm.trans e) (by decide)⟩
      exact ⟨true, T.peg .sighting, fun _ a na H3 na3 s3 t3 => ⟨a, rfl, t3, s02.trans s3⟩, fun z => nomatch z⟩
    · refine ⟨⟨dx, _, hi, rfl⟩, b, d, most, taken, rows, v, v, rfl, B2, hlen, kv, kv, fun _ => ?_, fun _ _ _ _ e => absurd (n3.symm.trans e) (by decide)⟩
      exact ⟨true, T.peg .sighting, fun _ a na H3 na3 s3 t3 => ⟨a, rfl, t3, s02.trans s3⟩, fun z => nomatch z⟩
  · rintro σ H3 ⟨a, rfl, ha, s3⟩
    exact br_t ⟨a, none, .sighting, rfl, ha, True.intro, fun H4 s4 => q H4 (s3.trans s4)⟩
/-! ### _law_no_number -/
abbrev N__law_no_number : List Str := ["_law_book", "_law_box", "_law_rows_here", "_law_cell", "_law_odd", "_law_kept", "_law_row", "_law_gone", "_law_k", "_law_refused", "_law_e"]
def sp__law_no_number (K : PySem.W.Frag) (A : Ad) : Sp := fun vs H Q _ => ∃ (b d Ct : Addr) (most taken t c : Int) (rows : List Row) (v : V), vs = [.ref b, .ref Ct, v, .int c] ∧ BookAt K A H b d most taken rows ∧ taken ≤ t ∧ 0 ≤ t ∧ t ≤ 1000 ∧ H Ct = some (.lst [.int t]) ∧ Dp K H v (rowsD rows) ∧ rows.length ≤ 1000 ∧ ∀ H', Same H H' → Q (.bl true) H'
def t__law_no_number (K : PySem.W.Frag) (A : Ad) : TS :=
  (tSeq (tAsg (tOp (cIxL K) (uLst (tCons (tC (.int 0)) (tCons (tUn kNeg (tC (.int 1))) (tCons (tOp kAdd (tOp (cIxL K) (uVar 1) (tC (.int 0))) (tC (.int 1))) (tCons (tOp kPow (tC (.int 10)) (tC (.int 30))) (tCons (tC (.bl true)) (tCons (tC (.bl false)) (tCons (tC .non) (tCons (tC (.str "1")) (tCons (uLst (tCons (tC (.int 1)) tNil)) (tCons (uTup (tCons (tC (.int 1)) tNil)) tNil))))))))))) (tOp kMod (uVar 3) (tC (.int 10)))) (gName 4))
  (tSeq (tAsg (uLc (iList K (uVar 2)) (gName 6) tYes (tOp (cIxT K) (uVar 6) (tC (.int 0))) [6]) (gName 5))
  (tSeq (tAsg (uLc (iRng2 (tCons (tC (.int 1)) (tCons (tOp kAdd (tOp (cIxL K) (uVar 1) (tC (.int 0))) (tC (.int 1))) tNil))) (gName 8) (uT (tOp (cInI K false) (uVar 8) (uVar 5))) (uVar 8) [8]) (gName 7))
  (Evl.tCut (uIfS (uAnd (uT (tOp kEqI (tOp kMod (tOp kDiv (uVar 3) (tC (.int 10))) (tC (.int 3))) (tC (.int 0)))) (uT (tOp (rNeD K) (uVar 7) (uLst tNil))))
  (tAsg (tOp (cIxL K) (uVar 7) (tOp kMod (tOp kDiv (uVar 3) (tC (.int 30))) (tCB (cLenQ K) (tCons (uVar 7) tNil)))) (gName 4))
  tNext)
  (tSeq (tAsg (tC .non) (gName 9))
  (Evl.tCut (uTryK K (.ref A.PegError) 10 (fun a cls d => (tAsg (uVar 10) (gName 9))) (fun W => (uIfS (uT (tOp kEqI (tOp kMod (tOp kDiv (uVar 3) (tC (.int 30))) (tC (.int 2))) (tC (.int 0))))
  (tDrop (uMethS A.Book "drop" (sp_Book_drop K A) (WE W) (uVar 0) (tCons (uVar 4) tNil)))
  (tDrop (uMethS A.Book "spare" (sp_Book_spare K A) (WE W) (uVar 0) (tCons (uVar 4) tNil))))))
  (tRet (uAndV (tOp (cNon false) (uVar 9) (tC .non)) (tOp kEqS (tCall (sp__law_kind K A) [] E0 (tCons (uVar 9) tNil)) (tC (.str "number")))))))))))
/-- the numbers of rows -/
theorem lcd_nums {K : PySem.W.Frag} {H : Hp} {a : Addr} {xs : List V} {rows : List Row} {tl te : TE} {j : Nat} {σ : L2.St} {Q : VK} (hl : SqL K H a xs) (al : DpAll K H xs (rows.map rowD)) (htl : ∀ R, R (.ref a) H → tl σ H R) (hlen : rows.length ≤ 3000) (hw : ∀ x, wipe ((wipe σ [j]).set j (some x)) [j] = wipe σ [j])
    (he : ∀ (r : Row) (t : Addr) (H1 : Hp) (R : VK), SqT K H1 t (rowV r) → R (.int r.n) H1 → te ((wipe σ [j]).set j (some (.ref t))) H1 R)
    (q : ∀ (p : Addr) (H2 : Hp), H p = none → Same H H2 → H2 p = some (.lst ((rows.map Row.n).map V.int)) → Q (.ref p) H2) : uLc (iList K tl) (gName j) tYes te [j] σ H Q := by
  have hx : xs.length = rows.length := by rw [dpAll_length al, List.length_map]
  refine lc_map (K := K) (a := a) (xs := xs) (fun i => .int ((rows[i]?.map Row.n).getD 0)) hl htl (by omega) hw (fun i v H3 R e s3 k => ?_) (fun np H3 n3 s3 t3 => ?_)
  · obtain ⟨dd, hd, dv⟩ := dpAll_get al e
    rw [List.getElem?_map] at hd
    obtain ⟨r, er, rfl⟩ := Option.map_eq_some_iff.mp hd
    obtain ⟨t, rfl, ht⟩ := row_at dv
    refine he r t H3 R (same_t s3 ht) ?_
    have z := k H3 (Same.refl H3)
    rw [er] at z
    exact z
  · refine q np H3 n3 s3 ?_
    rw [t3, hx, List.map_map]
    refine congrArg (fun l => some (HO.lst l)) (List.ext_getElem? fun i => ?_)
    rw [List.getElem?_map, List.getElem?_map]
    by_cases c : i < rows.length
    · rw [List.getElem?_range c, List.getElem?_eq_getElem c]
      simp [List.getElem?_eq_getElem c]
    · rw [List.getElem?_eq_none (by simpa using c), List.getElem?_eq_none (by simpa using c)]
      rfl
/-- what is no number of a row -/
def NoNum (K : PySem.W.Frag) (H : Hp) (rows : List Row) (v : V) : Prop := (∃ n, Knd K H v n) ∧ ∀ r ∈ rows, v ≠ .int r.n
theorem odd_nums {K : PySem.W.Frag} {H : Hp} {rows : List Row} {t : Int} (le : ∀ r ∈ rows, 1 ≤ r.n ∧ r.n ≤ t) (ht : t ≤ 1000) {l1 t1 : Addr} {xs ys : List V} (h1 : SqL K H l1 xs) (h2 : SqT K H t1 ys) :
    ∀ v ∈ ([.int 0, .int (-1), .int (t + 1), .int (10 ^ 30), .bl true, .bl false, .non, .str "1", .ref l1, .ref t1] : List V), NoNum K H rows v := fun v hv => by
  simp only [List.mem_cons, List.not_mem_nil, or_false] at hv
  rcases hv with rfl | rfl | rfl | rfl | rfl | rfl | rfl | rfl | rfl | rfl
  · exact ⟨⟨_, .int _⟩, fun r hr e => by have := le r hr; have := V.int.inj e; omega⟩
  · exact ⟨⟨_, .int _⟩, fun r hr e => by have := le r hr; have := V.int.inj e; omega⟩
  · exact ⟨⟨_, .int _⟩, fun r hr e => by have := le r hr; have := V.int.inj e; omega⟩
  · exact ⟨⟨_, .int _⟩, fun r hr e => by have := le r hr; have := V.int.inj e; omega⟩
  · exact ⟨⟨_, .bl _⟩, fun r hr e => by cases e⟩
  · exact ⟨⟨_, .bl _⟩, fun r hr e => by cases e⟩
  · exact ⟨⟨_, .non⟩, fun r hr e => by cases e⟩
  · exact ⟨⟨_, .str _ (by decide +kernel)⟩, fun r hr e => by cases e⟩
  · exact ⟨⟨_, .lst h1⟩, fun r hr e => by cases e⟩
  · exact ⟨⟨_, .tup h2⟩, fun r hr e => by cases e⟩
theorem NoNum.mono {K : PySem.W.Frag} {H H' : Hp} {rows : List Row} {v : V} (s : Same H H') (h : NoNum K H rows v) : NoNum K H' rows v := ⟨h.1.imp fun _ k => k.mono s, h.2⟩
theorem ints_nil (gs : List Int) : PyData.eqv (.list (gs.map PyData.int)) (.list []) = decide (gs = []) := by
  cases gs with
  | nil => simp [PyData.eqv, PyData.eqvAll]
  | cons g gs => simp [PyData.eqv, PyData.eqvAll]
theorem rd__law_no_number {K : PySem.W.Frag} {A : Ad} (T : Tx K A) {vs : List V} {H : Hp} {Q : VK} {E : XK} (h : sp__law_no_number K A vs H Q E) : t__law_no_number K A { nx := fun _ H' => Q .non H', rt := Q } (start N__law_no_number vs) H := by
  obtain ⟨b, d, Ct, most, taken, t, c, rows, w, rfl, B, tk, t0, t1, hC, hw, hlen, q⟩ := h
  obtain ⟨ra, xs, rfl, hR, al⟩ := dp_lst hw
  have le : ∀ r ∈ rows, 1 ≤ r.n ∧ r.n ≤ t := fun r hr => by have := B.le r hr; omega
  have p30 : CPow 10 30 := ⟨by decide, by decide, by decide⟩
  refine ⟨_, _, SqL.of hC, at_nat (j := 0) rfl rfl, p30, szr rfl, fun l1 H1 n1 s1 h1 => ⟨szr rfl, fun u1 H2 n2 s2 h2 => ⟨szr rfl, fun L H3 n3 s3 h3 => ⟨by decide, ?_⟩⟩⟩⟩
  have odd := odd_nums (K := K) (H := H3) le t1 (SqL.of (s3 _ _ (s2 _ _ h1))) (SqT.of (s3 _ _ h2))
  obtain ⟨v, mv, ev⟩ := at_mem (i := c % 10) (xs := ([.int 0, .int (-1), .int (t + 1), .int (10 ^ 30), .bl true, .bl false, .non, .str "1", .ref l1, .ref u1] : List V)) (by omega) (show c % 10 < 10 by omega)
  have s13 := (s1.trans s2).trans s3
  have nv := odd v mv
  refine ⟨_, _, SqL.of h3, ev, ?_⟩
  refine lcd_nums (same_l s13 hR) (dpAll_mono s13 al) (fun R k => k) (by omega) (fun x => rfl) (fun r t H1 R ht k => ⟨_, _, ht, rfl, k⟩) fun kp H4 n4 s4 h4 => ?_
  have s14 := s13.trans s4
  have hC4 := s14 _ _ hC
  refine lcd_range2 (K := K) (lo := 1) (n := t.toNat) (fun i => if ((1 : Int) + i) ∈ rows.map Row.n then none else some (PyData.int (1 + i))) (fun i dd hd => ?_) (by omega) (fun R k => ⟨_, _, SqL.of hC4, at_nat (j := 0) rfl rfl, ?_⟩) (by omega) (fun x => rfl) (fun i H5 R hi s k => ?_) (fun i dd H5 R hi hd s k => ?_) fun gp H5 vs n5 s5 h5 a5 => ?_
  · split at hd
    · cases hd
    · cases hd
      exact TStay.int _
  · have e : (1 : Int) + (t.toNat : Int) = t + 1 := by omega
    rw [e] at k
    exact k
  · refine ⟨rows.map Row.n, SqL.of (s _ _ h4), ?_⟩
    by_cases m : (1 : Int) + (i : Int) ∈ rows.map Row.n
    · rw [if_pos m] at k
      show R (!decide ((1 : Int) + (i : Int) ∈ rows.map Row.n)) H5
      rw [decide_eq_true m]
      exact k
    · rw [if_neg m] at k
      show R (!decide ((1 : Int) + (i : Int) ∈ rows.map Row.n)) H5
      rw [decide_eq_false m]
      exact k
  · split at hd
    · cases hd
    · cases hd
      exact k _ H5 (Same.refl H5) (.int _)
  have s15 := s14.trans s5
  have gone : ∃ gs : List Int, vs = gs.map V.int ∧ gs.length ≤ 1000 ∧ ∀ g ∈ gs, ¬ g ∈ rows.map Row.n := by
    have ef : (List.range t.toNat).filterMap (fun i : Nat => if ((1 : Int) + i) ∈ rows.map Row.n then none else some (PyData.int (1 + i))) = ((List.range t.toNat).filterMap (fun i : Nat => if ((1 : Int) + i) ∈ rows.map Row.n then none else some ((1 : Int) + i))).map PyData.int := by
      rw [List.map_filterMap]
      refine congrArg (fun f => List.filterMap f _) (funext fun i => ?_)
      split <;> rfl
    rw [ef] at a5
    refine ⟨_, dp_ints a5, Nat.le_trans (List.length_filterMap_le ..) (by rw [List.length_range]; omega), fun g hg => ?_⟩
    obtain ⟨i, _, e⟩ := List.mem_filterMap.mp hg
    split at e
    · cases e
    · cases e
      assumption
  obtain ⟨gs, rfl, lg, ng⟩ := gone
  have gl : (gs.map V.int).length = gs.length := List.length_map ..
  refine ⟨fun σ' H' => ∃ (v : V), σ' = [some (.ref b), some (.ref Ct), some (.ref ra), some (.int c), some v, some (.ref kp), none, some (.ref gp), none, none, none] ∧ Same H H' ∧ NoNum K H' rows v, ?_, ?_⟩
  · refine ⟨by decide, by decide, ⟨fun _ => ⟨szr rfl, fun ep H6 n6 s6 t6 => ⟨.list (gs.map PyData.int), .list [], .lst (SqL.of (s6 _ _ h5)) (dpAll_ints gs), .lst (SqL.of t6) .nil, ints_shaped gs, by decide, ?_⟩⟩, fun _ => br_f ⟨v, rfl, s15, nv.mono (s4.trans s5)⟩⟩⟩
    rw [ints_nil]
    refine ⟨fun e => ?_, fun e => ⟨v, rfl, s15.trans s6, nv.mono ((s4.trans s5).trans s6)⟩⟩
    have ne : gs ≠ [] := by simpa using e
    have pos : 0 < gs.length := List.length_pos_iff.mpr ne
    have ix0 : 0 ≤ c / 30 % ((gs.map V.int).length : Int) := Int.emod_nonneg _ (by omega)
    have ix1 : c / 30 % ((gs.map V.int).length : Int) < gs.length := by
      rw [gl]
      exact Int.emod_lt_of_pos _ (by omega)
    obtain ⟨y, my, ey⟩ := at_map V.int (xs := gs) ix0 ix1
    have h6 := s6 _ _ h5
    exact ⟨by decide, _, .inl (SqL.of h6), by omega, _, _, SqL.of h6, ey, .int y, rfl, s15.trans s6, ⟨_, .int y⟩, fun r hr e => ng y my (List.mem_map.mpr ⟨r, hr, (V.int.inj e).symm⟩)⟩
  · rintro σ' H4 ⟨v, rfl, s4, ⟨n, kv⟩, no⟩
    have B4 := B.mono s4
    obtain ⟨dx, hi⟩ := B4.ins
    refine ⟨fun σ H' => ∃ (a : Addr), σ = [some (.ref b), some (.ref Ct), some (.ref ra), some (.int c), some v, some (.ref kp), none, some (.ref gp), none, some (.ref a), none] ∧ H' a = some (ErO (.ref (A.er .number)) none a) ∧ Same H H', ?_, ?_⟩
    · refine ⟨by decide, by decide, ⟨fun _ => ?_, fun _ => ?_⟩⟩
      · refine ⟨⟨dx, _, hi, rfl⟩, b, d, most, taken, rows, v, n, rfl, B4, kv, fun _ => ?_, fun r hr e => absurd e (no r hr)⟩
        exact ⟨true, T.peg .number, fun _ a na H2 na2 s2 t2 => ⟨a, rfl, t2, s4.trans s2⟩, fun z => nomatch z⟩
      · refine ⟨⟨dx, _, hi, rfl⟩, b, d, most, taken, rows, v, n, rfl, B4, kv, hlen, fun _ => ?_, fun r hr e => absurd e (no r hr)⟩
        exact ⟨true, T.peg .number, fun _ a na H2 na2 s2 t2 => ⟨a, rfl, t2, s4.trans s2⟩, fun z => nomatch z⟩
    · rintro σ H5 ⟨a, rfl, ha, s5⟩
      exact br_t ⟨a, none, .number, rfl, ha, True.intro, fun H6 s6 => q H6 (s5.trans s6)⟩
/-! ### _law_way_told -/
abbrev N__law_way_told : List Str := ["_law_book", "_law_rows_here", "_law_tops_here", "_law_one", "_law_other", "_law_held", "_law_number", "_law_found", "_law_refused", "_law_near_here", "_law_e"]
def sp__law_way_told (K : PySem.W.Frag) (A : Ad) : Sp := fun vs H Q _ => ∃ (td b d R Ct hl : Addr) (most taken n : Int) (rows : List Row) (m : Nat) (P : List Str) (T : Tops) (one other : Str), vs = [.ref b, .ref R, .ref td, .str one, .str other, .ref hl, .int n] ∧ BH K A H b d R Ct hl most taken rows m ∧ m ≤ 4999 ∧
  TopAt K H td T ∧ TopOf rows T ∧ Pool P rows ∧ P.length < 64 ∧ Pg one ∧ Pg other ∧ one ∈ P ∧ rows.length ≤ 1000 ∧
  ∀ H', ChdL [hl] H H' → Tups H H' → BH K A H' b d R Ct hl most taken rows (m + 1) → Q (.bl true) H'
def t__law_way_told (K : PySem.W.Frag) (A : Ad) : TS :=
  (tSeq (tAsg (tC .non) (gName 7))
  (tSeq (tAsg (tC .non) (gName 8))
  (tSeq (tAsg (uLst tNil) (gName 9))
  (Evl.tCut (uTryK K (.ref A.NoWay) 10 (fun a cls d => (tSeq (tAsg (uVar 10) (gName 8))
  (tAsg (tXf a cls d A.NoWay "near" (uVar 10)) (gName 9)))) (fun W => (tAsg (uMethS A.Book "way" (sp_Book_way K A) (WE W) (uVar 0) (tCons (uVar 3) (tCons (uVar 4) tNil))) (gName 7))))
  (tSeq (uIfS (uT (tOp (cNon true) (tCall (sp__law_gap K) [] E0 (tCons (uVar 2) (tCons (uVar 3) (tCons (uVar 4) tNil)))) (tC .non)))
  (tRet (tCall (sp__law_near K A) [] E0 (tCons (uVar 8) (tCons (uVar 9) (tCons (uVar 2) (tCons (uVar 3) (tCons (uVar 5) (tCons (uVar 6) tNil))))))))
  tNext)
  (tSeq (uIfS (uOr (uT (tOp (cNon false) (uVar 8) (tC .non))) (uNot (uT (tCall (sp__law_way K) [] E0 (tCons (uVar 7) (tCons (uVar 1) (tCons (uVar 3) (tCons (uVar 4) tNil))))))))
  (tRet (tC (.bl false)))
  tNext)
  (tRet (tCall (sp__law_keep K) [] E0 (tCons (uVar 5) (tCons (uVar 7) (tCons (tCB (cList K) (tCons (uVar 7) tNil)) (tCons (uVar 6) tNil))))))))))))
theorem rd__law_way_told {K : PySem.W.Frag} {A : Ad} (T : Tx K A) {vs : List V} {H : Hp} {Q : VK} {E : XK} (h : sp__law_way_told K A vs H Q E) : t__law_way_told K A { nx := fun _ H' => Q .non H', rt := Q } (start N__law_way_told vs) H := by
  obtain ⟨td, b, d, R, Ct, hl, most, taken, n, rows, m, P, U, one, other, rfl, BB, hm, hU, tU, oP, lP, po, pt, o1, hlen, q⟩ := h
  refine ⟨szr rfl, fun e0 H0 n0 s0 t0 => ?_⟩
  have B0 := BB.bs.book.mono s0
  obtain ⟨dx, hi⟩ := B0.ins
  refine ⟨fun σ H' => (∃ (p : Addr) (xs : List V) (ss : List Row), σ = [some (.ref b), some (.ref R), some (.ref td), some (.str one), some (.str other), some (.ref hl), some (.int n), some (.ref p), some .non, some (.ref e0), none] ∧ Same H H' ∧ H p = none ∧ H' p = some (.lst xs) ∧ DpAll K H' xs (ss.map rowD) ∧ Way rows one ss other ∧ Simple ss other ∧ ss.length ≤ 2001) ∨
      (¬ Reach rows one other ∧ ∃ (a dd p : Addr) (ys : List Str), σ = [some (.ref b), some (.ref R), some (.ref td), some (.str one), some (.str other), some (.ref hl), some (.int n), some .non, some (.ref a), some (.ref p), none] ∧ H' a = some (ErO (.ref (A.er .way)) (some dd) a) ∧ DictOk H' (some dd) ∧ Same H H' ∧ H p = none ∧
        H' p = some (.lst (ys.map V.str)) ∧ PartOf rows one ys), ?_, ?_⟩
  · refine ⟨⟨dx, _, hi, rfl⟩, b, d, most, taken, rows, .str one, .str other, rfl, B0, hlen, po.s7, pt.s7, fun e => ?_, fun o1' o2' e1 e2 _ => ?_⟩
    · have e : (pegS one && pegS other) = false := e
      rw [po.pegS, pt.pegS] at e
      cases e
    · cases V.str.inj e1
      cases V.str.inj e2
      refine ⟨P, o1, oP, lP, fun p H1 xs ss np s1 hp al W S hss => .inl ⟨p, xs, ss, rfl, s0.trans s1, s0.free np, hp, al, W, S, hss⟩, fun nr H1 dd p ys np s1 hdd hp nd so mem => ?_⟩
      · refine ⟨true, T.slf .way, fun _ a na => ?_, fun z => nomatch z⟩
        refine ⟨rfl, rfl, dd, _, .ref p, rfl, hdd, rfl, fun H2 na2 s2 t2 => .inr ⟨nr, a, dd, p, ys, rfl, t2, ⟨_, s2 _ _ hdd⟩, (s0.trans s1).trans s2, s0.free np, s2 _ _ hp, nd, so, mem⟩⟩
  · rintro σ H1 (⟨p, xs, ss, rfl, s1, np, hp, al, W, S, hss⟩ | ⟨nr, a, dd, p, ys, rfl, ha, hdd, s1, np, hp, py⟩)
    · obtain ⟨xr, hR, alr⟩ := BB.bs.rl
      refine ⟨td, U, rows, one, other, rfl, hU.mono s1, tU, ?_⟩
      cases g : U.gap one other with
      | none => exact absurd ⟨ss, W⟩ (tU.gap_none g)
      | some x =>
        have hxl : xs.length = ss.length := by rw [dpAll_length al, List.length_map]
        refine br_f (br_f ⟨p, .ref R, one, other, xs, ss, rows, rfl, SqL.of hp, al, .lst (SqL.of (s1 _ _ hR)) (dpAll_mono s1 alr), BB.bs.pgs.ok, W, S, hss, fun H2 s2 => br_f ?_⟩)
        refine ⟨_, .inl (SqL.of (s2 _ _ hp)), fun c H3 n3 s3 t3 => ?_⟩
        have s03 := (s1.trans s2).trans s3
        have s13 := s2.trans s3
        have nc := (s1.trans s2).free n3
        have B3 := BB.mono s03
        refine BB.keep (E := E0) hm s03 np nc (s13 _ _ hp) (by omega) (Hold.lst B3.inL (BB.new np) (s13 _ _ hp) (dpAll_mono s13 al) (tstay_rows ss)) (Hold.lst B3.inL (BB.new nc) t3 (dpAll_mono s13 al) (tstay_rows ss)) (canAll_rows (W.ok BB.bs.pgs.ok)) q
    · refine ⟨td, U, rows, one, other, rfl, hU.mono s1, tU, ?_⟩
      rw [(tU.gap_none_iff one other).mpr nr]
      exact br_t ⟨H, a, dd, p, td, b, d, R, Ct, hl, most, taken, n, rows, m, ys, P, U, one, rfl, BB, hm, s1, np, ha, hdd, hp, py, hU.mono s1, tU, oP, lP, po, o1, q⟩
/-! ### _law_spare -/
abbrev N__law_spare : List Str := ["_law_book", "_law_rows_here", "_law_number", "_law_row", "_law_left", "_law_other", "_law_found"]
def sp__law_spare (K : PySem.W.Frag) (A : Ad) : Sp := fun vs H Q _ => ∃ (b d : Addr) (most taken n : Int) (rows : List Row) (v : V), vs = [.ref b, v, .int n] ∧ BookAt K A H b d most taken rows ∧ Dp K H v (rowsD rows) ∧ Agr rows ∧ Pgs rows ∧ rows.length ≤ 1000 ∧ ∀ H', Same H H' → Q (.bl true) H'
def t__law_spare (K : PySem.W.Frag) (A : Ad) : TS :=
  (tSeq (uIfS (uT (tOp (rEqD K) (uVar 1) (uLst tNil)))
  (tRet (tC (.bl true)))
  tNext)
  (tSeq (tAsg (tOp (cIxL K) (uVar 1) (tOp kMod (uVar 2) (tCB (cLenQ K) (tCons (uVar 1) tNil)))) (gName 3))
  (tSeq (tAsg (uLc (iList K (uVar 1)) (gName 5) (uT (tOp (rNeD K) (uVar 5) (uVar 3))) (uVar 5) [5]) (gName 4))
  (tSeq (tAsg (uMeth A.Book "spare" (sp_Book_spare K A) E0 (uVar 0) (tCons (tOp (cIxT K) (uVar 3) (tC (.int 0))) tNil)) (gName 6))
  (tRet (uAndV (tCB (cIsi K) (tCons (uVar 6) (tCons (tC (.ty "bool")) tNil))) (tOp kEqB (uVar 6) (tOp (cNon false) (tCall (sp__law_gap K) [] E0 (tCons (tCall (sp__law_tops K) [] E0 (tCons (uVar 4) tNil)) (tCons (tOp (cIxT K) (uVar 3) (tC (.int 1))) (tCons (tOp (cIxT K) (uVar 3) (tC (.int 2))) tNil)))) (tC .non)))))))))
theorem rowsD_nil (rows : List Row) : PyData.eqv (rowsD rows) (.list []) = decide (rows = []) := by
  show PyData.eqv (.list _) (.list _) = _
  rw [PyData.eqv]
  exact rowsD_eqv rows []
theorem filter_ne {rows : List Row} (nd : (rows.map Row.n).Nodup) {r : Row} (hr : r ∈ rows) : (rows.filter fun s => decide (s ≠ r)) = rows.filter fun s => decide (s.n ≠ r.n) := by
  refine List.filter_congr fun s hs => ?_
  by_cases e : s = r
  · rw [e]; simp
  · have : s.n ≠ r.n := fun z => e (nd_inj nd hs hr z)
    simp [e, this]
theorem rd__law_spare {K : PySem.W.Frag} {A : Ad} (T : Tx K A) {vs : List V} {H : Hp} {Q : VK} {E : XK} (h : sp__law_spare K A vs H Q E) : t__law_spare K A { nx := fun _ H' => Q .non H', rt := Q } (start N__law_spare vs) H := by
  obtain ⟨b, d, most, taken, n, rows, v, rfl, B, hv, ag, pgs, hlen, q⟩ := h
  refine ⟨szr rfl, fun e0 H0 n0 s0 t0 => ⟨rowsD rows, .list [], dp_mono s0 hv, .lst (SqL.of t0) .nil, rowsD_shaped pgs.ok, by decide, ?_⟩⟩
  rw [rowsD_nil]
  refine ⟨fun _ => q H0 s0, fun e => ?_⟩
  have ne : rows ≠ [] := by simpa using e
  have pos : 0 < rows.length := List.length_pos_iff.mpr ne
  obtain ⟨a, xs, rfl, hl, al⟩ := dp_lst (dp_mono s0 hv)
  have hx : xs.length = rows.length := by rw [dpAll_length al, List.length_map]
  have ix0 : 0 ≤ n % (xs.length : Int) := Int.emod_nonneg _ (by omega)
  have ix1 : n % (xs.length : Int) < xs.length := Int.emod_lt_of_pos _ (by omega)
  have hk : (n % (xs.length : Int)).toNat < xs.length := by omega
  have ey : xs[(n % (xs.length : Int)).toNat]? = some (xs[(n % (xs.length : Int)).toNat]'hk) := List.getElem?_eq_getElem hk
  obtain ⟨dd, hdd, dv⟩ := dpAll_get al ey
  rw [List.getElem?_map] at hdd
  obtain ⟨r, er, rfl⟩ := Option.map_eq_some_iff.mp hdd
  obtain ⟨tr, etr, htr⟩ := row_at dv
  rw [etr] at ey
  have hr : r ∈ rows := List.mem_of_getElem? er
  refine ⟨_, .inl hl, by omega, _, _, hl, at_nat (j := (n % (xs.length : Int)).toNat) (by omega) ey, ?_⟩
  refine lcd_list (K := K) (a := a) (xs := xs) (fun i => (rows[i]?).bind fun s => if decide (s ≠ r) then some (rowD s) else none) (fun i dd hd => ?_) hl (fun R h => h) (by omega) (fun x => rfl) (fun i x H1 R ex s1 k => ?_) (fun i x dd H1 R ex hd s1 k => ?_) fun p H1 vs n1 s1 t1 a1 => ?_
  · obtain ⟨c, _, h⟩ := Option.bind_eq_some_iff.mp hd
    split at h
    · cases h; exact TStay.row _
    · cases h
  · obtain ⟨d2, hd2, dx⟩ := dpAll_get al ex
    rw [List.getElem?_map] at hd2
    obtain ⟨s, es, rfl⟩ := Option.map_eq_some_iff.mp hd2
    have hs : s ∈ rows := List.mem_of_getElem? es
    refine ⟨rowD s, rowD r, dp_mono s1 dx, row_mk (same_t s1 htr), rowD_shaped (pgs.ok s hs), rowD_shaped (pgs.ok r hr), ?_⟩
    rw [rowD_eqv]
    rw [es] at k
    have k : R (if decide (s ≠ r) = true then some (rowD s) else none).isSome H1 := k
    by_cases z : s = r
    · rw [if_neg (by simp [z])] at k
      rw [decide_eq_true z]
      exact k
    · rw [if_pos (by simp [z])] at k
      rw [decide_eq_false z]
      exact k
  · obtain ⟨d2, hd2, dx⟩ := dpAll_get al ex
    rw [List.getElem?_map] at hd2
    obtain ⟨s, es, rfl⟩ := Option.map_eq_some_iff.mp hd2
    rw [es] at hd
    have hd : (if decide (s ≠ r) = true then some (rowD s) else none) = some dd := hd
    split at hd
    · cases hd
      exact k x H1 (Same.refl H1) (dp_mono s1 dx)
    · cases hd
  · rw [hx, filt_rows rows (fun s => decide (s ≠ r)), filter_ne B.nd hr] at a1
    have s01 := s0.trans s1
    have B1 := B.mono s01
    have htr1 := same_t s1 htr
    obtain ⟨dx, hi⟩ := B1.ins
    refine ⟨⟨dx, _, hi, rfl⟩, _, _, htr1, rfl, b, d, most, taken, rows, .int r.n, "int", rfl, B1, .int _, hlen, fun no => absurd rfl (no r hr), fun r' hr' e k' H3 s3 hk' => ?_⟩
    have er' : r' = r := nd_inj B.nd hr' hr (V.int.inj e).symm
    subst er'
    refine ⟨"bool", true, .base (.bl k'), by decide +kernel, br_t ?_⟩
    obtain ⟨f, hf⟩ := ag.sub (Row.filter_sub (rows := rows) (n := r'.n))
    have htr3 := same_t s3 htr1
    refine ⟨p, vs, _, f, rfl, SqL.of (s3 _ _ t1), dpAll_mono s3 a1, hf, Nat.le_trans (List.length_filter_le ..) hlen, fun td U H4 n4 s4 hU tU => ?_⟩
    have htr4 := same_t s4 htr3
    refine ⟨_, _, htr4, rfl, _, _, htr4, rfl, td, U, _, r'.one, r'.other, rfl, hU, tU, ?_⟩
    have ek : k' = (U.gap r'.one r'.other).isSome := by
      have z := tU.isSome r'.one r'.other
      cases k' <;> cases g : (U.gap r'.one r'.other).isSome <;> rw [g] at z <;> first | rfl | exact absurd (hk'.mpr (z.mp rfl)) Bool.false_ne_true | exact absurd (z.mpr (hk'.mp rfl)) Bool.false_ne_true
    refine tC_gap ?_
    show Q (.bl (decide (k' = (U.gap r'.one r'.other).isSome))) H4
    rw [decide_eq_true ek]
    exact q H4 ((s01.trans s3).trans s4)
/-! ### _law_asked -/
abbrev N__law_asked : List Str := ["_law_book", "_law_rows_here", "_law_some", "_law_number", "_law_ask", "_law_held", "_law_tops_here", "_law_one", "_law_other", "_law_found", "_law_part_here"]
def sp__law_asked (K : PySem.W.Frag) (A : Ad) : Sp := fun vs H Q _ => ∃ (b d R Ct hl pp : Addr) (most taken n ask : Int) (rows : List Row) (m : Nat) (P : List Str), vs = [.ref b, .ref R, .ref pp, .int n, .int ask, .ref hl] ∧ BH K A H b d R Ct hl most taken rows m ∧ m ≤ 4999 ∧ SqL K H pp (P.map V.str) ∧ P ≠ [] ∧ (∀ z ∈ P, Pg z) ∧ Pool P rows ∧ P.length < 60 ∧ rows.length ≤ 900 ∧ 0 ≤ n ∧ n < 2 ^ 62 ∧
  ∀ H', ChdL [hl] H H' → Tups H H' → BH K A H' b d R Ct hl most taken rows (m + 1) → Q (.bl true) H'
def t__law_asked (K : PySem.W.Frag) (A : Ad) : TS :=
  (tSeq (tAsg (tCall (sp__law_tops K) [] E0 (tCons (uVar 1) tNil)) (gName 6))
  (tSeq (tAsg (tOp (cIxL K) (uVar 2) (tOp kMod (tOp kMod (tOp kMul (uVar 3) (tC (.int 39373))) (tC (.int 999953))) (tCB (cLenQ K) (tCons (uVar 2) tNil)))) (gName 7))
  (tSeq (tAsg (tOp (cIxL K) (uVar 2) (tOp kMod (tOp kMod (tOp kMul (uVar 3) (tC (.int 742938285))) (tC (.int 999931))) (tCB (cLenQ K) (tCons (uVar 2) tNil)))) (gName 8))
  (tSeq (uIfS (uT (tOp kEqI (uVar 4) (tC (.int 0))))
  (tRet (tCall (sp__law_rise K A) [] E0 (tCons (uVar 0) (tCons (uVar 6) (tCons (uVar 7) (tCons (uVar 8) (tCons (uVar 5) (tCons (uVar 3) tNil))))))))
  tNext)
  (tSeq (uIfS (uT (tOp kEqI (uVar 4) (tC (.int 1))))
  (tRet (tCall (sp__law_way_told K A) [] E0 (tCons (uVar 0) (tCons (uVar 1) (tCons (uVar 6) (tCons (uVar 7) (tCons (uVar 8) (tCons (uVar 5) (tCons (uVar 3) tNil)))))))))
  tNext)
  (tSeq (uIfS (uT (tOp kEqI (uVar 4) (tC (.int 2))))
  (tSeq (tAsg (uMeth A.Book "parts" (sp_Book_parts K A) E0 (uVar 0) tNil) (gName 9))
  (tSeq (uIfS (uNot (uT (tCall (sp__law_alike K) [] E0 (tCons (uVar 9) (tCons (tCall (sp__law_parts K) [] E0 (tCons (uVar 6) tNil)) tNil)))))
  (tRet (tC (.bl false)))
  tNext)
  (Evl.tCut (uIfS (uAnd (uT (tOp kGt (tCB (cLenQ K) (tCons (uVar 9) tNil)) (tC (.int 0)))) (uT (tOp kEqI (tOp kMod (uVar 3) (tC (.int 4))) (tC (.int 1)))))
  (tDrop (tBM K "list" cApp (tOp (cIxL K) (uVar 9) (tC (.int 0))) (tCons (tC (.str "")) tNil)))
  tNext)
  (tRet (tCall (sp__law_keep K) [] E0 (tCons (uVar 5) (tCons (uVar 9) (tCons (uLc (iList K (uVar 9)) (gName 10) tYes (tCB (cList K) (tCons (uVar 10) tNil)) [10]) (tCons (tOp kDiv (uVar 3) (tC (.int 4))) tNil)))))))))
  tNext)
  (tSeq (uIfS (uT (tOp kEqI (uVar 4) (tC (.int 3))))
  (tSeq (tAsg (uMeth A.Book "heights" (sp_Book_heights K A) E0 (uVar 0) tNil) (gName 9))
  (tRet (uAndV (tCall (sp__law_heights K) [] E0 (tCons (uVar 9) (tCons (uVar 1) (tCons (uVar 6) tNil)))) (tCall (sp__law_keep K) [] E0 (tCons (uVar 5) (tCons (uVar 9) (tCons (tCB (cList K) (tCons (uVar 9) tNil)) (tCons (uVar 3) tNil))))))))
  tNext)
  (tSeq (uIfS (uT (tOp kEqI (uVar 4) (tC (.int 4))))
  (tRet (tCall (sp__law_spare K A) [] E0 (tCons (uVar 0) (tCons (uVar 1) (tCons (uVar 3) tNil)))))
  tNext)
  (tSeq (tAsg (uMeth A.Book "kept" (sp_Book_kept K A) E0 (uVar 0) tNil) (gName 9))
  (tRet (uAndV (tCall (sp__law_rows K) [] E0 (tCons (uVar 9) (tCons (uVar 1) tNil))) (tCall (sp__law_keep K) [] E0 (tCons (uVar 5) (tCons (uVar 9) (tCons (tCB (cList K) (tCons (uVar 9) tNil)) (tCons (uVar 3) tNil))))))))))))))))
theorem pegs_tops {rows : List Row} {T : Tops} (h : TopOf rows T) {ys : List Str} (pm : ys.Perm T.D) (so : sortedS ys = true) : Pegs rows ys := ⟨pm.nodup_iff.mpr h.nd, so, fun z => by rw [pm.mem_iff, h.dom]⟩
theorem pairs_shaped {ys : List Str} (g : Str → Int) (h : ∀ z ∈ ys, PyData.strOk z = true) : Alike (.list (ys.map fun z => pairD z (g z))) := by
  have e1 : ∀ l : List Str, (∀ z ∈ l, PyData.strOk z = true) → PyData.canLayAll0 (l.map fun z => pairD z (g z)) = true := fun l => by
    induction l with
    | nil => intro _; simp [PyData.canLayAll0]
    | cons n l ih => intro k; simp [PyData.canLayAll0, PyData.canLay0, pairD, k n (List.mem_cons_self ..)]; exact ih fun z hz => k z (List.mem_cons_of_mem _ hz)
  have e2 : ∀ l : List Str, PyData.depthAll (l.map fun z => pairD z (g z)) ≤ 1 := fun l => by
    induction l with
    | nil => simp [PyData.depthAll]
    | cons n l ih =>
      have e : (pairD n (g n)).depth = 1 := by simp [pairD, PyData.depth, PyData.depthAll]
      simp only [List.map_cons, PyData.depthAll]
      have ih : PyData.depthAll (l.map fun z => pairD z (g z)) ≤ 1 := ih
      omega
  refine ⟨?_, ?_⟩
  · show ((PyData.list (ys.map fun z => pairD z (g z))).canLay0 && decide ((PyData.list (ys.map fun z => pairD z (g z))).depth ≤ 64)) = true
    rw [Bool.and_eq_true]
    refine ⟨by simp only [PyData.canLay0]; exact e1 ys h, decide_eq_true ?_⟩
    have := e2 ys
    simp only [PyData.depth]
    omega
  · show PyData.eqv (.list _) (.list _) = true
    rw [PyData.eqv]
    clear e1 e2 h
    induction ys with
    | nil => simp [PyData.eqvAll]
    | cons n l ih =>
      have e : PyData.eqv (pairD n (g n)) (pairD n (g n)) = true := by simp [pairD, PyData.eqv, PyData.eqvAll]
      simp only [List.map_cons, PyData.eqvAll, e, Bool.true_and]
      exact ih
theorem parts_mem {rows : List Row} {ys : List Str} {ps : List (List Str)} (h : PartsOf rows ys ps) {part : List Str} (m : part ∈ ps) : ∃ z ∈ ys, PartOf rows z part := by
  obtain ⟨z, hz, pz⟩ := Paired.left h part m
  exact ⟨z, (mem_firsts.mp hz).1, pz⟩
/-- lists copied, one by one -/
theorem lc_copies {K : PySem.W.Frag} {N : Addr → Prop} {H : Hp} {a : Addr} {xs : List V} {ps : List (List Str)} {tl te : TE} {j : Nat} {σ : L2.St} {Q : VK} (ha : H a = some (.lst xs)) (ls : StrLs N H xs ps) (htl : ∀ R, R (.ref a) H → tl σ H R) (hlen : xs.length ≤ 1000) (hw : ∀ x, wipe ((wipe σ [j]).set j (some x)) [j] = wipe σ [j])
    (he : ∀ (q : Addr) (ys : List Str) (H1 : Hp) (R : VK), H1 q = some (.lst (ys.map V.str)) → (∀ (c : Addr) (H2 : Hp), H1 c = none → Same H1 H2 → H2 c = some (.lst (ys.map V.str)) → R (.ref c) H2) → te ((wipe σ [j]).set j (some (.ref q))) H1 R)
    (q : ∀ (p : Addr) (H2 : Hp) (vs : List V), H p = none → Same H H2 → H2 p = some (.lst vs) → StrLs (fun c => H c = none) H2 vs ps → Q (.ref p) H2) : uLc (iList K tl) (gName j) tYes te [j] σ H Q := by
  have hl : xs.length = ps.length := Paired.length ls
  refine uLc_of (htl _ ⟨a, rfl, ⟨xs, SqL.of ha⟩, fun D hD => lc_list (K := K) (a := a) (xs := xs) (fun i H' => Same H H' ∧ ∃ vs, H' D = some (.lst vs) ∧ vs.length ≤ i ∧ StrLs (fun c => H c = none ∧ c ≠ D) H' vs (ps.take i)) ⟨same_new hD, [], upd_same, Nat.le_refl _, .nil⟩ (fun i H' _ h => same_l h.1 (SqL.of ha)) ?_ ?_⟩)
  · rintro i x H' e ⟨s, vs, hd, hv, lv⟩
    have hi : i < ps.length := by rw [← hl]; exact (List.getElem?_eq_some_iff.mp e).1
    obtain ⟨part, ep⟩ : ∃ part, ps[i]? = some part := ⟨_, List.getElem?_eq_getElem hi⟩
    obtain ⟨q0, rfl, _, hq⟩ := Paired.get2 ls e ep
    refine ⟨hw _, ?_⟩
    unfold tYes
    dsimp only
    rw [if_pos rfl]
    refine he q0 part H' _ (s _ _ hq) fun c H2 nc s2 t2 => ⟨vs, s2 _ _ hd, szl (by omega), same_mut (s.trans s2) hD, vs ++ [.ref c], upd_same, by rw [List.length_append]; exact Nat.succ_le_succ hv, ?_⟩
    have cD : c ≠ D := fun z => by rw [z, hd] at nc; cases nc
    rw [List.take_add_one, ep]
    have l2 : StrLs (fun c => H c = none ∧ c ≠ D) (upd H2 D (.lst (vs ++ [.ref c]))) vs (ps.take i) := (lv.mono s2).chd chd_upd fun q n => n.2
    exact l2.snoc ⟨s.free nc, cD⟩ (by rw [upd_ne cD]; exact t2)
  · rintro H' ⟨s, vs, hd, hv, lv⟩
    rw [hl, List.take_length] at lv
    exact q D H' vs hD s hd (lv.imp fun _ n => n.1)
theorem StrLs.hold {K : PySem.W.Frag} {N : Addr → Prop} {l : List Addr} {H : Hp} (hN : ∀ q, N q → ¬ q ∈ l) : ∀ {xs : List V} {ps : List (List Str)}, StrLs N H xs ps → DpAll K (cutH l H) xs (ps.map strsD)
  | _, _, .nil => .nil
  | _, _, .cons a t => by
    obtain ⟨q, rfl, n, h⟩ := a
    exact .cons (strsD_mk (SqL.of (by rw [cutH_at (hN q n)]; exact h))) (StrLs.hold hN t)
theorem rd__law_asked {K : PySem.W.Frag} {A : Ad} (T : Tx K A) {vs : List V} {H : Hp} {Q : VK} {E : XK} (h : sp__law_asked K A vs H Q E) : t__law_asked K A { nx := fun _ H' => Q .non H', rt := Q } (start N__law_asked vs) H := by
  obtain ⟨b, d, R, Ct, hl, pp, most, taken, n, ask, rows, m, P, rfl, BB, hm, hpp, pne, pz, hP, lP, hlen, n0, nb, q⟩ := h
  have S := BB.bs
  obtain ⟨xs, hR, al⟩ := S.rl
  obtain ⟨f, hf⟩ := S.agr
  have ag : Agr rows := ⟨f, hf⟩
  have pl : (P.map V.str).length = P.length := List.length_map ..
  have pos : 0 < P.length := List.length_pos_iff.mpr pne
  refine ⟨R, xs, rows, f, rfl, SqL.of hR, al, hf, by omega, fun td U H1 n1 s1 hU tU => ?_⟩
  have hpp1 := same_l s1 hpp
  obtain ⟨one, m1, e1⟩ := at_map V.str (xs := P) (i := n * 39373 % 999953 % ((P.map V.str).length : Int)) (Int.emod_nonneg _ (by omega)) (by rw [pl]; exact Int.emod_lt_of_pos _ (by omega))
  obtain ⟨other, m2, e2⟩ := at_map V.str (xs := P) (i := n * 742938285 % 999931 % ((P.map V.str).length : Int)) (Int.emod_nonneg _ (by omega)) (by rw [pl]; exact Int.emod_lt_of_pos _ (by omega))
  refine ⟨.inr (by decide), by decide, _, .inl hpp1, by rw [pl]; omega, _, _, hpp1, e1, .inr (by decide), by decide, _, .inl hpp1, by rw [pl]; omega, _, _, hpp1, e2, ?_⟩
  have B1 := BB.mono s1
  have go : ∀ {H' H'' : Hp}, Same H H' → ChdL [hl] H' H'' → Tups H' H'' → BH K A H'' b d R Ct hl most taken rows (m + 1) → Q (.bl true) H'' := fun s c tp B => q _ ((ChdL.of s).trans c) ((tups_of s).trans tp) B
  obtain ⟨dx1, hi1⟩ := B1.bs.book.ins
  have lD : U.D.length < 64 := by have := tU.len hP; omega
  refine ⟨fun _ => ?_, fun _ => ⟨fun _ => ?_, fun _ => ⟨fun _ => ?_, fun _ => ⟨fun _ => ?_, fun _ => ⟨fun _ => ?_, fun _ => ?_⟩⟩⟩⟩⟩
  · exact ⟨td, b, d, R, Ct, hl, most, taken, n, rows, m, P, U, one, other, rfl, B1, hm, hU, tU, hP, by omega, pz _ m1, pz _ m2, m1, by omega, fun H2 c tp B => go s1 c tp B⟩
  · exact ⟨td, b, d, R, Ct, hl, most, taken, n, rows, m, P, U, one, other, rfl, B1, hm, hU, tU, hP, by omega, pz _ m1, pz _ m2, m1, by omega, fun H2 c tp B => go s1 c tp B⟩
  · -- parts
    refine ⟨⟨dx1, _, hi1, rfl⟩, b, d, most, taken, rows, P, rfl, B1.bs.book, by omega, hP, by omega, fun p H2 xp ps ys np s2 hp lps pnd pln hy po => ?_⟩
    refine ⟨td, U, rows, ys, rfl, hU.mono s2, tU, lD, hy, fun w H3 xw qs nw s3 hw lqs qo => ?_⟩
    have eps : ps = qs := paired_uniq po qo
    subst eps
    have okp : ∀ part ∈ ps, ∀ z ∈ part, Pg z := fun part hpart z hz => by
      obtain ⟨y, hy', py⟩ := parts_mem po hpart
      have py1 : Pg y := by
        obtain ⟨r, hr, e | e⟩ := (hy.mem y).mp hy'
        · rw [e]; exact (S.pgs r hr).1
        · rw [e]; exact (S.pgs r hr).2
      exact reach_pg S.pgs py1 ((py.mem z).mp hz)
    have ok : ∀ part ∈ ps, ∀ z ∈ part, PyData.strOk z = true := fun part hpart z hz => (okp part hpart z hz).ok
    have s03 := (s1.trans s2).trans s3
    have hp3 := s3 _ _ hp
    have lps3 := lps.mono s3
    refine ⟨_, _, p, w, xp, xw, ps, rfl, hp3, lps3, hw, lqs, ok, by omega, fun H4 s4 => br_f ?_⟩
    have s04 := s03.trans s4
    have np0 : H p = none := s1.free np
    have hp4 := s4 _ _ hp3
    have lps4 := lps3.mono s4
    -- behind the change of the first part
    have rest : ∀ (H5 : Hp) (ps' : List (List Str)), Same H H5 → H5 p = some (.lst xp) → StrLs (fun q => H1 q = none ∧ q ≠ p) H5 xp ps' → (∀ part ∈ ps', ∀ z ∈ part, PyData.strOk z = true) →
        (tRet (tCall (sp__law_keep K) [] E0 (tCons (uVar 5) (tCons (uVar 9) (tCons (uLc (iList K (uVar 9)) (gName 10) tYes (tCB (cList K) (tCons (uVar 10) tNil)) [10]) (tCons (tOp kDiv (uVar 3) (tC (.int 4))) tNil)))))) { nx := fun _ H' => Q .non H', rt := Q } [some (.ref b), some (.ref R), some (.ref pp), some (.int n), some (.int ask), some (.ref hl), some (.ref td), some (.str one), some (.str other), some (.ref p), none] H5 := fun H5 ps' s05 hp5 lps5 ok' => by
      refine lc_copies (K := K) hp5 lps5 (fun R h => h) (by omega) (fun x => rfl) (fun q0 zs H6 R hq k => ⟨_, .inl (SqL.of hq), fun c H7 nc s7 t7 => k c H7 nc s7 t7⟩) fun cp H6 vs ncp s6 hcp lcs => ⟨by decide, ?_⟩
      have s06 := s05.trans s6
      have nl : ∀ q, (H1 q = none ∧ q ≠ p) → ¬ q ∈ [b, d, R, Ct, hl] := fun q h => BB.new (s1.free h.1)
      have nl2 : ∀ q, H5 q = none → ¬ q ∈ [b, d, R, Ct, hl] := fun q h => BB.new (s05.free h)
      refine BB.keep (E := E0) (D := partsD ps') hm s06 np0 (s05.free ncp) (s6 _ _ hp5) (by omega) ?_ ?_ ⟨parts_shaped ok', parts_eqv ps'⟩ q
      · exact Dp.lst (SqL.of (by rw [cutH_at (BB.new np0)]; exact s6 _ _ hp5)) ((lps5.mono s6).hold nl)
      · exact Dp.lst (SqL.of (by rw [cutH_at (BB.new (s05.free ncp))]; exact hcp)) (lcs.hold nl2)
    refine ⟨fun σ' H' => σ' = [some (.ref b), some (.ref R), some (.ref pp), some (.int n), some (.int ask), some (.ref hl), some (.ref td), some (.str one), some (.str other), some (.ref p), none] ∧ Same H H' ∧ H' p = some (.lst xp) ∧ ∃ ps', StrLs (fun q => H1 q = none ∧ q ≠ p) H' xp ps' ∧ ∀ part ∈ ps', ∀ z ∈ part, PyData.strOk z = true, ?_, ?_⟩
    · refine ⟨_, .inl (SqL.of hp4), ⟨fun e => ⟨by decide, ⟨fun _ => ?_, fun _ => ⟨rfl, s04, hp4, ps, lps4, ok⟩⟩⟩, fun _ => br_f ⟨rfl, s04, hp4, ps, lps4, ok⟩⟩⟩
      have e := of_decide_eq_true e
      have px : 0 < xp.length := by omega
      cases xp with
      | nil => exact absurd px (Nat.lt_irrefl 0)
      | cons v0 xr =>
        cases ps with
        | nil => exact absurd (Paired.length lps4) (by simp)
        | cons p0 pr =>
          obtain ⟨q0, rfl, nq0, hq0⟩ := Paired.get2 (i := 0) lps4 rfl rfl
          have lr : StrLs (fun q => H1 q = none ∧ q ≠ p) H4 xr pr := by
            cases lps4 with
            | cons a t => exact t
          have pl0 : p0.length ≤ 100 := by
            obtain ⟨y, hy', py⟩ := parts_mem po (List.mem_cons_self ..)
            have : p0.length ≤ P.length := nodup_len py.nd fun z hz => reach_pool hP (by
              obtain ⟨r, hr, e | e⟩ := (hy.mem y).mp hy'
              · rw [e]; exact (hP r hr).1
              · rw [e]; exact (hP r hr).2) ((py.mem z).mp hz)
            omega
          refine ⟨_, _, SqL.of hp4, at_nat (j := 0) rfl rfl, .inl ⟨rfl, _, SqL.of hq0⟩, _, hq0, szl (by rw [List.length_map]; omega), fun H5 c5 t5 => ⟨rfl, same_chd s04 c5 (s1.free nq0.1), c5 _ _ nq0.2.symm hp4, (p0 ++ [("" : Str)]) :: pr, ?_, ?_⟩⟩
          · refine .cons ⟨q0, rfl, nq0, by rw [t5, List.map_append]; rfl⟩ ?_
            have xnd := (List.nodup_cons.mp pnd).1
            have lr2 : StrLs (fun q => (H1 q = none ∧ q ≠ p) ∧ q ≠ q0) H4 xr pr := by
              have gen : ∀ {xs : List V} {ps : List (List Str)}, StrLs (fun q => H1 q = none ∧ q ≠ p) H4 xs ps → (∀ v ∈ xs, v ≠ .ref q0) → StrLs (fun q => (H1 q = none ∧ q ≠ p) ∧ q ≠ q0) H4 xs ps := fun {xs ps} h => by
                induction h with
                | nil => exact fun _ => .nil
                | cons a t ih =>
                  intro k
                  obtain ⟨q', e, n', hq'⟩ := a
                  refine .cons ⟨q', e, ⟨n', fun z => k _ (List.mem_cons_self ..) (by rw [e, z])⟩, hq'⟩ (ih fun v hv => k v (List.mem_cons_of_mem _ hv))
              exact gen lr fun v hv e => xnd (e ▸ hv)
            exact (lr2.chd c5 fun q n => n.2).imp fun q n => n.1
          · intro part hpart z hz
            rcases List.mem_cons.mp hpart with e | hpart
            · rw [e] at hz
              rcases List.mem_append.mp hz with h | h
              · exact ok _ (List.mem_cons_self ..) z h
              · rw [List.mem_singleton.mp h]
                decide +kernel
            · exact ok _ (List.mem_cons_of_mem _ hpart) z hz
    · rintro σ' H5 ⟨rfl, s05, hp5, ps', lps5, ok'⟩
      exact rest H5 ps' s05 hp5 lps5 ok'
  · -- heights
    refine ⟨⟨dx1, _, hi1, rfl⟩, b, d, most, taken, rows, P, rfl, B1.bs.book, by omega, hP, by omega, ag, fun p H2 xp ys g np s2 hp hal hy hg yl => ?_⟩
    have s02 := s1.trans s2
    have np0 : H p = none := s1.free np
    refine ⟨p, R, td, xp, ys, g, rows, U, rfl, hp, hal, .lst (SqL.of (s02 _ _ hR)) (dpAll_mono s02 al), hU.mono s2, tU, lD, hy, hg, S.pgs, by omega, fun H3 s3 => br_t ?_⟩
    have hp3 := s3 _ _ hp
    refine ⟨_, .inl (SqL.of hp3), fun c H4 n4 s4 t4 => ?_⟩
    have s04 := (s02.trans s3).trans s4
    have nc := (s02.trans s3).free n4
    have B4 := BB.mono s04
    have hal4 := dpAll_mono (s3.trans s4) hal
    have xl : xp.length ≤ 100 := by
      rw [dpAll_length hal, List.length_map]
      omega
    have st : ∀ dd ∈ (ys.map fun z => pairD z (g z)), TStay dd := fun dd hd => by
      obtain ⟨z, _, rfl⟩ := List.mem_map.mp hd
      exact TStay.pair _ _
    exact BB.keep (E := E0) hm s04 np0 nc (s4 _ _ hp3) (by omega) (Hold.lst B4.inL (BB.new np0) (s4 _ _ hp3) hal4 st) (Hold.lst B4.inL (BB.new nc) t4 hal4 st) (pairs_shaped g (hy.ok S.pgs)) q
  · exact ⟨b, d, most, taken, n, rows, .ref R, rfl, B1.bs.book, .lst (SqL.of (s1 _ _ hR)) (dpAll_mono s1 al), ag, S.pgs, by omega, fun H2 s2 => q H2 (ChdL.of (s1.trans s2)) (tups_of (s1.trans s2)) ((B1.mono s2).more (Nat.le_succ _))⟩
  · -- kept
    refine ⟨⟨dx1, _, hi1, rfl⟩, b, d, most, taken, rows, rfl, B1.bs.book, fun p H2 xp np s2 hp hal => ?_⟩
    have s02 := s1.trans s2
    have np0 : H p = none := s1.free np
    refine ⟨.ref p, .ref R, rows, rfl, .lst (SqL.of hp) hal, .lst (SqL.of (s02 _ _ hR)) (dpAll_mono s02 al), S.pgs.ok, br_t ⟨_, .inl (SqL.of hp), fun c H4 n4 s4 t4 => ?_⟩⟩
    have s04 := s02.trans s4
    have nc := s02.free n4
    have B4 := BB.mono s04
    have hal4 := dpAll_mono s4 hal
    have xl : xp.length ≤ 1000 := by
      rw [dpAll_length hal, List.length_map]
      omega
    exact BB.keep (E := E0) hm s04 np0 nc (s4 _ _ hp) (by omega) (Hold.lst B4.inL (BB.new np0) (s4 _ _ hp) hal4 (tstay_rows rows)) (Hold.lst B4.inL (BB.new nc) t4 hal4 (tstay_rows rows)) (canAll_rows S.pgs.ok) q
/-! ### _law_deed -/
abbrev N__law_deed : List Str := ["_law_book", "_law_rows_here", "_law_box", "_law_most", "_law_sighting_here", "_law_number", "_law_held", "_law_way_here"]
def sp__law_deed (K : PySem.W.Frag) (A : Ad) : Sp := fun vs H Q _ => ∃ (b d R Ct hl s : Addr) (most taken n : Int) (rows : List Row) (m : Nat) (P : List Str) (g : Sg), vs = [.ref b, .ref R, .ref Ct, .int most, .ref s, .int n, .ref hl] ∧ BH K A H b d R Ct hl most taken rows m ∧ m ≤ 4999 ∧ SqT K H s (sgV g) ∧ GoodS g ∧ g.1 ∈ P ∧ g.2.1 ∈ P ∧ Pool P rows ∧ rows.length ≤ 900 ∧ taken ≤ 900 ∧ 0 ≤ n ∧
  ∀ (taken' : Int) (rows' : List Row) (H' : Hp), ChdL [b, d, R, Ct, hl] H H' → Tups H H' → BH K A H' b d R Ct hl most taken' rows' (m + 1) → Pool P rows' → rows'.length ≤ rows.length + 1 → taken' ≤ taken + 1 → Q (.bl true) H'
def t__law_deed (K : PySem.W.Frag) (A : Ad) : TS :=
  (tSeq (tAsg (tOp kMod (tOp kMod (tOp kMul (uVar 5) (tC (.int 16807))) (tC (.int 999961))) (tC (.int 9))) (gName 7))
  (tSeq (uIfS (uT (tOp kEqI (uVar 7) (tC (.int 8))))
  (tSeq (uIfS (uT (tOp kEqI (tOp kMod (uVar 5) (tC (.int 3))) (tC (.int 0))))
  (tRet (tCall (sp__law_no_sighting K A) [] E0 (tCons (uVar 0) (tCons (tOp (cIxT K) (uVar 4) (tC (.int 0))) (tCons (tOp (cIxT K) (uVar 4) (tC (.int 1))) (tCons (tOp (cIxT K) (uVar 4) (tC (.int 2))) (tCons (tOp kDiv (uVar 5) (tC (.int 3))) tNil)))))))
  tNext)
  (tSeq (uIfS (uT (tOp kEqI (tOp kMod (uVar 5) (tC (.int 3))) (tC (.int 1))))
  (tRet (tCall (sp__law_no_peg K A) [] E0 (tCons (uVar 0) (tCons (tOp (cIxT K) (uVar 4) (tC (.int 0))) (tCons (tOp kDiv (uVar 5) (tC (.int 3))) tNil)))))
  tNext)
  (tRet (tCall (sp__law_no_number K A) [] E0 (tCons (uVar 0) (tCons (uVar 2) (tCons (uVar 1) (tCons (tOp kDiv (uVar 5) (tC (.int 3))) tNil))))))))
  tNext)
  (tSeq (uIfS (uOr (uT (tOp kGe (tCB (cLenQ K) (tCons (uVar 1) tNil)) (tC (.int 16)))) (uAnd (uT (tOp kGt (tCB (cLenQ K) (tCons (uVar 1) tNil)) (tC (.int 0)))) (uT (tOp kGt (uVar 7) (tC (.int 5))))))
  (tRet (tCall (sp__law_drop K A) [] E0 (tCons (uVar 0) (tCons (uVar 1) (tCons (tOp kDiv (uVar 5) (tC (.int 7))) tNil)))))
  tNext)
  (tRet (tCall (sp__law_take K A) [] E0 (tCons (uVar 0) (tCons (uVar 1) (tCons (uVar 2) (tCons (uVar 3) (tCons (uVar 4) (tCons (uVar 6) tNil)))))))))))
theorem rd__law_deed {K : PySem.W.Frag} {A : Ad} (T : Tx K A) {vs : List V} {H : Hp} {Q : VK} {E : XK} (h : sp__law_deed K A vs H Q E) : t__law_deed K A { nx := fun _ H' => Q .non H', rt := Q } (start N__law_deed vs) H := by
  obtain ⟨b, d, R, Ct, hl, s, most, taken, n, rows, m, P, g, rfl, BB, hm, hs, gd, gp1, gp2, hP, hlen, htk, n0, q⟩ := h
  have S := BB.bs
  obtain ⟨xs, hR, al⟩ := S.rl
  have hxl : xs.length = rows.length := by rw [dpAll_length al, List.length_map]
  have stay : ∀ H', Same H H' → Q (.bl true) H' := fun H' s' => q taken rows H' (ChdL.of s') (tups_of s') ((BB.mono s').more (Nat.le_succ _)) hP (by omega) (by omega)
  have drop : rows ≠ [] → sp__law_drop K A [.ref b, .ref R, .int (n / 7)] H Q E0 := fun ne => ⟨b, d, R, Ct, hl, most, taken, n / 7, rows, m, P, rfl, BB, ne, hP, hlen, fun rows' H' c tp B' hP' l' => q taken rows' H' c tp (B'.more (Nat.le_succ _)) hP' (by omega) (by omega)⟩
  have take : sp__law_take K A [.ref b, .ref R, .ref Ct, .int most, .ref s, .ref hl] H Q E0 := ⟨b, d, R, Ct, hl, s, most, taken, rows, m, P, g, rfl, BB, hm, hs, gd, gp1, gp2, hP, hlen, q⟩
  refine ⟨.inr (by decide), by decide, by decide, ⟨fun _ => ⟨by decide, ⟨fun _ => ?_, fun _ => ⟨by decide, ⟨fun _ => ?_, fun _ => ?_⟩⟩⟩⟩, fun _ => ?_⟩⟩
  · exact ⟨_, _, hs, rfl, _, _, hs, rfl, _, _, hs, rfl, by decide, b, d, most, taken, g.2.2, n / 3, rows, g.1, g.2.1, rfl, S.book, S.t0, by omega, gd.one, gd.other, gd.bnd, stay⟩
  · exact ⟨_, _, hs, rfl, by decide, b, d, most, taken, n / 3, rows, g.1, rfl, S.book, by omega, gd.one, by omega, stay⟩
  · exact ⟨by decide, b, d, Ct, most, taken, taken, n / 3, rows, .ref R, rfl, S.book, Int.le_refl _, S.t0, by omega, S.ct, .lst (SqL.of hR) al, by omega, stay⟩
  · refine ⟨_, .inl (SqL.of hR), ⟨fun e => br_t ⟨by decide, ?_⟩, fun e => ⟨_, .inl (SqL.of hR), ⟨fun e2 => ⟨fun _ => ⟨by decide, ?_⟩, fun _ => take⟩, fun _ => br_f take⟩⟩⟩⟩
    · have e := of_decide_eq_true e
      exact drop fun z => by rw [z] at hxl; rw [hxl] at e; exact absurd e (by decide)
    · have e2 := of_decide_eq_true e2
      exact drop fun z => by rw [z] at hxl; rw [hxl] at e2; exact absurd e2 (by decide)
/-! ### law -/
abbrev N_law : List Str := ["_law_script", "_law_seed", "_law_some", "_law_highs_here", "_law_most", "_law_book", "_law_rows_here", "_law_box", "_law_held", "_law_k", "_law_number", "_law_sighting_here", "_law_pair"]
def sp_law (K : PySem.W.Frag) : Sp := fun vs H Q _ => ∃ (a : Addr) (ns : List Int), vs = [.ref a] ∧ SqL K H a (ns.map V.int) ∧ ns.length ≤ 63 ∧ ∀ (H' : Hp), Q (.bl true) H'
def lp1_law (K : PySem.W.Frag) (A : Ad) : TS :=
  (tFor (iRng2 (tCons (tC (.int 4)) (tCons (tCB cMin (tCons (tCB (cLenQ K) (tCons (uVar 0) tNil)) (tCons (tC (.int 64)) tNil))) tNil))) (gName 9)
  (tSeq (tAsg (tOp kAdd (tOp kMod (tOp kAdd (tOp (cIxL K) (uVar 0) (uVar 9)) (tOp kMul (uVar 9) (uVar 9))) (tC (.int 2147483587))) (tC (.int 1))) (gName 10))
  (tSeq (tAsg (tCall (sp__law_sighting K) [] E0 (tCons (uVar 2) (tCons (uVar 3) (tCons (tOp (cIxL K) (uVar 0) (uVar 9)) (tCons (uVar 9) tNil))))) (gName 11))
  (tSeq (uIfS (uNot (uT (tCall (sp__law_deed K A) [] E0 (tCons (uVar 5) (tCons (uVar 6) (tCons (uVar 7) (tCons (uVar 4) (tCons (uVar 11) (tCons (uVar 10) (tCons (uVar 8) tNil))))))))))
  (tRet (tC (.bl false)))
  tNext)
  (uIfS (uNot (uT (tCall (sp__law_asked K A) [] E0 (tCons (uVar 5) (tCons (uVar 6) (tCons (uVar 2) (tCons (uVar 10) (tCons (tOp kMod (tOp kMod (tOp kMul (uVar 10) (tC (.int 62089911))) (tC (.int 999917))) (tC (.int 6))) (tCons (uVar 8) tNil)))))))))
  (tRet (tC (.bl false)))
  tNext)))))
def lp2_law (K : PySem.W.Frag) (A : Ad) : TS :=
  (tFor (iRng1 (tCons (tC (.int 6)) tNil)) (gName 9)
  (uIfS (uNot (uT (tCall (sp__law_asked K A) [] E0 (tCons (uVar 5) (tCons (uVar 6) (tCons (uVar 2) (tCons (tOp kAdd (tCB (cLenQ K) (tCons (uVar 0) tNil)) (tOp kMul (uVar 9) (tC (.int 1009)))) (tCons (tOp kMod (tOp kAdd (uVar 9) (tCB (cLenQ K) (tCons (uVar 0) tNil))) (tC (.int 6))) (tCons (uVar 8) tNil)))))))))
  (tRet (tC (.bl false)))
  tNext))
def lp3_law (K : PySem.W.Frag) (A : Ad) : TS :=
  (tFor (iList K (uVar 8)) (gName 12)
  (uIfS (uT (tOp (rNeD K) (tOp (cIxL K) (uVar 12) (tC (.int 0))) (tOp (cIxL K) (uVar 12) (tC (.int 1)))))
  (tRet (tC (.bl false)))
  tNext))
def t_law (K : PySem.W.Frag) (A : Ad) : TS :=
  (tSeq (tAsg (tOp kMod (tOp kMul (tOp kAdd (tOp kMod (tCall (sp__law_cell_at K) [] E0 (tCons (uVar 0) (tCons (tC (.int 3)) tNil))) (tC (.int 2147483647))) (tC (.int 11))) (tC (.int 48271))) (tC (.int 2147483629))) (gName 1))
  (tSeq (tAsg (tCall (sp__law_pegs K) [] E0 (tCons (tCall (sp__law_cell_at K) [] E0 (tCons (uVar 0) (tCons (tC (.int 0)) tNil))) (tCons (tOp kAdd (tC (.int 2)) (tOp kMod (tCall (sp__law_cell_at K) [] E0 (tCons (uVar 0) (tCons (tC (.int 1)) tNil))) (tC (.int 12)))) tNil))) (gName 2))
  (tSeq (tAsg (tCall (sp__law_highs K) [] E0 (tCons (uVar 2) (tCons (tCall (sp__law_cell_at K) [] E0 (tCons (uVar 0) (tCons (tC (.int 2)) tNil))) tNil))) (gName 3))
  (tSeq (tAsg (tOp kMod (uVar 1) (tC (.int 25))) (gName 4))
  (tSeq (tAsg (tMake A.Book (sp_Book___init__ K A) [] E0 (tCons (uVar 4) tNil)) (gName 5))
  (Evl.tCut (uIfS (uT (tOp kEqI (tOp kMod (tOp kDiv (uVar 1) (tC (.int 25))) (tC (.int 3))) (tC (.int 0))))
  (tSeq (tAsg (tC (.int 200)) (gName 4))
  (tAsg (tMake A.Book (sp_Book___init__ K A) [.int 200] E0 tNil) (gName 5)))
  tNext)
  (tSeq (tAsg (uLst tNil) (gName 6))
  (tSeq (tAsg (uLst (tCons (tC (.int 0)) tNil)) (gName 7))
  (tSeq (tAsg (uLst tNil) (gName 8))
  (tSeq (lp1_law K A)
  (tSeq (lp2_law K A)
  (tSeq (lp3_law K A)
  (tRet (tC (.bl true)))))))))))))))
theorem rd_law {K : PySem.W.Frag} {A : Ad} (T : Tx K A) {vs : List V} {H : Hp} {Q : VK} {E : XK} (h : sp_law K vs H Q E) : t_law K A { nx := fun _ H' => Q .non H', rt := Q } (start N_law vs) H := by
  obtain ⟨a, ns, rfl, hS, hn, q⟩ := h
  refine ⟨a, ns, 3, rfl, hS, by decide, fun c3 => ⟨by decide, .inr (by decide), by decide, ?_⟩⟩
  have g0 : 0 ≤ (c3 % 2147483647 + 11) * 48271 % 2147483629 := Int.emod_nonneg _ (by decide)
  generalize (c3 % 2147483647 + 11) * 48271 % 2147483629 = seed at g0 ⊢
  refine ⟨a, ns, 0, rfl, hS, by decide, fun c0 => ⟨a, ns, 1, rfl, hS, by decide, fun c1 => ⟨by decide, c0, 2 + c1 % 12, rfl, by omega, by omega, fun pp pool H1 n1 s1 t1 pl pz => ?_⟩⟩⟩
  have pne : pool ≠ [] := fun z => by
    rw [z] at pl
    have : (0 : Nat) = (2 + c1 % 12).toNat := pl
    omega
  have plen : pool.length ≤ 24 := by omega
  refine ⟨a, ns, 2, rfl, same_l s1 hS, by decide, fun c2 => ⟨pp, pool, c2, rfl, SqL.of t1, by omega, fun hd f H2 n2 s2 hf => ?_⟩⟩
  have s02 := s1.trans s2
  have hP2 : H2 pp = some (.lst (pool.map V.str)) := s2 _ _ t1
  refine ⟨by decide, ?_⟩
  have m0 : 0 ≤ seed % 25 := by omega
  intro b0 dx0 nb0 ndx0 ne0
  refine ⟨b0, dx0, seed % 25, rfl, upd_same, fun dd0 H3 nd0 c3 B0 => ⟨rfl, ?_⟩⟩
  have s3 : Same H2 H3 := made_same nb0 ndx0 c3
  refine ⟨fun σ' H' => ∃ (b d : Addr) (most : Int), σ' = [some (.ref a), some (.int seed), some (.ref pp), some (.ref hd), some (.int most), some (.ref b), none, none, none, none, none, none, none] ∧ Same H2 H' ∧ H2 b = none ∧ H2 d = none ∧ 0 ≤ most ∧ BookAt K A H' b d most 0 [], ?_, ?_⟩
  · refine ⟨by decide, by decide, ⟨fun _ => ?_, fun _ => ⟨b0, dd0, _, rfl, s3, nb0, made_free nd0, m0, B0⟩⟩⟩
    intro b dx nb ndx ne
    refine ⟨b, dx, 200, rfl, upd_same, fun d H4 nd c4 B => ⟨rfl, ?_⟩⟩
    have s4 : Same H3 H4 := made_same nb ndx c4
    exact ⟨b, d, 200, rfl, s3.trans s4, s3.free nb, s3.free (made_free nd), by decide, B⟩
  rintro σ' H4 ⟨b, d, most, rfl, s4, nb, nd, mo, B⟩
  refine ⟨szr rfl, fun R H5 n5 s5 t5 => ⟨szr rfl, fun Ct H6 n6 s6 t6 => ⟨szr rfl, fun hl H7 n7 s7 t7 => ?_⟩⟩⟩
  have s47 := (s5.trans s6).trans s7
  have s27 := s4.trans s47
  have nR : H2 R = none := s4.free n5
  have nC : H2 Ct = none := (s4.trans s5).free n6
  have nh : H2 hl = none := ((s4.trans s5).trans s6).free n7
  have hR7 : H7 R = some (.lst []) := s7 _ _ (s6 _ _ t5)
  have hC7 := s7 _ _ t6
  have RC : R ≠ Ct := ne_of_none t5 n6
  have hR : hl ≠ R := (ne_of_none (s6 _ _ t5) n7).symm
  have hC : hl ≠ Ct := (ne_of_none t6 n7).symm
  have S0 : BH K A H7 b d R Ct hl most 0 [] 0 := ⟨⟨B.mono s47, ⟨[], hR7, .nil⟩, hC7, RC, Int.le_refl _, ⟨fun _ => 0, fun r h => (by cases h)⟩, fun r h => (by cases h), by simpa using mo⟩, ⟨[], t7, Nat.le_refl _, fun v h => (by cases h)⟩, hR, hC⟩
  have news : ∀ x ∈ [b, d, R, Ct, hl], H2 x = none := fun x hx => by
    simp only [List.mem_cons, List.not_mem_nil, or_false] at hx
    rcases hx with rfl | rfl | rfl | rfl | rfl
    · exact nb
    · exact nd
    · exact nR
    · exact nC
    · exact nh
  have hlen : (ns.map V.int).length = ns.length := List.length_map ..
  refine ⟨_, .inl (same_l (s02.trans s27) hS), 4, _, rfl, ?_, ?_⟩
  · rw [hlen]
    split <;> omega
  refine for_range (lo := 4) (n := ((if (64 : Int) < ((ns.map V.int).length : Int) then (64 : Int) else ((ns.map V.int).length : Int)) - 4).toNat) (fun i σ H' => ChdL [b, d, R, Ct, hl] H7 H' ∧ ∃ (taken : Int) (rows : List Row) (w9 w10 w11 : Option V), BH K A H' b d R Ct hl most taken rows (2 * i) ∧ Pool pool rows ∧ rows.length ≤ i ∧ taken ≤ i ∧
    σ = [some (.ref a), some (.int seed), some (.ref pp), some (.ref hd), some (.int most), some (.ref b), some (.ref R), some (.ref Ct), some (.ref hl), w9, w10, w11, none]) ⟨ChdL.refl, 0, [], none, none, none, S0, fun r h => (by cases h), Nat.le_refl _, Int.le_refl _, rfl⟩ ?_ ?_
  · rintro i σ H8 hi ⟨c8, taken, rows, w9, w10, w11, S, hPl, rl, tl, rfl⟩
    rw [hlen] at hi
    have hik : (4 : Int) + i < ns.length ∧ (i : Int) < 60 := by split at hi <;> omega
    obtain ⟨cell, _, hc⟩ := at_map V.int (xs := ns) (i := 4 + (i : Int)) (by omega) hik.1
    have s28 : Same H2 H8 := c8.old s27 news
    have hS8 := same_l (s02.trans s28) hS
    have g1 : 0 ≤ (cell + (4 + (i : Int)) * (4 + (i : Int))) % 2147483587 := Int.emod_nonneg _ (by decide)
    have g2 : (cell + (4 + (i : Int)) * (4 + (i : Int))) % 2147483587 < 2147483587 := Int.emod_lt_of_pos _ (by decide)
    refine ⟨_, _, hS8, hc, .inl (by omega), by decide, ?_⟩
    generalize (cell + (4 + (i : Int)) * (4 + (i : Int))) % 2147483587 = num at g1 g2 ⊢
    refine ⟨_, _, hS8, hc, pp, hd, pool, f, cell, _, rfl, SqL.of (s28 _ _ hP2), pne, plen, hf.mono s28, fun s g H9 n9 s9 t9 m1 m2 bg => ?_⟩
    have gd : GoodS g := ⟨pz _ m1, pz _ m2, bg⟩
    refine ⟨b, d, R, Ct, hl, s, most, taken, num + 1, rows, 2 * i, pool, g, rfl, S.mono s9, by omega, SqT.of t9, gd, m1, m2, hPl, by omega, by omega, by omega, fun taken' rows' Ha ca tpa Ba hPa la ka => br_f ?_⟩
    have c9a : ChdL [b, d, R, Ct, hl] H7 Ha := (c8.same s9).trans ca
    have s2a : Same H2 Ha := c9a.old s27 news
    refine ⟨.inr (by decide), by decide, by decide, b, d, R, Ct, hl, pp, most, taken', num + 1, _, rows', 2 * i + 1, pool, rfl, Ba, by omega, SqL.of (s2a _ _ hP2), pne, pz, hPa, by omega, by omega, by omega, by omega, fun Hb cb tpb Bb => br_f ⟨c9a.trans (cb.sub (by simp)), taken', rows', _, _, _, ?_, hPa, by omega, by omega, rfl⟩⟩
    exact Bb.more (by omega)
  · rintro σ H8 ⟨c8, taken, rows, w9, w10, w11, S, hPl, rl, tl, rfl⟩
    have hn60 : (((if (64 : Int) < ((ns.map V.int).length : Int) then (64 : Int) else ((ns.map V.int).length : Int)) - 4).toNat) ≤ 60 := by
      rw [hlen]
      split <;> omega
    have rl' : rows.length ≤ 60 := by omega
    have S8 : BH K A H8 b d R Ct hl most taken rows 200 := S.more (by omega)
    refine ⟨6, rfl, by decide, by decide, for_range (lo := 0) (n := (6 : Int).toNat) (fun i σ H' => ChdL [b, d, R, Ct, hl] H7 H' ∧ ∃ (w9 : Option V), BH K A H' b d R Ct hl most taken rows (200 + i) ∧ σ = [some (.ref a), some (.int seed), some (.ref pp), some (.ref hd), some (.int most), some (.ref b), some (.ref R), some (.ref Ct), some (.ref hl), w9, w10, w11, none]) ⟨c8, _, S8, rfl⟩ ?_ ?_⟩
    · rintro i σ H9 hi ⟨c9, w9, S9, rfl⟩
      have hi : i < 6 := hi
      have s29 : Same H2 H9 := c9.old s27 news
      have hS9 := same_l (s02.trans s29) hS
      refine ⟨_, .inl hS9, .inr (by decide), _, .inl hS9, by decide, b, d, R, Ct, hl, pp, most, taken, _, _, rows, 200 + i, pool, rfl, S9, by omega, SqL.of (s29 _ _ hP2), pne, pz, hPl, by omega, by omega, by omega, ?_, fun Hb cb tpb Bb => br_f ⟨c9.trans (cb.sub (by simp)), _, Bb, rfl⟩⟩
      rw [hlen]
      omega
    · rintro σ H9 ⟨c9, w9, S9, rfl⟩
      obtain ⟨hs, hh, hhl, HH⟩ := S9.hd
      refine ⟨hl, rfl, ⟨_, SqL.of hh⟩, for_list (K := K) (a := hl) (xs := hs) (fun i σ H' => H' = H9 ∧ ∃ w12, σ = [some (.ref a), some (.int seed), some (.ref pp), some (.ref hd), some (.int most), some (.ref b), some (.ref R), some (.ref Ct), some (.ref hl), w9, w10, w11, w12]) ⟨rfl, none, rfl⟩ (fun i σ H' _ h => by rw [h.1]; exact SqL.of hh) ?_ ?_⟩
      · rintro i x σ H' e ⟨rfl, w12, rfl⟩
        obtain ⟨D, hD, alk⟩ := HH x (List.mem_of_getElem? e)
        obtain ⟨t, zs, rfl, hz, alz⟩ := dp_lst hD.dp
        obtain ⟨x1, r1, rfl, d1, alz⟩ := dpAll_cons alz
        obtain ⟨x2, r2, rfl, d2, alz⟩ := dpAll_cons alz
        obtain rfl := dpAll_nil alz
        refine ⟨_, _, hz, at_nat (j := 0) rfl rfl, _, _, hz, at_nat (j := 1) rfl rfl, D, D, d1, d2, alk.1, alk.1, br_ff ?_ ⟨rfl, _, rfl⟩⟩
        rw [alk.2]
        rfl
      · rintro σ H' ⟨rfl, w12, rfl⟩
        exact q H'
def top (i : Nat) : Stmt := PySem.Challenge.pw_pegrise_k09_whole_deeds.main.body.getD i (.Pass ⟨0, 0, 0, 0⟩)
/-- what the names of the module hold -/
structure Mg (mg : Str → Option Value) : Prop where
  m_int : mg "int" = none
  m_isinstance : mg "isinstance" = none
  m_bool : mg "bool" = none
  m_str : mg "str" = none
  m_len : mg "len" = none
  m_tuple : mg "tuple" = none
  m_abs : mg "abs" = none
  m_list : mg "list" = none
  m_reversed : mg "reversed" = none
  m_sorted : mg "sorted" = none
  m_range : mg "range" = none
  m_ValueError : mg "ValueError" = none
  m_sum : mg "sum" = none
  m_min : mg "min" = none
  x_LETTERS : ∃ t, mg "LETTERS" = some (.str "abcdefghijklmnopqrstuvwxyz" t)
  x_BOUND : ∃ t, mg "BOUND" = some (.int (10 ^ 60) t)
/-- where the names of the classes lead -/
structure Gx (mg : Str → Option Value) (K : PySem.W.Frag) (A : Ad) : Prop where
  g_Book : mg "Book" = some (.ref A.Book)
  g_PegError : mg "PegError" = some (.ref A.PegError)
  g_NoSighting : mg "NoSighting" = some (.ref A.NoSighting)
  g_Full : mg "Full" = some (.ref A.Full)
  g_Against : mg "Against" = some (.ref A.Against)
  g_NoNumber : mg "NoNumber" = some (.ref A.NoNumber)
  g_NoWay : mg "NoWay" = some (.ref A.NoWay)
  g_NoText : mg "NoText" = some (.ref A.NoText)
  x_NoSighting : PySem.W.excIn K A.NoSighting [.type "ValueError", .type "Exception", .type "BaseException", .type "object"] "ValueError.__new__" = true
  k_NoSighting : PySem.W.keepIn K (.ref A.NoSighting) = true
  b_NoSighting : PySem.W.subIn K (.ref A.NoSighting) (.type "BaseException") = some true
  t_NoSighting : PySem.W.typeIn K (.ref A.NoSighting) = some (.type "type")
  x_Full : PySem.W.excIn K A.Full [.type "ValueError", .type "Exception", .type "BaseException", .type "object"] "ValueError.__new__" = true
  k_Full : PySem.W.keepIn K (.ref A.Full) = true
  b_Full : PySem.W.subIn K (.ref A.Full) (.type "BaseException") = some true
  t_Full : PySem.W.typeIn K (.ref A.Full) = some (.type "type")
  x_NoNumber : PySem.W.excIn K A.NoNumber [.type "ValueError", .type "Exception", .type "BaseException", .type "object"] "ValueError.__new__" = true
  k_NoNumber : PySem.W.keepIn K (.ref A.NoNumber) = true
  b_NoNumber : PySem.W.subIn K (.ref A.NoNumber) (.type "BaseException") = some true
  t_NoNumber : PySem.W.typeIn K (.ref A.NoNumber) = some (.type "type")
section
variable {P : Program} {w : World} {K : PySem.W.Frag} {mg : Str → Option Value} {base : Heap}
abbrev s_Against___init__ : Stmt := inClass (top 4) 0
theorem sc_Against___init__ : FnScope N_Against___init__ ["self", "trail"] (defScope s_Against___init__) := ⟨rfl, rfl, rfl, by decide +kernel, rfl, by decide +kernel, by decide +kernel⟩
theorem ok_Against___init__ {A : Ad} {f : Addr} {fd : FuncData} (F : Fun K "__init__" "Against.__init__" s_Against___init__ f fd) (iC : PySem.W.findIn K (.ref A.Against) "__init__" = some (some (.ref f))) (tI : PySem.W.typeIn K (.ref f) = some (.type "function")) (hb : Binds K fd ["self", "trail"] []) (M : Mg mg) (G : Gx mg K A) (T : Tx K A)  :
    CalE P w K mg base 1 A.Against "Against" ["self", "trail"] (sp_Against___init__ K A) := by
  refine ⟨f, fd, T.o_Against, iC, tI, F.ok sc_Against___init__ (fun vs H Q E h => ?_) (fun cdv A' outer s H vs Q E hr h => ?_), G.g_Against, hb⟩
  · unfold sp_Against___init__ at h
    first
      | (obtain ⟨rfl, _⟩ := h; rfl)
      | (obtain ⟨_, rfl, _⟩ := h; rfl)
      | (obtain ⟨_, _, rfl, _⟩ := h; rfl)
      | (obtain ⟨_, _, _, rfl, _⟩ := h; rfl)
      | (obtain ⟨_, _, _, _, rfl, _⟩ := h; rfl)
      | (obtain ⟨_, _, _, _, _, rfl, _⟩ := h; rfl)
      | (obtain ⟨_, _, _, _, _, _, rfl, _⟩ := h; rfl)
      | (obtain ⟨_, _, _, _, _, _, _, rfl, _⟩ := h; rfl)
      | (obtain ⟨_, _, _, _, _, _, _, _, rfl, _⟩ := h; rfl)
      | (obtain ⟨_, _, _, _, _, _, _, _, _, rfl, _⟩ := h; rfl)
      | (obtain ⟨_, _, _, _, _, _, _, _, _, _, rfl, _⟩ := h; rfl)
      | (obtain ⟨_, _, _, _, _, _, _, _, _, _, _, rfl, _⟩ := h; rfl)
      | (obtain ⟨_, _, _, _, _, _, _, _, _, _, _, _, rfl, _⟩ := h; rfl)
      | (obtain ⟨_, _, _, _, _, _, _, _, _, _, _, _, _, rfl, _⟩ := h; rfl)
      | (obtain ⟨_, _, _, _, _, _, _, _, _, _, _, _, _, _, rfl, _⟩ := h; rfl)
      | (obtain ⟨_, _, _, _, _, _, _, _, _, _, _, _, _, _, _, rfl, _⟩ := h; rfl)
      | (obtain ⟨_, _, _, _, _, _, _, _, _, _, _, _, _, _, _, _, rfl, _⟩ := h; rfl)
      | (obtain ⟨_, _, _, _, _, _, _, _, _, _, _, _, _, _, _, _, _, rfl, _⟩ := h; rfl)
      | (obtain ⟨_, _, _, _, _, _, _, _, _, _, _, _, _, _, _, _, _, _, rfl, _⟩ := h; rfl)
      | (obtain ⟨_, _, _, _, _, _, _, _, _, _, _, _, _, _, _, _, _, _, _, rfl, _⟩ := h; rfl)
      | (obtain ⟨_, _, _, _, _, _, _, _, _, _, _, _, _, _, _, _, _, _, _, _, rfl, _⟩ := h; rfl)
      | (obtain ⟨_, _, _, _, _, _, _, _, _, _, _, _, _, _, _, _, _, _, _, _, _, rfl, _⟩ := h; rfl)
      | (obtain ⟨_, _, _, _, _, _, _, _, _, _, _, _, _, _, _, _, _, _, _, _, _, _, rfl, _⟩ := h; rfl)
      | (obtain ⟨_, _, _, _, _, _, _, _, _, _, _, _, _, _, _, _, _, _, _, _, _, _, _, rfl, _⟩ := h; rfl)
      | (obtain ⟨_, _, _, _, _, _, _, _, _, _, _, _, _, _, _, _, _, _, _, _, _, _, _, _, rfl, _⟩ := h; rfl)
      | (obtain ⟨_, _, _, _, _, _, _, _, _, _, _, _, _, _, _, _, _, _, _, _, _, _, _, _, _, rfl, _⟩ := h; rfl)
      | (obtain ⟨_, _, _, _, _, _, _, _, _, _, _, _, _, _, _, _, _, _, _, _, _, _, _, _, _, _, rfl, _⟩ := h; rfl)
      | (obtain ⟨_, _, _, _, _, _, _, _, _, _, _, _, _, _, _, _, _, _, _, _, _, _, _, _, _, _, _, rfl, _⟩ := h; rfl)
  have hu := hu_of hr
  have hu64 := hr.units
  have hu65 := hr.u65
  have nd := sc_Against___init__.nd
  exact ⟨t_Against___init__ K A, (pss_cons (ps_expr (pe_ownInit (by rfl) G.g_PegError T.iRd T.iGa T.iVi (pa_cons (uv 0) (pa_cons pe_str pa_nil))))
  (pss_one (ps_ost (uv 0) (uv 1)))), rd_Against___init__ T h⟩
abbrev s_NoWay___init__ : Stmt := inClass (top 6) 0
theorem sc_NoWay___init__ : FnScope N_NoWay___init__ ["self", "near"] (defScope s_NoWay___init__) := ⟨rfl, rfl, rfl, by decide +kernel, rfl, by decide +kernel, by decide +kernel⟩
theorem ok_NoWay___init__ {A : Ad} {f : Addr} {fd : FuncData} (F : Fun K "__init__" "NoWay.__init__" s_NoWay___init__ f fd) (iC : PySem.W.findIn K (.ref A.NoWay) "__init__" = some (some (.ref f))) (tI : PySem.W.typeIn K (.ref f) = some (.type "function")) (hb : Binds K fd ["self", "near"] []) (M : Mg mg) (G : Gx mg K A) (T : Tx K A)  :
    CalE P w K mg base 1 A.NoWay "NoWay" ["self", "near"] (sp_NoWay___init__ K A) := by
  refine ⟨f, fd, T.o_NoWay, iC, tI, F.ok sc_NoWay___init__ (fun vs H Q E h => ?_) (fun cdv A' outer s H vs Q E hr h => ?_), G.g_NoWay, hb⟩
  · unfold sp_NoWay___init__ at h
    first
      | (obtain ⟨rfl, _⟩ := h; rfl)
      | (obtain ⟨_, rfl, _⟩ := h; rfl)
      | (obtain ⟨_, _, rfl, _⟩ := h; rfl)
      | (obtain ⟨_, _, _, rfl, _⟩ := h; rfl)
      | (obtain ⟨_, _, _, _, rfl, _⟩ := h; rfl)
      | (obtain ⟨_, _, _, _, _, rfl, _⟩ := h; rfl)
      | (obtain ⟨_, _, _, _, _, _, rfl, _⟩ := h; rfl)
      | (obtain ⟨_, _, _, _, _, _, _, rfl, _⟩ := h; rfl)
      | (obtain ⟨_, _, _, _, _, _, _, _, rfl, _⟩ := h; rfl)
      | (obtain ⟨_, _, _, _, _, _, _, _, _, rfl, _⟩ := h; rfl)
      | (obtain ⟨_, _, _, _, _, _, _, _, _, _, rfl, _⟩ := h; rfl)
      | (obtain ⟨_, _, _, _, _, _, _, _, _, _, _, rfl, _⟩ := h; rfl)
      | (obtain ⟨_, _, _, _, _, _, _, _, _, _, _, _, rfl, _⟩ := h; rfl)
      | (obtain ⟨_, _, _, _, _, _, _, _, _, _, _, _, _, rfl, _⟩ := h; rfl)
      | (obtain ⟨_, _, _, _, _, _, _, _, _, _, _, _, _, _, rfl, _⟩ := h; rfl)
      | (obtain ⟨_, _, _, _, _, _, _, _, _, _, _, _, _, _, _, rfl, _⟩ := h; rfl)
      | (obtain ⟨_, _, _, _, _, _, _, _, _, _, _, _, _, _, _, _, rfl, _⟩ := h; rfl)
      | (obtain ⟨_, _, _, _, _, _, _, _, _, _, _, _, _, _, _, _, _, rfl, _⟩ := h; rfl)
      | (obtain ⟨_, _, _, _, _, _, _, _, _, _, _, _, _, _, _, _, _, _, rfl, _⟩ := h; rfl)
      | (obtain ⟨_, _, _, _, _, _, _, _, _, _, _, _, _, _, _, _, _, _, _, rfl, _⟩ := h; rfl)
      | (obtain ⟨_, _, _, _, _, _, _, _, _, _, _, _, _, _, _, _, _, _, _, _, rfl, _⟩ := h; rfl)
      | (obtain ⟨_, _, _, _, _, _, _, _, _, _, _, _, _, _, _, _, _, _, _, _, _, rfl, _⟩ := h; rfl)
      | (obtain ⟨_, _, _, _, _, _, _, _, _, _, _, _, _, _, _, _, _, _, _, _, _, _, rfl, _⟩ := h; rfl)
      | (obtain ⟨_, _, _, _, _, _, _, _, _, _, _, _, _, _, _, _, _, _, _, _, _, _, _, rfl, _⟩ := h; rfl)
      | (obtain ⟨_, _, _, _, _, _, _, _, _, _, _, _, _, _, _, _, _, _, _, _, _, _, _, _, rfl, _⟩ := h; rfl)
      | (obtain ⟨_, _, _, _, _, _, _, _, _, _, _, _, _, _, _, _, _, _, _, _, _, _, _, _, _, rfl, _⟩ := h; rfl)
      | (obtain ⟨_, _, _, _, _, _, _, _, _, _, _, _, _, _, _, _, _, _, _, _, _, _, _, _, _, _, rfl, _⟩ := h; rfl)
      | (obtain ⟨_, _, _, _, _, _, _, _, _, _, _, _, _, _, _, _, _, _, _, _, _, _, _, _, _, _, _, rfl, _⟩ := h; rfl)
  have hu := hu_of hr
  have hu64 := hr.units
  have hu65 := hr.u65
  have nd := sc_NoWay___init__.nd
  exact ⟨t_NoWay___init__ K A, (pss_cons (ps_expr (pe_ownInit (by rfl) G.g_PegError T.iRd T.iGa T.iVi (pa_cons (uv 0) (pa_cons pe_str pa_nil))))
  (pss_one (ps_ost (uv 0) (uv 1)))), rd_NoWay___init__ T h⟩
abbrev s_is_whole : Stmt := top 11
theorem sc_is_whole : FnScope N_is_whole ["thing"] (defScope s_is_whole) := ⟨rfl, rfl, rfl, by decide +kernel, rfl, by decide +kernel, by decide +kernel⟩
theorem ok_is_whole {f : Addr} {fd : FuncData} (F : Fun K "is_whole" "is_whole" s_is_whole f fd) (hm : mg "is_whole" = some (.ref f)) (hb : Binds K fd ["thing"] []) (M : Mg mg)  :
    Cal P w K mg base CX0 1 "is_whole" ["thing"] (sp_is_whole K) := by
  refine ⟨f, fd, F.ok sc_is_whole (fun vs H Q E h => ?_) (fun cdv A' outer s H vs Q E hr h => ?_), hm, F.kp, hb⟩
  · unfold sp_is_whole at h
    first
      | (obtain ⟨rfl, _⟩ := h; rfl)
      | (obtain ⟨_, rfl, _⟩ := h; rfl)
      | (obtain ⟨_, _, rfl, _⟩ := h; rfl)
      | (obtain ⟨_, _, _, rfl, _⟩ := h; rfl)
      | (obtain ⟨_, _, _, _, rfl, _⟩ := h; rfl)
      | (obtain ⟨_, _, _, _, _, rfl, _⟩ := h; rfl)
      | (obtain ⟨_, _, _, _, _, _, rfl, _⟩ := h; rfl)
      | (obtain ⟨_, _, _, _, _, _, _, rfl, _⟩ := h; rfl)
      | (obtain ⟨_, _, _, _, _, _, _, _, rfl, _⟩ := h; rfl)
      | (obtain ⟨_, _, _, _, _, _, _, _, _, rfl, _⟩ := h; rfl)
      | (obtain ⟨_, _, _, _, _, _, _, _, _, _, rfl, _⟩ := h; rfl)
      | (obtain ⟨_, _, _, _, _, _, _, _, _, _, _, rfl, _⟩ := h; rfl)
      | (obtain ⟨_, _, _, _, _, _, _, _, _, _, _, _, rfl, _⟩ := h; rfl)
      | (obtain ⟨_, _, _, _, _, _, _, _, _, _, _, _, _, rfl, _⟩ := h; rfl)
      | (obtain ⟨_, _, _, _, _, _, _, _, _, _, _, _, _, _, rfl, _⟩ := h; rfl)
      | (obtain ⟨_, _, _, _, _, _, _, _, _, _, _, _, _, _, _, rfl, _⟩ := h; rfl)
      | (obtain ⟨_, _, _, _, _, _, _, _, _, _, _, _, _, _, _, _, rfl, _⟩ := h; rfl)
      | (obtain ⟨_, _, _, _, _, _, _, _, _, _, _, _, _, _, _, _, _, rfl, _⟩ := h; rfl)
      | (obtain ⟨_, _, _, _, _, _, _, _, _, _, _, _, _, _, _, _, _, _, rfl, _⟩ := h; rfl)
      | (obtain ⟨_, _, _, _, _, _, _, _, _, _, _, _, _, _, _, _, _, _, _, rfl, _⟩ := h; rfl)
      | (obtain ⟨_, _, _, _, _, _, _, _, _, _, _, _, _, _, _, _, _, _, _, _, rfl, _⟩ := h; rfl)
      | (obtain ⟨_, _, _, _, _, _, _, _, _, _, _, _, _, _, _, _, _, _, _, _, _, rfl, _⟩ := h; rfl)
      | (obtain ⟨_, _, _, _, _, _, _, _, _, _, _, _, _, _, _, _, _, _, _, _, _, _, rfl, _⟩ := h; rfl)
      | (obtain ⟨_, _, _, _, _, _, _, _, _, _, _, _, _, _, _, _, _, _, _, _, _, _, _, rfl, _⟩ := h; rfl)
      | (obtain ⟨_, _, _, _, _, _, _, _, _, _, _, _, _, _, _, _, _, _, _, _, _, _, _, _, rfl, _⟩ := h; rfl)
      | (obtain ⟨_, _, _, _, _, _, _, _, _, _, _, _, _, _, _, _, _, _, _, _, _, _, _, _, _, rfl, _⟩ := h; rfl)
      | (obtain ⟨_, _, _, _, _, _, _, _, _, _, _, _, _, _, _, _, _, _, _, _, _, _, _, _, _, _, rfl, _⟩ := h; rfl)
      | (obtain ⟨_, _, _, _, _, _, _, _, _, _, _, _, _, _, _, _, _, _, _, _, _, _, _, _, _, _, _, rfl, _⟩ := h; rfl)
  have hu := hu_of hr
  have hu64 := hr.units
  have hu65 := hr.u65
  have nd := sc_is_whole.nd
  exact ⟨t_is_whole K, (pss_one (ps_ret (v_and (pe_callB b_isi (by rfl) M.m_isinstance (by decide +kernel) (pa_cons (uv 0) (pa_cons (pe_bltn (v := .ty "int") (by rfl) M.m_int (by decide +kernel) rfl) pa_nil))) (pe_one (v_not (pe_callB b_isi (by rfl) M.m_isinstance (by decide +kernel) (pa_cons (uv 0) (pa_cons (pe_bltn (v := .ty "bool") (by rfl) M.m_bool (by decide +kernel) rfl) pa_nil)))))))), rd_is_whole h⟩
abbrev s_is_peg : Stmt := top 12
theorem sc_is_peg : FnScope N_is_peg ["thing"] (defScope s_is_peg) := ⟨rfl, rfl, rfl, by decide +kernel, rfl, by decide +kernel, by decide +kernel⟩
theorem ok_is_peg {f : Addr} {fd : FuncData} (F : Fun K "is_peg" "is_peg" s_is_peg f fd) (hm : mg "is_peg" = some (.ref f)) (hb : Binds K fd ["thing"] []) (M : Mg mg)  :
    Cal P w K mg base CX0 1 "is_peg" ["thing"] (sp_is_peg K) := by
  obtain ⟨_, m_LETTERS⟩ := M.x_LETTERS
  refine ⟨f, fd, F.ok sc_is_peg (fun vs H Q E h => ?_) (fun cdv A' outer s H vs Q E hr h => ?_), hm, F.kp, hb⟩
  · unfold sp_is_peg at h
    first
      | (obtain ⟨rfl, _⟩ := h; rfl)
      | (obtain ⟨_, rfl, _⟩ := h; rfl)
      | (obtain ⟨_, _, rfl, _⟩ := h; rfl)
      | (obtain ⟨_, _, _, rfl, _⟩ := h; rfl)
      | (obtain ⟨_, _, _, _, rfl, _⟩ := h; rfl)
      | (obtain ⟨_, _, _, _, _, rfl, _⟩ := h; rfl)
      | (obtain ⟨_, _, _, _, _, _, rfl, _⟩ := h; rfl)
      | (obtain ⟨_, _, _, _, _, _, _, rfl, _⟩ := h; rfl)
      | (obtain ⟨_, _, _, _, _, _, _, _, rfl, _⟩ := h; rfl)
      | (obtain ⟨_, _, _, _, _, _, _, _, _, rfl, _⟩ := h; rfl)
      | (obtain ⟨_, _, _, _, _, _, _, _, _, _, rfl, _⟩ := h; rfl)
      | (obtain ⟨_, _, _, _, _, _, _, _, _, _, _, rfl, _⟩ := h; rfl)
      | (obtain ⟨_, _, _, _, _, _, _, _, _, _, _, _, rfl, _⟩ := h; rfl)
      | (obtain ⟨_, _, _, _, _, _, _, _, _, _, _, _, _, rfl, _⟩ := h; rfl)
      | (obtain ⟨_, _, _, _, _, _, _, _, _, _, _, _, _, _, rfl, _⟩ := h; rfl)
      | (obtain ⟨_, _, _, _, _, _, _, _, _, _, _, _, _, _, _, rfl, _⟩ := h; rfl)
      | (obtain ⟨_, _, _, _, _, _, _, _, _, _, _, _, _, _, _, _, rfl, _⟩ := h; rfl)
      | (obtain ⟨_, _, _, _, _, _, _, _, _, _, _, _, _, _, _, _, _, rfl, _⟩ := h; rfl)
      | (obtain ⟨_, _, _, _, _, _, _, _, _, _, _, _, _, _, _, _, _, _, rfl, _⟩ := h; rfl)
      | (obtain ⟨_, _, _, _, _, _, _, _, _, _, _, _, _, _, _, _, _, _, _, rfl, _⟩ := h; rfl)
      | (obtain ⟨_, _, _, _, _, _, _, _, _, _, _, _, _, _, _, _, _, _, _, _, rfl, _⟩ := h; rfl)
      | (obtain ⟨_, _, _, _, _, _, _, _, _, _, _, _, _, _, _, _, _, _, _, _, _, rfl, _⟩ := h; rfl)
      | (obtain ⟨_, _, _, _, _, _, _, _, _, _, _, _, _, _, _, _, _, _, _, _, _, _, rfl, _⟩ := h; rfl)
      | (obtain ⟨_, _, _, _, _, _, _, _, _, _, _, _, _, _, _, _, _, _, _, _, _, _, _, rfl, _⟩ := h; rfl)
      | (obtain ⟨_, _, _, _, _, _, _, _, _, _, _, _, _, _, _, _, _, _, _, _, _, _, _, _, rfl, _⟩ := h; rfl)
      | (obtain ⟨_, _, _, _, _, _, _, _, _, _, _, _, _, _, _, _, _, _, _, _, _, _, _, _, _, rfl, _⟩ := h; rfl)
      | (obtain ⟨_, _, _, _, _, _, _, _, _, _, _, _, _, _, _, _, _, _, _, _, _, _, _, _, _, _, rfl, _⟩ := h; rfl)
      | (obtain ⟨_, _, _, _, _, _, _, _, _, _, _, _, _, _, _, _, _, _, _, _, _, _, _, _, _, _, _, rfl, _⟩ := h; rfl)
  have hu := hu_of hr
  have hu64 := hr.units
  have hu65 := hr.u65
  have nd := sc_is_peg.nd
  exact ⟨t_is_peg K, (pss_cons (s_if (PW.pt (w_or (t_not (t_val (pe_callB b_isi (by rfl) M.m_isinstance (by decide +kernel) (pa_cons (uv 0) (pa_cons (pe_bltn (v := .ty "str") (by rfl) M.m_str (by decide +kernel) rfl) pa_nil))))) (w_or (t_cmp (c_op o_lt (pe_callB l_str (by rfl) M.m_len (by decide +kernel) (pa_cons (uv 0) pa_nil)) pe_int)) (pw_or1 (t_cmp (c_op o_gt (pe_callB l_str (by rfl) M.m_len (by decide +kernel) (pa_cons (uv 0) pa_nil)) pe_int))))))
  (pss_one (ps_ret pe_bl))
  pss_nil)
  (pss_cons (ps_for pnever rfl (pi_str (uv 0)) (pg_name (i := 1) nd rfl (by first | exact Or.inl rfl | exact Or.inr rfl))
  (pss_one (s_if (t_cmp (c_op o_notInSign (uv 1) (pe_glob (by rfl) m_LETTERS ⟨_, rfl⟩)))
  (pss_one (ps_ret pe_bl))
  pss_nil)))
  (pss_one (ps_ret pe_bl)))), rd_is_peg h⟩
abbrev s_is_sighting : Stmt := top 13
theorem sc_is_sighting : FnScope N_is_sighting ["thing"] (defScope s_is_sighting) := ⟨rfl, rfl, rfl, by decide +kernel, rfl, by decide +kernel, by decide +kernel⟩
theorem ok_is_sighting {f : Addr} {fd : FuncData} (F : Fun K "is_sighting" "is_sighting" s_is_sighting f fd) (hm : mg "is_sighting" = some (.ref f)) (hb : Binds K fd ["thing"] []) (M : Mg mg) (c_is_peg : Cal P w K mg base CX0 1 "is_peg" ["thing"] (sp_is_peg K)) (c_is_whole : Cal P w K mg base CX0 1 "is_whole" ["thing"] (sp_is_whole K)) :
    Cal P w K mg base CX0 2 "is_sighting" ["thing"] (sp_is_sighting K) := by
  obtain ⟨_, m_BOUND⟩ := M.x_BOUND
  refine ⟨f, fd, F.ok sc_is_sighting (fun vs H Q E h => ?_) (fun cdv A' outer s H vs Q E hr h => ?_), hm, F.kp, hb⟩
  · unfold sp_is_sighting at h
    first
      | (obtain ⟨rfl, _⟩ := h; rfl)
      | (obtain ⟨_, rfl, _⟩ := h; rfl)
      | (obtain ⟨_, _, rfl, _⟩ := h; rfl)
      | (obtain ⟨_, _, _, rfl, _⟩ := h; rfl)
      | (obtain ⟨_, _, _, _, rfl, _⟩ := h; rfl)
      | (obtain ⟨_, _, _, _, _, rfl, _⟩ := h; rfl)
      | (obtain ⟨_, _, _, _, _, _, rfl, _⟩ := h; rfl)
      | (obtain ⟨_, _, _, _, _, _, _, rfl, _⟩ := h; rfl)
      | (obtain ⟨_, _, _, _, _, _, _, _, rfl, _⟩ := h; rfl)
      | (obtain ⟨_, _, _, _, _, _, _, _, _, rfl, _⟩ := h; rfl)
      | (obtain ⟨_, _, _, _, _, _, _, _, _, _, rfl, _⟩ := h; rfl)
      | (obtain ⟨_, _, _, _, _, _, _, _, _, _, _, rfl, _⟩ := h; rfl)
      | (obtain ⟨_, _, _, _, _, _, _, _, _, _, _, _, rfl, _⟩ := h; rfl)
      | (obtain ⟨_, _, _, _, _, _, _, _, _, _, _, _, _, rfl, _⟩ := h; rfl)
      | (obtain ⟨_, _, _, _, _, _, _, _, _, _, _, _, _, _, rfl, _⟩ := h; rfl)
      | (obtain ⟨_, _, _, _, _, _, _, _, _, _, _, _, _, _, _, rfl, _⟩ := h; rfl)
      | (obtain ⟨_, _, _, _, _, _, _, _, _, _, _, _, _, _, _, _, rfl, _⟩ := h; rfl)
      | (obtain ⟨_, _, _, _, _, _, _, _, _, _, _, _, _, _, _, _, _, rfl, _⟩ := h; rfl)
      | (obtain ⟨_, _, _, _, _, _, _, _, _, _, _, _, _, _, _, _, _, _, rfl, _⟩ := h; rfl)
      | (obtain ⟨_, _, _, _, _, _, _, _, _, _, _, _, _, _, _, _, _, _, _, rfl, _⟩ := h; rfl)
      | (obtain ⟨_, _, _, _, _, _, _, _, _, _, _, _, _, _, _, _, _, _, _, _, rfl, _⟩ := h; rfl)
      | (obtain ⟨_, _, _, _, _, _, _, _, _, _, _, _, _, _, _, _, _, _, _, _, _, rfl, _⟩ := h; rfl)
      | (obtain ⟨_, _, _, _, _, _, _, _, _, _, _, _, _, _, _, _, _, _, _, _, _, _, rfl, _⟩ := h; rfl)
      | (obtain ⟨_, _, _, _, _, _, _, _, _, _, _, _, _, _, _, _, _, _, _, _, _, _, _, rfl, _⟩ := h; rfl)
      | (obtain ⟨_, _, _, _, _, _, _, _, _, _, _, _, _, _, _, _, _, _, _, _, _, _, _, _, rfl, _⟩ := h; rfl)
      | (obtain ⟨_, _, _, _, _, _, _, _, _, _, _, _, _, _, _, _, _, _, _, _, _, _, _, _, _, rfl, _⟩ := h; rfl)
      | (obtain ⟨_, _, _, _, _, _, _, _, _, _, _, _, _, _, _, _, _, _, _, _, _, _, _, _, _, _, rfl, _⟩ := h; rfl)
      | (obtain ⟨_, _, _, _, _, _, _, _, _, _, _, _, _, _, _, _, _, _, _, _, _, _, _, _, _, _, _, rfl, _⟩ := h; rfl)
  have hu := hu_of hr
  have hu64 := hr.units
  have hu65 := hr.u65
  have nd := sc_is_sighting.nd
  exact ⟨t_is_sighting K, (pss_cons (s_if (PW.pt (w_or (t_not (t_val (pe_callB b_isi (by rfl) M.m_isinstance (by decide +kernel) (pa_cons (uv 0) (pa_cons (pe_bltn (v := .ty "tuple") (by rfl) M.m_tuple (by decide +kernel) rfl) pa_nil))))) (pw_or1 (t_cmp (c_op o_neI (pe_callB l_seq (by rfl) M.m_len (by decide +kernel) (pa_cons (uv 0) pa_nil)) pe_int)))))
  (pss_one (ps_ret pe_bl))
  pss_nil)
  (pss_cons (s_if (PW.pt (w_or (t_not (t_val (c_is_peg.pe (hr.mono (by decide)) pass0 (pa_cons (pe_ix x_tup (uv 0) pe_int plainIx) pa_nil)))) (pw_or1 (t_not (t_val (c_is_peg.pe (hr.mono (by decide)) pass0 (pa_cons (pe_ix x_tup (uv 0) pe_int plainIx) pa_nil)))))))
  (pss_one (ps_ret pe_bl))
  pss_nil)
  (pss_one (ps_ret (v_and (c_is_whole.pe (hr.mono (by decide)) pass0 (pa_cons (pe_ix x_tup (uv 0) pe_int plainIx) pa_nil)) (pe_one (e_cmp (c_op o_lt (pe_callB b_abs (by rfl) M.m_abs (by decide +kernel) (pa_cons (pe_ix x_tup (uv 0) pe_int plainIx) pa_nil)) (pe_glob (by rfl) m_BOUND ⟨_, rfl⟩))))))))), rd_is_sighting h⟩
abbrev s_row_turned : Stmt := top 15
theorem sc_row_turned : FnScope N_row_turned ["row"] (defScope s_row_turned) := ⟨rfl, rfl, rfl, by decide +kernel, rfl, by decide +kernel, by decide +kernel⟩
theorem ok_row_turned {f : Addr} {fd : FuncData} (F : Fun K "row_turned" "row_turned" s_row_turned f fd) (hm : mg "row_turned" = some (.ref f)) (hb : Binds K fd ["row"] []) (M : Mg mg)  :
    Cal P w K mg base CX0 1 "row_turned" ["row"] (sp_row_turned K) := by
  refine ⟨f, fd, F.ok sc_row_turned (fun vs H Q E h => ?_) (fun cdv A' outer s H vs Q E hr h => ?_), hm, F.kp, hb⟩
  · unfold sp_row_turned at h
    first
      | (obtain ⟨rfl, _⟩ := h; rfl)
      | (obtain ⟨_, rfl, _⟩ := h; rfl)
      | (obtain ⟨_, _, rfl, _⟩ := h; rfl)
      | (obtain ⟨_, _, _, rfl, _⟩ := h; rfl)
      | (obtain ⟨_, _, _, _, rfl, _⟩ := h; rfl)
      | (obtain ⟨_, _, _, _, _, rfl, _⟩ := h; rfl)
      | (obtain ⟨_, _, _, _, _, _, rfl, _⟩ := h; rfl)
      | (obtain ⟨_, _, _, _, _, _, _, rfl, _⟩ := h; rfl)
      | (obtain ⟨_, _, _, _, _, _, _, _, rfl, _⟩ := h; rfl)
      | (obtain ⟨_, _, _, _, _, _, _, _, _, rfl, _⟩ := h; rfl)
      | (obtain ⟨_, _, _, _, _, _, _, _, _, _, rfl, _⟩ := h; rfl)
      | (obtain ⟨_, _, _, _, _, _, _, _, _, _, _, rfl, _⟩ := h; rfl)
      | (obtain ⟨_, _, _, _, _, _, _, _, _, _, _, _, rfl, _⟩ := h; rfl)
      | (obtain ⟨_, _, _, _, _, _, _, _, _, _, _, _, _, rfl, _⟩ := h; rfl)
      | (obtain ⟨_, _, _, _, _, _, _, _, _, _, _, _, _, _, rfl, _⟩ := h; rfl)
      | (obtain ⟨_, _, _, _, _, _, _, _, _, _, _, _, _, _, _, rfl, _⟩ := h; rfl)
      | (obtain ⟨_, _, _, _, _, _, _, _, _, _, _, _, _, _, _, _, rfl, _⟩ := h; rfl)
      | (obtain ⟨_, _, _, _, _, _, _, _, _, _, _, _, _, _, _, _, _, rfl, _⟩ := h; rfl)
      | (obtain ⟨_, _, _, _, _, _, _, _, _, _, _, _, _, _, _, _, _, _, rfl, _⟩ := h; rfl)
      | (obtain ⟨_, _, _, _, _, _, _, _, _, _, _, _, _, _, _, _, _, _, _, rfl, _⟩ := h; rfl)
      | (obtain ⟨_, _, _, _, _, _, _, _, _, _, _, _, _, _, _, _, _, _, _, _, rfl, _⟩ := h; rfl)
      | (obtain ⟨_, _, _, _, _, _, _, _, _, _, _, _, _, _, _, _, _, _, _, _, _, rfl, _⟩ := h; rfl)
      | (obtain ⟨_, _, _, _, _, _, _, _, _, _, _, _, _, _, _, _, _, _, _, _, _, _, rfl, _⟩ := h; rfl)
      | (obtain ⟨_, _, _, _, _, _, _, _, _, _, _, _, _, _, _, _, _, _, _, _, _, _, _, rfl, _⟩ := h; rfl)
      | (obtain ⟨_, _, _, _, _, _, _, _, _, _, _, _, _, _, _, _, _, _, _, _, _, _, _, _, rfl, _⟩ := h; rfl)
      | (obtain ⟨_, _, _, _, _, _, _, _, _, _, _, _, _, _, _, _, _, _, _, _, _, _, _, _, _, rfl, _⟩ := h; rfl)
      | (obtain ⟨_, _, _, _, _, _, _, _, _, _, _, _, _, _, _, _, _, _, _, _, _, _, _, _, _, _, rfl, _⟩ := h; rfl)
      | (obtain ⟨_, _, _, _, _, _, _, _, _, _, _, _, _, _, _, _, _, _, _, _, _, _, _, _, _, _, _, rfl, _⟩ := h; rfl)
  have hu := hu_of hr
  have hu64 := hr.units
  have hu65 := hr.u65
  have nd := sc_row_turned.nd
  exact ⟨t_row_turned K, (pss_one (ps_ret (e_tup (pa_cons (pe_ix x_tup (uv 0) pe_int plainIx) (pa_cons (pe_ix x_tup (uv 0) pe_int plainIx) (pa_cons (pe_ix x_tup (uv 0) pe_int plainIx) (pa_cons (pe_op o_sub pe_int (pe_ix x_tup (uv 0) pe_int plainIx)) pa_nil))))))), rd_row_turned h⟩
abbrev s_total : Stmt := top 16
theorem sc_total : FnScope N_total ["steps"] (defScope s_total) := ⟨rfl, rfl, rfl, by decide +kernel, rfl, by decide +kernel, by decide +kernel⟩
theorem ok_total {f : Addr} {fd : FuncData} (F : Fun K "total" "total" s_total f fd) (hm : mg "total" = some (.ref f)) (hb : Binds K fd ["steps"] []) (M : Mg mg)  :
    Cal P w K mg base CX0 1 "total" ["steps"] (sp_total K) := by
  refine ⟨f, fd, F.ok sc_total (fun vs H Q E h => ?_) (fun cdv A' outer s H vs Q E hr h => ?_), hm, F.kp, hb⟩
  · unfold sp_total at h
    first
      | (obtain ⟨rfl, _⟩ := h; rfl)
      | (obtain ⟨_, rfl, _⟩ := h; rfl)
      | (obtain ⟨_, _, rfl, _⟩ := h; rfl)
      | (obtain ⟨_, _, _, rfl, _⟩ := h; rfl)
      | (obtain ⟨_, _, _, _, rfl, _⟩ := h; rfl)
      | (obtain ⟨_, _, _, _, _, rfl, _⟩ := h; rfl)
      | (obtain ⟨_, _, _, _, _, _, rfl, _⟩ := h; rfl)
      | (obtain ⟨_, _, _, _, _, _, _, rfl, _⟩ := h; rfl)
      | (obtain ⟨_, _, _, _, _, _, _, _, rfl, _⟩ := h; rfl)
      | (obtain ⟨_, _, _, _, _, _, _, _, _, rfl, _⟩ := h; rfl)
      | (obtain ⟨_, _, _, _, _, _, _, _, _, _, rfl, _⟩ := h; rfl)
      | (obtain ⟨_, _, _, _, _, _, _, _, _, _, _, rfl, _⟩ := h; rfl)
      | (obtain ⟨_, _, _, _, _, _, _, _, _, _, _, _, rfl, _⟩ := h; rfl)
      | (obtain ⟨_, _, _, _, _, _, _, _, _, _, _, _, _, rfl, _⟩ := h; rfl)
      | (obtain ⟨_, _, _, _, _, _, _, _, _, _, _, _, _, _, rfl, _⟩ := h; rfl)
      | (obtain ⟨_, _, _, _, _, _, _, _, _, _, _, _, _, _, _, rfl, _⟩ := h; rfl)
      | (obtain ⟨_, _, _, _, _, _, _, _, _, _, _, _, _, _, _, _, rfl, _⟩ := h; rfl)
      | (obtain ⟨_, _, _, _, _, _, _, _, _, _, _, _, _, _, _, _, _, rfl, _⟩ := h; rfl)
      | (obtain ⟨_, _, _, _, _, _, _, _, _, _, _, _, _, _, _, _, _, _, rfl, _⟩ := h; rfl)
      | (obtain ⟨_, _, _, _, _, _, _, _, _, _, _, _, _, _, _, _, _, _, _, rfl, _⟩ := h; rfl)
      | (obtain ⟨_, _, _, _, _, _, _, _, _, _, _, _, _, _, _, _, _, _, _, _, rfl, _⟩ := h; rfl)
      | (obtain ⟨_, _, _, _, _, _, _, _, _, _, _, _, _, _, _, _, _, _, _, _, _, rfl, _⟩ := h; rfl)
      | (obtain ⟨_, _, _, _, _, _, _, _, _, _, _, _, _, _, _, _, _, _, _, _, _, _, rfl, _⟩ := h; rfl)
      | (obtain ⟨_, _, _, _, _, _, _, _, _, _, _, _, _, _, _, _, _, _, _, _, _, _, _, rfl, _⟩ := h; rfl)
      | (obtain ⟨_, _, _, _, _, _, _, _, _, _, _, _, _, _, _, _, _, _, _, _, _, _, _, _, rfl, _⟩ := h; rfl)
      | (obtain ⟨_, _, _, _, _, _, _, _, _, _, _, _, _, _, _, _, _, _, _, _, _, _, _, _, _, rfl, _⟩ := h; rfl)
      | (obtain ⟨_, _, _, _, _, _, _, _, _, _, _, _, _, _, _, _, _, _, _, _, _, _, _, _, _, _, rfl, _⟩ := h; rfl)
      | (obtain ⟨_, _, _, _, _, _, _, _, _, _, _, _, _, _, _, _, _, _, _, _, _, _, _, _, _, _, _, rfl, _⟩ := h; rfl)
  have hu := hu_of hr
  have hu64 := hr.units
  have hu65 := hr.u65
  have nd := sc_total.nd
  exact ⟨t_total K, (pss_cons (ps_set (i := 1) nd rfl (by first | exact Or.inl rfl | exact Or.inr rfl) pe_int)
  (pss_cons (ps_for pnever rfl (pi_list (uv 0)) (pg_name (i := 2) nd rfl (by first | exact Or.inl rfl | exact Or.inr rfl))
  (pss_one (ps_set (i := 1) nd rfl (by first | exact Or.inl rfl | exact Or.inr rfl) (pe_op o_add (uv 1) (pe_ix x_tup (uv 2) pe_int plainIx)))))
  (pss_one (ps_ret (uv 1))))), rd_total h⟩
abbrev s_leaving : Stmt := top 17
theorem sc_leaving : FnScope N_leaving ["rows"] (defScope s_leaving) := ⟨rfl, rfl, rfl, by decide +kernel, rfl, by decide +kernel, by decide +kernel⟩
theorem ok_leaving {f : Addr} {fd : FuncData} (F : Fun K "leaving" "leaving" s_leaving f fd) (hm : mg "leaving" = some (.ref f)) (hb : Binds K fd ["rows"] []) (M : Mg mg) (c_row_turned : Cal P w K mg base CX0 1 "row_turned" ["row"] (sp_row_turned K)) :
    Cal P w K mg base CX0 2 "leaving" ["rows"] (sp_leaving K) := by
  refine ⟨f, fd, F.ok sc_leaving (fun vs H Q E h => ?_) (fun cdv A' outer s H vs Q E hr h => ?_), hm, F.kp, hb⟩
  · unfold sp_leaving at h
    first
      | (obtain ⟨rfl, _⟩ := h; rfl)
      | (obtain ⟨_, rfl, _⟩ := h; rfl)
      | (obtain ⟨_, _, rfl, _⟩ := h; rfl)
      | (obtain ⟨_, _, _, rfl, _⟩ := h; rfl)
      | (obtain ⟨_, _, _, _, rfl, _⟩ := h; rfl)
      | (obtain ⟨_, _, _, _, _, rfl, _⟩ := h; rfl)
      | (obtain ⟨_, _, _, _, _, _, rfl, _⟩ := h; rfl)
      | (obtain ⟨_, _, _, _, _, _, _, rfl, _⟩ := h; rfl)
      | (obtain ⟨_, _, _, _, _, _, _, _, rfl, _⟩ := h; rfl)
      | (obtain ⟨_, _, _, _, _, _, _, _, _, rfl, _⟩ := h; rfl)
      | (obtain ⟨_, _, _, _, _, _, _, _, _, _, rfl, _⟩ := h; rfl)
      | (obtain ⟨_, _, _, _, _, _, _, _, _, _, _, rfl, _⟩ := h; rfl)
      | (obtain ⟨_, _, _, _, _, _, _, _, _, _, _, _, rfl, _⟩ := h; rfl)
      | (obtain ⟨_, _, _, _, _, _, _, _, _, _, _, _, _, rfl, _⟩ := h; rfl)
      | (obtain ⟨_, _, _, _, _, _, _, _, _, _, _, _, _, _, rfl, _⟩ := h; rfl)
      | (obtain ⟨_, _, _, _, _, _, _, _, _, _, _, _, _, _, _, rfl, _⟩ := h; rfl)
      | (obtain ⟨_, _, _, _, _, _, _, _, _, _, _, _, _, _, _, _, rfl, _⟩ := h; rfl)
      | (obtain ⟨_, _, _, _, _, _, _, _, _, _, _, _, _, _, _, _, _, rfl, _⟩ := h; rfl)
      | (obtain ⟨_, _, _, _, _, _, _, _, _, _, _, _, _, _, _, _, _, _, rfl, _⟩ := h; rfl)
      | (obtain ⟨_, _, _, _, _, _, _, _, _, _, _, _, _, _, _, _, _, _, _, rfl, _⟩ := h; rfl)
      | (obtain ⟨_, _, _, _, _, _, _, _, _, _, _, _, _, _, _, _, _, _, _, _, rfl, _⟩ := h; rfl)
      | (obtain ⟨_, _, _, _, _, _, _, _, _, _, _, _, _, _, _, _, _, _, _, _, _, rfl, _⟩ := h; rfl)
      | (obtain ⟨_, _, _, _, _, _, _, _, _, _, _, _, _, _, _, _, _, _, _, _, _, _, rfl, _⟩ := h; rfl)
      | (obtain ⟨_, _, _, _, _, _, _, _, _, _, _, _, _, _, _, _, _, _, _, _, _, _, _, rfl, _⟩ := h; rfl)
      | (obtain ⟨_, _, _, _, _, _, _, _, _, _, _, _, _, _, _, _, _, _, _, _, _, _, _, _, rfl, _⟩ := h; rfl)
      | (obtain ⟨_, _, _, _, _, _, _, _, _, _, _, _, _, _, _, _, _, _, _, _, _, _, _, _, _, rfl, _⟩ := h; rfl)
      | (obtain ⟨_, _, _, _, _, _, _, _, _, _, _, _, _, _, _, _, _, _, _, _, _, _, _, _, _, _, rfl, _⟩ := h; rfl)
      | (obtain ⟨_, _, _, _, _, _, _, _, _, _, _, _, _, _, _, _, _, _, _, _, _, _, _, _, _, _, _, rfl, _⟩ := h; rfl)
  have hu := hu_of hr
  have hu64 := hr.units
  have hu65 := hr.u65
  have nd := sc_leaving.nd
  exact ⟨t_leaving K, (pss_cons (ps_set (i := 1) nd rfl (by first | exact Or.inl rfl | exact Or.inr rfl) e_dnew)
  (pss_cons (ps_for pnever rfl (pi_list (uv 0)) (pg_name (i := 2) nd rfl (by first | exact Or.inl rfl | exact Or.inr rfl))
  (pss_cons (ps_expr (pe_bm PySem.F.plainAttrs_list PySem.F.slot_list_append PySem.F.type_list_append m_append (e_dsetd (uv 1) (pe_ix x_tup (uv 2) pe_int plainIx) (e_lst pa_nil) ⟨rfl, rfl, rfl, rfl⟩) (pa_cons (uv 2) pa_nil)))
  (pss_one (ps_expr (pe_bm PySem.F.plainAttrs_list PySem.F.slot_list_append PySem.F.type_list_append m_append (e_dsetd (uv 1) (pe_ix x_tup (uv 2) pe_int plainIx) (e_lst pa_nil) ⟨rfl, rfl, rfl, rfl⟩) (pa_cons (c_row_turned.pe (hr.mono (by decide)) pass0 (pa_cons (uv 2) pa_nil)) pa_nil))))))
  (pss_one (ps_ret (uv 1))))), rd_leaving h⟩
abbrev s_reached : Stmt := top 18
theorem sc_reached : FnScope N_reached ["links", "one"] (defScope s_reached) := ⟨rfl, rfl, rfl, by decide +kernel, rfl, by decide +kernel, by decide +kernel⟩
theorem ok_reached {f : Addr} {fd : FuncData} (F : Fun K "reached" "reached" s_reached f fd) (hm : mg "reached" = some (.ref f)) (hb : Binds K fd ["links", "one"] []) (M : Mg mg)  :
    Cal P w K mg base CX0 1 "reached" ["links", "one"] (sp_reached K) := by
  refine ⟨f, fd, F.ok sc_reached (fun vs H Q E h => ?_) (fun cdv A' outer s H vs Q E hr h => ?_), hm, F.kp, hb⟩
  · unfold sp_reached at h
    first
      | (obtain ⟨rfl, _⟩ := h; rfl)
      | (obtain ⟨_, rfl, _⟩ := h; rfl)
      | (obtain ⟨_, _, rfl, _⟩ := h; rfl)
      | (obtain ⟨_, _, _, rfl, _⟩ := h; rfl)
      | (obtain ⟨_, _, _, _, rfl, _⟩ := h; rfl)
      | (obtain ⟨_, _, _, _, _, rfl, _⟩ := h; rfl)
      | (obtain ⟨_, _, _, _, _, _, rfl, _⟩ := h; rfl)
      | (obtain ⟨_, _, _, _, _, _, _, rfl, _⟩ := h; rfl)
      | (obtain ⟨_, _, _, _, _, _, _, _, rfl, _⟩ := h; rfl)
      | (obtain ⟨_, _, _, _, _, _, _, _, _, rfl, _⟩ := h; rfl)
      | (obtain ⟨_, _, _, _, _, _, _, _, _, _, rfl, _⟩ := h; rfl)
      | (obtain ⟨_, _, _, _, _, _, _, _, _, _, _, rfl, _⟩ := h; rfl)
      | (obtain ⟨_, _, _, _, _, _, _, _, _, _, _, _, rfl, _⟩ := h; rfl)
      | (obtain ⟨_, _, _, _, _, _, _, _, _, _, _, _, _, rfl, _⟩ := h; rfl)
      | (obtain ⟨_, _, _, _, _, _, _, _, _, _, _, _, _, _, rfl, _⟩ := h; rfl)
      | (obtain ⟨_, _, _, _, _, _, _, _, _, _, _, _, _, _, _, rfl, _⟩ := h; rfl)
      | (obtain ⟨_, _, _, _, _, _, _, _, _, _, _, _, _, _, _, _, rfl, _⟩ := h; rfl)
      | (obtain ⟨_, _, _, _, _, _, _, _, _, _, _, _, _, _, _, _, _, rfl, _⟩ := h; rfl)
      | (obtain ⟨_, _, _, _, _, _, _, _, _, _, _, _, _, _, _, _, _, _, rfl, _⟩ := h; rfl)
      | (obtain ⟨_, _, _, _, _, _, _, _, _, _, _, _, _, _, _, _, _, _, _, rfl, _⟩ := h; rfl)
      | (obtain ⟨_, _, _, _, _, _, _, _, _, _, _, _, _, _, _, _, _, _, _, _, rfl, _⟩ := h; rfl)
      | (obtain ⟨_, _, _, _, _, _, _, _, _, _, _, _, _, _, _, _, _, _, _, _, _, rfl, _⟩ := h; rfl)
      | (obtain ⟨_, _, _, _, _, _, _, _, _, _, _, _, _, _, _, _, _, _, _, _, _, _, rfl, _⟩ := h; rfl)
      | (obtain ⟨_, _, _, _, _, _, _, _, _, _, _, _, _, _, _, _, _, _, _, _, _, _, _, rfl, _⟩ := h; rfl)
      | (obtain ⟨_, _, _, _, _, _, _, _, _, _, _, _, _, _, _, _, _, _, _, _, _, _, _, _, rfl, _⟩ := h; rfl)
      | (obtain ⟨_, _, _, _, _, _, _, _, _, _, _, _, _, _, _, _, _, _, _, _, _, _, _, _, _, rfl, _⟩ := h; rfl)
      | (obtain ⟨_, _, _, _, _, _, _, _, _, _, _, _, _, _, _, _, _, _, _, _, _, _, _, _, _, _, rfl, _⟩ := h; rfl)
      | (obtain ⟨_, _, _, _, _, _, _, _, _, _, _, _, _, _, _, _, _, _, _, _, _, _, _, _, _, _, _, rfl, _⟩ := h; rfl)
  have hu := hu_of hr
  have hu64 := hr.units
  have hu65 := hr.u65
  have nd := sc_reached.nd
  exact ⟨t_reached K, (pss_cons (ps_set (i := 2) nd rfl (by first | exact Or.inl rfl | exact Or.inr rfl) (e_disp1 (uv 1) pe_non))
  (pss_cons (ps_set (i := 3) nd rfl (by first | exact Or.inl rfl | exact Or.inr rfl) pe_int)
  (pss_cons (ps_set (i := 4) nd rfl (by first | exact Or.inl rfl | exact Or.inr rfl) (e_lst (pa_cons (uv 1) pa_nil)))
  (pss_cons (s_while pnever (t_cmp (c_op o_lt (uv 3) (pe_callB l_seq (by rfl) M.m_len (by decide +kernel) (pa_cons (uv 4) pa_nil))))
  (pss_cons (ps_for pnever rfl (pi_list (e_dget2 hu (uv 0) (pe_ix x_list (uv 4) (uv 3) plainIx) (e_lst pa_nil) ⟨rfl, rfl, rfl, rfl⟩)) (pg_name (i := 5) nd rfl (by first | exact Or.inl rfl | exact Or.inr rfl))
  (pss_one (s_if (t_cmp (c_dnotin hu (pe_ix x_tup (uv 5) pe_int plainIx) (uv 2)))
  (pss_cons (s_dput hu (uv 2) (pe_ix x_tup (uv 5) pe_int plainIx) (uv 5) rfl)
  (pss_one (ps_expr (pe_bm PySem.F.plainAttrs_list PySem.F.slot_list_append PySem.F.type_list_append m_append (uv 4) (pa_cons (pe_ix x_tup (uv 5) pe_int plainIx) pa_nil)))))
  pss_nil)))
  (pss_one (ps_set (i := 3) nd rfl (by first | exact Or.inl rfl | exact Or.inr rfl) (pe_op o_add (uv 3) pe_int)))))
  (pss_one (ps_ret (uv 2))))))), rd_reached h⟩
abbrev s_way_along : Stmt := top 19
theorem sc_way_along : FnScope N_way_along ["rows", "one", "other"] (defScope s_way_along) := ⟨rfl, rfl, rfl, by decide +kernel, rfl, by decide +kernel, by decide +kernel⟩
theorem ok_way_along {f : Addr} {fd : FuncData} (F : Fun K "way_along" "way_along" s_way_along f fd) (hm : mg "way_along" = some (.ref f)) (hb : Binds K fd ["rows", "one", "other"] []) (M : Mg mg) (c_reached : Cal P w K mg base CX0 1 "reached" ["links", "one"] (sp_reached K)) (c_leaving : Cal P w K mg base CX0 2 "leaving" ["rows"] (sp_leaving K)) :
    Cal P w K mg base CX0 3 "way_along" ["rows", "one", "other"] (sp_way_along K) := by
  refine ⟨f, fd, F.ok sc_way_along (fun vs H Q E h => ?_) (fun cdv A' outer s H vs Q E hr h => ?_), hm, F.kp, hb⟩
  · unfold sp_way_along at h
    first
      | (obtain ⟨rfl, _⟩ := h; rfl)
      | (obtain ⟨_, rfl, _⟩ := h; rfl)
      | (obtain ⟨_, _, rfl, _⟩ := h; rfl)
      | (obtain ⟨_, _, _, rfl, _⟩ := h; rfl)
      | (obtain ⟨_, _, _, _, rfl, _⟩ := h; rfl)
      | (obtain ⟨_, _, _, _, _, rfl, _⟩ := h; rfl)
      | (obtain ⟨_, _, _, _, _, _, rfl, _⟩ := h; rfl)
      | (obtain ⟨_, _, _, _, _, _, _, rfl, _⟩ := h; rfl)
      | (obtain ⟨_, _, _, _, _, _, _, _, rfl, _⟩ := h; rfl)
      | (obtain ⟨_, _, _, _, _, _, _, _, _, rfl, _⟩ := h; rfl)
      | (obtain ⟨_, _, _, _, _, _, _, _, _, _, rfl, _⟩ := h; rfl)
      | (obtain ⟨_, _, _, _, _, _, _, _, _, _, _, rfl, _⟩ := h; rfl)
      | (obtain ⟨_, _, _, _, _, _, _, _, _, _, _, _, rfl, _⟩ := h; rfl)
      | (obtain ⟨_, _, _, _, _, _, _, _, _, _, _, _, _, rfl, _⟩ := h; rfl)
      | (obtain ⟨_, _, _, _, _, _, _, _, _, _, _, _, _, _, rfl, _⟩ := h; rfl)
      | (obtain ⟨_, _, _, _, _, _, _, _, _, _, _, _, _, _, _, rfl, _⟩ := h; rfl)
      | (obtain ⟨_, _, _, _, _, _, _, _, _, _, _, _, _, _, _, _, rfl, _⟩ := h; rfl)
      | (obtain ⟨_, _, _, _, _, _, _, _, _, _, _, _, _, _, _, _, _, rfl, _⟩ := h; rfl)
      | (obtain ⟨_, _, _, _, _, _, _, _, _, _, _, _, _, _, _, _, _, _, rfl, _⟩ := h; rfl)
      | (obtain ⟨_, _, _, _, _, _, _, _, _, _, _, _, _, _, _, _, _, _, _, rfl, _⟩ := h; rfl)
      | (obtain ⟨_, _, _, _, _, _, _, _, _, _, _, _, _, _, _, _, _, _, _, _, rfl, _⟩ := h; rfl)
      | (obtain ⟨_, _, _, _, _, _, _, _, _, _, _, _, _, _, _, _, _, _, _, _, _, rfl, _⟩ := h; rfl)
      | (obtain ⟨_, _, _, _, _, _, _, _, _, _, _, _, _, _, _, _, _, _, _, _, _, _, rfl, _⟩ := h; rfl)
      | (obtain ⟨_, _, _, _, _, _, _, _, _, _, _, _, _, _, _, _, _, _, _, _, _, _, _, rfl, _⟩ := h; rfl)
      | (obtain ⟨_, _, _, _, _, _, _, _, _, _, _, _, _, _, _, _, _, _, _, _, _, _, _, _, rfl, _⟩ := h; rfl)
      | (obtain ⟨_, _, _, _, _, _, _, _, _, _, _, _, _, _, _, _, _, _, _, _, _, _, _, _, _, rfl, _⟩ := h; rfl)
      | (obtain ⟨_, _, _, _, _, _, _, _, _, _, _, _, _, _, _, _, _, _, _, _, _, _, _, _, _, _, rfl, _⟩ := h; rfl)
      | (obtain ⟨_, _, _, _, _, _, _, _, _, _, _, _, _, _, _, _, _, _, _, _, _, _, _, _, _, _, _, rfl, _⟩ := h; rfl)
  have hu := hu_of hr
  have hu64 := hr.units
  have hu65 := hr.u65
  have nd := sc_way_along.nd
  exact ⟨t_way_along K, (pss_cons (ps_set (i := 3) nd rfl (by first | exact Or.inl rfl | exact Or.inr rfl) (c_reached.pe (hr.mono (by decide)) pass0 (pa_cons (c_leaving.pe (hr.mono (by decide)) pass0 (pa_cons (uv 0) pa_nil)) (pa_cons (uv 1) pa_nil))))
  (pss_cons (s_if (t_cmp (c_dnotin hu (uv 2) (uv 3)))
  (pss_one (ps_ret pe_non))
  pss_nil)
  (pss_cons (ps_set (i := 4) nd rfl (by first | exact Or.inl rfl | exact Or.inr rfl) (e_lst pa_nil))
  (pss_cons (ps_set (i := 5) nd rfl (by first | exact Or.inl rfl | exact Or.inr rfl) (u_dget hu (uv 3) (uv 2)))
  (pss_cons (s_while pnever (t_cmp (c_op o_notN (uv 5) pe_non))
  (pss_cons (ps_expr (pe_bm PySem.F.plainAttrs_list PySem.F.slot_list_append PySem.F.type_list_append m_append (uv 4) (pa_cons (uv 5) pa_nil)))
  (pss_one (ps_set (i := 5) nd rfl (by first | exact Or.inl rfl | exact Or.inr rfl) (u_dget hu (uv 3) (pe_ix x_tup (uv 5) pe_int plainIx))))))
  (pss_one (ps_ret (e_listRev rfl (by rfl) M.m_list (by decide +kernel) (by rfl) M.m_reversed (uv 4))))))))), rd_way_along h⟩
abbrev s_part_of : Stmt := top 20
theorem sc_part_of : FnScope N_part_of ["rows", "one"] (defScope s_part_of) := ⟨rfl, rfl, rfl, by decide +kernel, rfl, by decide +kernel, by decide +kernel⟩
theorem ok_part_of {f : Addr} {fd : FuncData} (F : Fun K "part_of" "part_of" s_part_of f fd) (hm : mg "part_of" = some (.ref f)) (hb : Binds K fd ["rows", "one"] []) (M : Mg mg) (c_reached : Cal P w K mg base CX0 1 "reached" ["links", "one"] (sp_reached K)) (c_leaving : Cal P w K mg base CX0 2 "leaving" ["rows"] (sp_leaving K)) :
    Cal P w K mg base CX0 3 "part_of" ["rows", "one"] (sp_part_of K) := by
  refine ⟨f, fd, F.ok sc_part_of (fun vs H Q E h => ?_) (fun cdv A' outer s H vs Q E hr h => ?_), hm, F.kp, hb⟩
  · unfold sp_part_of at h
    first
      | (obtain ⟨rfl, _⟩ := h; rfl)
      | (obtain ⟨_, rfl, _⟩ := h; rfl)
      | (obtain ⟨_, _, rfl, _⟩ := h; rfl)
      | (obtain ⟨_, _, _, rfl, _⟩ := h; rfl)
      | (obtain ⟨_, _, _, _, rfl, _⟩ := h; rfl)
      | (obtain ⟨_, _, _, _, _, rfl, _⟩ := h; rfl)
      | (obtain ⟨_, _, _, _, _, _, rfl, _⟩ := h; rfl)
      | (obtain ⟨_, _, _, _, _, _, _, rfl, _⟩ := h; rfl)
      | (obtain ⟨_, _, _, _, _, _, _, _, rfl, _⟩ := h; rfl)
      | (obtain ⟨_, _, _, _, _, _, _, _, _, rfl, _⟩ := h; rfl)
      | (obtain ⟨_, _, _, _, _, _, _, _, _, _, rfl, _⟩ := h; rfl)
      | (obtain ⟨_, _, _, _, _, _, _, _, _, _, _, rfl, _⟩ := h; rfl)
      | (obtain ⟨_, _, _, _, _, _, _, _, _, _, _, _, rfl, _⟩ := h; rfl)
      | (obtain ⟨_, _, _, _, _, _, _, _, _, _, _, _, _, rfl, _⟩ := h; rfl)
      | (obtain ⟨_, _, _, _, _, _, _, _, _, _, _, _, _, _, rfl, _⟩ := h; rfl)
      | (obtain ⟨_, _, _, _, _, _, _, _, _, _, _, _, _, _, _, rfl, _⟩ := h; rfl)
      | (obtain ⟨_, _, _, _, _, _, _, _, _, _, _, _, _, _, _, _, rfl, _⟩ := h; rfl)
      | (obtain ⟨_, _, _, _, _, _, _, _, _, _, _, _, _, _, _, _, _, rfl, _⟩ := h; rfl)
      | (obtain ⟨_, _, _, _, _, _, _, _, _, _, _, _, _, _, _, _, _, _, rfl, _⟩ := h; rfl)
      | (obtain ⟨_, _, _, _, _, _, _, _, _, _, _, _, _, _, _, _, _, _, _, rfl, _⟩ := h; rfl)
      | (obtain ⟨_, _, _, _, _, _, _, _, _, _, _, _, _, _, _, _, _, _, _, _, rfl, _⟩ := h; rfl)
      | (obtain ⟨_, _, _, _, _, _, _, _, _, _, _, _, _, _, _, _, _, _, _, _, _, rfl, _⟩ := h; rfl)
      | (obtain ⟨_, _, _, _, _, _, _, _, _, _, _, _, _, _, _, _, _, _, _, _, _, _, rfl, _⟩ := h; rfl)
      | (obtain ⟨_, _, _, _, _, _, _, _, _, _, _, _, _, _, _, _, _, _, _, _, _, _, _, rfl, _⟩ := h; rfl)
      | (obtain ⟨_, _, _, _, _, _, _, _, _, _, _, _, _, _, _, _, _, _, _, _, _, _, _, _, rfl, _⟩ := h; rfl)
      | (obtain ⟨_, _, _, _, _, _, _, _, _, _, _, _, _, _, _, _, _, _, _, _, _, _, _, _, _, rfl, _⟩ := h; rfl)
      | (obtain ⟨_, _, _, _, _, _, _, _, _, _, _, _, _, _, _, _, _, _, _, _, _, _, _, _, _, _, rfl, _⟩ := h; rfl)
      | (obtain ⟨_, _, _, _, _, _, _, _, _, _, _, _, _, _, _, _, _, _, _, _, _, _, _, _, _, _, _, rfl, _⟩ := h; rfl)
  have hu := hu_of hr
  have hu64 := hr.units
  have hu65 := hr.u65
  have nd := sc_part_of.nd
  exact ⟨t_part_of K, (pss_one (ps_ret (pe_callB (b_sortedD rfl) (by rfl) M.m_sorted (by decide +kernel) (pa_cons (c_reached.pe (hr.mono (by decide)) pass0 (pa_cons (c_leaving.pe (hr.mono (by decide)) pass0 (pa_cons (uv 0) pa_nil)) (pa_cons (uv 1) pa_nil))) pa_nil)))), rd_part_of h⟩
abbrev s_Book___init__ : Stmt := inClass (top 22) 0
theorem sc_Book___init__ : FnScope N_Book___init__ ["self", "most"] (defScope s_Book___init__) := ⟨rfl, rfl, rfl, by decide +kernel, rfl, by decide +kernel, by decide +kernel⟩
theorem ok_Book___init__ {A : Ad} {f : Addr} {fd : FuncData} (F : FunD K "__init__" "Book.__init__" (defArgs s_Book___init__) (defBody s_Book___init__) (defScope s_Book___init__) [.int 200] [] f fd) (hM : Mk K A.Book f) (b1 : Binds K fd ["self", "most"] []) (b0 : ∃ ds, Vals [.int 200] ds ∧ Binds K fd ["self", "most"] ds) (M : Mg mg) (G : Gx mg K A) (T : Tx K A)  :
    CalK P w K mg base 1 A.Book "Book" ["self", "most"] (sp_Book___init__ K A) [.int 200] := by
  refine ⟨f, fd, hM, F.ok sc_Book___init__ (fun vs H Q E h => ?_) (fun cdv A' outer s H vs Q E hr h => ?_), G.g_Book, b1, b0⟩
  · unfold sp_Book___init__ at h
    first
      | (obtain ⟨rfl, _⟩ := h; rfl)
      | (obtain ⟨_, rfl, _⟩ := h; rfl)
      | (obtain ⟨_, _, rfl, _⟩ := h; rfl)
      | (obtain ⟨_, _, _, rfl, _⟩ := h; rfl)
      | (obtain ⟨_, _, _, _, rfl, _⟩ := h; rfl)
      | (obtain ⟨_, _, _, _, _, rfl, _⟩ := h; rfl)
      | (obtain ⟨_, _, _, _, _, _, rfl, _⟩ := h; rfl)
      | (obtain ⟨_, _, _, _, _, _, _, rfl, _⟩ := h; rfl)
      | (obtain ⟨_, _, _, _, _, _, _, _, rfl, _⟩ := h; rfl)
      | (obtain ⟨_, _, _, _, _, _, _, _, _, rfl, _⟩ := h; rfl)
      | (obtain ⟨_, _, _, _, _, _, _, _, _, _, rfl, _⟩ := h; rfl)
      | (obtain ⟨_, _, _, _, _, _, _, _, _, _, _, rfl, _⟩ := h; rfl)
      | (obtain ⟨_, _, _, _, _, _, _, _, _, _, _, _, rfl, _⟩ := h; rfl)
      | (obtain ⟨_, _, _, _, _, _, _, _, _, _, _, _, _, rfl, _⟩ := h; rfl)
      | (obtain ⟨_, _, _, _, _, _, _, _, _, _, _, _, _, _, rfl, _⟩ := h; rfl)
      | (obtain ⟨_, _, _, _, _, _, _, _, _, _, _, _, _, _, _, rfl, _⟩ := h; rfl)
      | (obtain ⟨_, _, _, _, _, _, _, _, _, _, _, _, _, _, _, _, rfl, _⟩ := h; rfl)
      | (obtain ⟨_, _, _, _, _, _, _, _, _, _, _, _, _, _, _, _, _, rfl, _⟩ := h; rfl)
      | (obtain ⟨_, _, _, _, _, _, _, _, _, _, _, _, _, _, _, _, _, _, rfl, _⟩ := h; rfl)
      | (obtain ⟨_, _, _, _, _, _, _, _, _, _, _, _, _, _, _, _, _, _, _, rfl, _⟩ := h; rfl)
      | (obtain ⟨_, _, _, _, _, _, _, _, _, _, _, _, _, _, _, _, _, _, _, _, rfl, _⟩ := h; rfl)
      | (obtain ⟨_, _, _, _, _, _, _, _, _, _, _, _, _, _, _, _, _, _, _, _, _, rfl, _⟩ := h; rfl)
      | (obtain ⟨_, _, _, _, _, _, _, _, _, _, _, _, _, _, _, _, _, _, _, _, _, _, rfl, _⟩ := h; rfl)
      | (obtain ⟨_, _, _, _, _, _, _, _, _, _, _, _, _, _, _, _, _, _, _, _, _, _, _, rfl, _⟩ := h; rfl)
      | (obtain ⟨_, _, _, _, _, _, _, _, _, _, _, _, _, _, _, _, _, _, _, _, _, _, _, _, rfl, _⟩ := h; rfl)
      | (obtain ⟨_, _, _, _, _, _, _, _, _, _, _, _, _, _, _, _, _, _, _, _, _, _, _, _, _, rfl, _⟩ := h; rfl)
      | (obtain ⟨_, _, _, _, _, _, _, _, _, _, _, _, _, _, _, _, _, _, _, _, _, _, _, _, _, _, rfl, _⟩ := h; rfl)
      | (obtain ⟨_, _, _, _, _, _, _, _, _, _, _, _, _, _, _, _, _, _, _, _, _, _, _, _, _, _, _, rfl, _⟩ := h; rfl)
  have hu := hu_of hr
  have hu64 := hr.units
  have hu65 := hr.u65
  have nd := sc_Book___init__.nd
  exact ⟨t_Book___init__ K A, (pss_cons (s_fld (uv 0) (uv 1) rfl)
  (pss_cons (s_fld (uv 0) pe_int rfl)
  (pss_one (s_fld (uv 0) e_dnew rfl)))), rd_Book___init__ T h⟩
abbrev s_Book_kept : Stmt := inClass (top 22) 1
theorem sc_Book_kept : FnScope N_Book_kept ["self"] (defScope s_Book_kept) := ⟨rfl, rfl, rfl, by decide +kernel, rfl, by decide +kernel, by decide +kernel⟩
theorem ok_Book_kept {A : Ad} {f : Addr} {fd : FuncData} (F : Fun K "kept" "Book.kept" s_Book_kept f fd) (hm : Meth K A.Book "kept" f) (hb : Binds K fd ["self"] []) (M : Mg mg) (G : Gx mg K A) (T : Tx K A)  :
    CalM P w K mg base CX0 1 A.Book "kept" ["self"] (sp_Book_kept K A) := by
  refine ⟨f, fd, F.ok sc_Book_kept (fun vs H Q E h => ?_) (fun cdv A' outer s H vs Q E hr h => ?_), hm, hb⟩
  · unfold sp_Book_kept at h
    first
      | (obtain ⟨rfl, _⟩ := h; rfl)
      | (obtain ⟨_, rfl, _⟩ := h; rfl)
      | (obtain ⟨_, _, rfl, _⟩ := h; rfl)
      | (obtain ⟨_, _, _, rfl, _⟩ := h; rfl)
      | (obtain ⟨_, _, _, _, rfl, _⟩ := h; rfl)
      | (obtain ⟨_, _, _, _, _, rfl, _⟩ := h; rfl)
      | (obtain ⟨_, _, _, _, _, _, rfl, _⟩ := h; rfl)
      | (obtain ⟨_, _, _, _, _, _, _, rfl, _⟩ := h; rfl)
      | (obtain ⟨_, _, _, _, _, _, _, _, rfl, _⟩ := h; rfl)
      | (obtain ⟨_, _, _, _, _, _, _, _, _, rfl, _⟩ := h; rfl)
      | (obtain ⟨_, _, _, _, _, _, _, _, _, _, rfl, _⟩ := h; rfl)
      | (obtain ⟨_, _, _, _, _, _, _, _, _, _, _, rfl, _⟩ := h; rfl)
      | (obtain ⟨_, _, _, _, _, _, _, _, _, _, _, _, rfl, _⟩ := h; rfl)
      | (obtain ⟨_, _, _, _, _, _, _, _, _, _, _, _, _, rfl, _⟩ := h; rfl)
      | (obtain ⟨_, _, _, _, _, _, _, _, _, _, _, _, _, _, rfl, _⟩ := h; rfl)
      | (obtain ⟨_, _, _, _, _, _, _, _, _, _, _, _, _, _, _, rfl, _⟩ := h; rfl)
      | (obtain ⟨_, _, _, _, _, _, _, _, _, _, _, _, _, _, _, _, rfl, _⟩ := h; rfl)
      | (obtain ⟨_, _, _, _, _, _, _, _, _, _, _, _, _, _, _, _, _, rfl, _⟩ := h; rfl)
      | (obtain ⟨_, _, _, _, _, _, _, _, _, _, _, _, _, _, _, _, _, _, rfl, _⟩ := h; rfl)
      | (obtain ⟨_, _, _, _, _, _, _, _, _, _, _, _, _, _, _, _, _, _, _, rfl, _⟩ := h; rfl)
      | (obtain ⟨_, _, _, _, _, _, _, _, _, _, _, _, _, _, _, _, _, _, _, _, rfl, _⟩ := h; rfl)
      | (obtain ⟨_, _, _, _, _, _, _, _, _, _, _, _, _, _, _, _, _, _, _, _, _, rfl, _⟩ := h; rfl)
      | (obtain ⟨_, _, _, _, _, _, _, _, _, _, _, _, _, _, _, _, _, _, _, _, _, _, rfl, _⟩ := h; rfl)
      | (obtain ⟨_, _, _, _, _, _, _, _, _, _, _, _, _, _, _, _, _, _, _, _, _, _, _, rfl, _⟩ := h; rfl)
      | (obtain ⟨_, _, _, _, _, _, _, _, _, _, _, _, _, _, _, _, _, _, _, _, _, _, _, _, rfl, _⟩ := h; rfl)
      | (obtain ⟨_, _, _, _, _, _, _, _, _, _, _, _, _, _, _, _, _, _, _, _, _, _, _, _, _, rfl, _⟩ := h; rfl)
      | (obtain ⟨_, _, _, _, _, _, _, _, _, _, _, _, _, _, _, _, _, _, _, _, _, _, _, _, _, _, rfl, _⟩ := h; rfl)
      | (obtain ⟨_, _, _, _, _, _, _, _, _, _, _, _, _, _, _, _, _, _, _, _, _, _, _, _, _, _, _, rfl, _⟩ := h; rfl)
  have hu := hu_of hr
  have hu64 := hr.units
  have hu65 := hr.u65
  have nd := sc_Book_kept.nd
  exact ⟨t_Book_kept K A, (pss_one (ps_ret (e_listVals rfl (e_fld (uv 0) rfl) (by rfl) M.m_list (by decide +kernel)))), rd_Book_kept T h⟩
abbrev s_Book_take : Stmt := inClass (top 22) 2
theorem sc_Book_take : FnScope N_Book_take ["self", "one", "other", "rise"] (defScope s_Book_take) := ⟨rfl, rfl, rfl, by decide +kernel, rfl, by decide +kernel, by decide +kernel⟩
theorem ok_Book_take {A : Ad} {f : Addr} {fd : FuncData} (F : Fun K "take" "Book.take" s_Book_take f fd) (hm : Meth K A.Book "take" f) (hb : Binds K fd ["self", "one", "other", "rise"] []) (M : Mg mg) (G : Gx mg K A) (T : Tx K A) (c_is_sighting : Cal P w K mg base CX0 2 "is_sighting" ["thing"] (sp_is_sighting K)) (c_way_along : Cal P w K mg base CX0 3 "way_along" ["rows", "one", "other"] (sp_way_along K)) (c_Book_kept : CalM P w K mg base CX0 1 A.Book "kept" ["self"] (sp_Book_kept K A)) (c_total : Cal P w K mg base CX0 1 "total" ["steps"] (sp_total K)) (c_Against___init__ : CalE P w K mg base 1 A.Against "Against" ["self", "trail"] (sp_Against___init__ K A)) :
    CalM P w K mg base (L2.CX P w) 4 A.Book "take" ["self", "one", "other", "rise"] (sp_Book_take K A) := by
  refine ⟨f, fd, F.okX sc_Book_take (fun vs H Q E h => ?_) (fun cdv A' outer s H vs Q E hr h => ?_), hm, hb⟩
  · unfold sp_Book_take at h
    first
      | (obtain ⟨rfl, _⟩ := h; rfl)
      | (obtain ⟨_, rfl, _⟩ := h; rfl)
      | (obtain ⟨_, _, rfl, _⟩ := h; rfl)
      | (obtain ⟨_, _, _, rfl, _⟩ := h; rfl)
      | (obtain ⟨_, _, _, _, rfl, _⟩ := h; rfl)
      | (obtain ⟨_, _, _, _, _, rfl, _⟩ := h; rfl)
      | (obtain ⟨_, _, _, _, _, _, rfl, _⟩ := h; rfl)
      | (obtain ⟨_, _, _, _, _, _, _, rfl, _⟩ := h; rfl)
      | (obtain ⟨_, _, _, _, _, _, _, _, rfl, _⟩ := h; rfl)
      | (obtain ⟨_, _, _, _, _, _, _, _, _, rfl, _⟩ := h; rfl)
      | (obtain ⟨_, _, _, _, _, _, _, _, _, _, rfl, _⟩ := h; rfl)
      | (obtain ⟨_, _, _, _, _, _, _, _, _, _, _, rfl, _⟩ := h; rfl)
      | (obtain ⟨_, _, _, _, _, _, _, _, _, _, _, _, rfl, _⟩ := h; rfl)
      | (obtain ⟨_, _, _, _, _, _, _, _, _, _, _, _, _, rfl, _⟩ := h; rfl)
      | (obtain ⟨_, _, _, _, _, _, _, _, _, _, _, _, _, _, rfl, _⟩ := h; rfl)
      | (obtain ⟨_, _, _, _, _, _, _, _, _, _, _, _, _, _, _, rfl, _⟩ := h; rfl)
      | (obtain ⟨_, _, _, _, _, _, _, _, _, _, _, _, _, _, _, _, rfl, _⟩ := h; rfl)
      | (obtain ⟨_, _, _, _, _, _, _, _, _, _, _, _, _, _, _, _, _, rfl, _⟩ := h; rfl)
      | (obtain ⟨_, _, _, _, _, _, _, _, _, _, _, _, _, _, _, _, _, _, rfl, _⟩ := h; rfl)
      | (obtain ⟨_, _, _, _, _, _, _, _, _, _, _, _, _, _, _, _, _, _, _, rfl, _⟩ := h; rfl)
      | (obtain ⟨_, _, _, _, _, _, _, _, _, _, _, _, _, _, _, _, _, _, _, _, rfl, _⟩ := h; rfl)
      | (obtain ⟨_, _, _, _, _, _, _, _, _, _, _, _, _, _, _, _, _, _, _, _, _, rfl, _⟩ := h; rfl)
      | (obtain ⟨_, _, _, _, _, _, _, _, _, _, _, _, _, _, _, _, _, _, _, _, _, _, rfl, _⟩ := h; rfl)
      | (obtain ⟨_, _, _, _, _, _, _, _, _, _, _, _, _, _, _, _, _, _, _, _, _, _, _, rfl, _⟩ := h; rfl)
      | (obtain ⟨_, _, _, _, _, _, _, _, _, _, _, _, _, _, _, _, _, _, _, _, _, _, _, _, rfl, _⟩ := h; rfl)
      | (obtain ⟨_, _, _, _, _, _, _, _, _, _, _, _, _, _, _, _, _, _, _, _, _, _, _, _, _, rfl, _⟩ := h; rfl)
      | (obtain ⟨_, _, _, _, _, _, _, _, _, _, _, _, _, _, _, _, _, _, _, _, _, _, _, _, _, _, rfl, _⟩ := h; rfl)
      | (obtain ⟨_, _, _, _, _, _, _, _, _, _, _, _, _, _, _, _, _, _, _, _, _, _, _, _, _, _, _, rfl, _⟩ := h; rfl)
  have hu := hu_of hr
  have hu64 := hr.units
  have hu65 := hr.u65
  have nd := sc_Book_take.nd
  exact ⟨t_Book_take K A E, (pss_cons (s_if (t_not (t_val (c_is_sighting.pe (hr.mono (by decide)) pass0 (pa_cons (e_tup (pa_cons (uv 1) (pa_cons (uv 2) (pa_cons (uv 3) pa_nil)))) pa_nil))))
  (pss_one (ps_raise rfl (takes_of rfl rfl rfl rfl) (pmk_own PySem.F.excBase_ValueError G.x_NoSighting G.g_NoSighting G.k_NoSighting (raises_own G.b_NoSighting G.t_NoSighting) (by exact rfl))))
  pss_nil)
  (pss_cons (s_if (t_cmp (c_op o_ge (pe_callB l_dict (by rfl) M.m_len (by decide +kernel) (pa_cons (e_fld (uv 0) rfl) pa_nil)) (e_fld (uv 0) rfl)))
  (pss_one (ps_raise rfl (takes_of rfl rfl rfl rfl) (pmk_own PySem.F.excBase_ValueError G.x_Full G.g_Full G.k_Full (raises_own G.b_Full G.t_Full) (by exact rfl))))
  pss_nil)
  (pss_cons (ps_set (i := 4) nd rfl (by first | exact Or.inl rfl | exact Or.inr rfl) (c_way_along.pe (hr.mono (by decide)) pass0 (pa_cons (c_Book_kept.pe0 T.cl (hr.mono (by decide)) pass0 (uv 0)) (pa_cons (uv 1) (pa_cons (uv 2) pa_nil)))))
  (pss_cons (s_if (PW.pt (w_and (t_cmp (c_op o_notN (uv 4) pe_non)) (pw_and1 (t_cmp (c_op (op_neD hu64) (c_total.pe (hr.mono (by decide)) pass0 (pa_cons (uv 4) pa_nil)) (uv 3))))))
  (pss_one (ps_raise rfl (takes_of rfl rfl rfl rfl) (c_Against___init__.pmk (hr.mono (by decide)) (pa_cons (uv 4) pa_nil))))
  pss_nil)
  (pss_cons (s_fld (uv 0) (pe_op o_add (e_fld (uv 0) rfl) pe_int) rfl)
  (pss_cons (s_dput hu (e_fld (uv 0) rfl) (e_fld (uv 0) rfl) (e_tup (pa_cons (e_fld (uv 0) rfl) (pa_cons (uv 1) (pa_cons (uv 2) (pa_cons (uv 3) pa_nil))))) rfl)
  (pss_one (ps_ret (e_fld (uv 0) rfl))))))))), rd_Book_take T h⟩
abbrev s_Book_row_by : Stmt := inClass (top 22) 3
theorem sc_Book_row_by : FnScope N_Book_row_by ["self", "number"] (defScope s_Book_row_by) := ⟨rfl, rfl, rfl, by decide +kernel, rfl, by decide +kernel, by decide +kernel⟩
theorem ok_Book_row_by {A : Ad} {f : Addr} {fd : FuncData} (F : Fun K "row_by" "Book.row_by" s_Book_row_by f fd) (hm : Meth K A.Book "row_by" f) (hb : Binds K fd ["self", "number"] []) (M : Mg mg) (G : Gx mg K A) (T : Tx K A) (c_is_whole : Cal P w K mg base CX0 1 "is_whole" ["thing"] (sp_is_whole K)) :
    CalM P w K mg base (L2.CX P w) 2 A.Book "row_by" ["self", "number"] (sp_Book_row_by K A) := by
  refine ⟨f, fd, F.okX sc_Book_row_by (fun vs H Q E h => ?_) (fun cdv A' outer s H vs Q E hr h => ?_), hm, hb⟩
  · unfold sp_Book_row_by at h
    first
      | (obtain ⟨rfl, _⟩ := h; rfl)
      | (obtain ⟨_, rfl, _⟩ := h; rfl)
      | (obtain ⟨_, _, rfl, _⟩ := h; rfl)
      | (obtain ⟨_, _, _, rfl, _⟩ := h; rfl)
      | (obtain ⟨_, _, _, _, rfl, _⟩ := h; rfl)
      | (obtain ⟨_, _, _, _, _, rfl, _⟩ := h; rfl)
      | (obtain ⟨_, _, _, _, _, _, rfl, _⟩ := h; rfl)
      | (obtain ⟨_, _, _, _, _, _, _, rfl, _⟩ := h; rfl)
      | (obtain ⟨_, _, _, _, _, _, _, _, rfl, _⟩ := h; rfl)
      | (obtain ⟨_, _, _, _, _, _, _, _, _, rfl, _⟩ := h; rfl)
      | (obtain ⟨_, _, _, _, _, _, _, _, _, _, rfl, _⟩ := h; rfl)
      | (obtain ⟨_, _, _, _, _, _, _, _, _, _, _, rfl, _⟩ := h; rfl)
      | (obtain ⟨_, _, _, _, _, _, _, _, _, _, _, _, rfl, _⟩ := h; rfl)
      | (obtain ⟨_, _, _, _, _, _, _, _, _, _, _, _, _, rfl, _⟩ := h; rfl)
      | (obtain ⟨_, _, _, _, _, _, _, _, _, _, _, _, _, _, rfl, _⟩ := h; rfl)
      | (obtain ⟨_, _, _, _, _, _, _, _, _, _, _, _, _, _, _, rfl, _⟩ := h; rfl)
      | (obtain ⟨_, _, _, _, _, _, _, _, _, _, _, _, _, _, _, _, rfl, _⟩ := h; rfl)
      | (obtain ⟨_, _, _, _, _, _, _, _, _, _, _, _, _, _, _, _, _, rfl, _⟩ := h; rfl)
      | (obtain ⟨_, _, _, _, _, _, _, _, _, _, _, _, _, _, _, _, _, _, rfl, _⟩ := h; rfl)
      | (obtain ⟨_, _, _, _, _, _, _, _, _, _, _, _, _, _, _, _, _, _, _, rfl, _⟩ := h; rfl)
      | (obtain ⟨_, _, _, _, _, _, _, _, _, _, _, _, _, _, _, _, _, _, _, _, rfl, _⟩ := h; rfl)
      | (obtain ⟨_, _, _, _, _, _, _, _, _, _, _, _, _, _, _, _, _, _, _, _, _, rfl, _⟩ := h; rfl)
      | (obtain ⟨_, _, _, _, _, _, _, _, _, _, _, _, _, _, _, _, _, _, _, _, _, _, rfl, _⟩ := h; rfl)
      | (obtain ⟨_, _, _, _, _, _, _, _, _, _, _, _, _, _, _, _, _, _, _, _, _, _, _, rfl, _⟩ := h; rfl)
      | (obtain ⟨_, _, _, _, _, _, _, _, _, _, _, _, _, _, _, _, _, _, _, _, _, _, _, _, rfl, _⟩ := h; rfl)
      | (obtain ⟨_, _, _, _, _, _, _, _, _, _, _, _, _, _, _, _, _, _, _, _, _, _, _, _, _, rfl, _⟩ := h; rfl)
      | (obtain ⟨_, _, _, _, _, _, _, _, _, _, _, _, _, _, _, _, _, _, _, _, _, _, _, _, _, _, rfl, _⟩ := h; rfl)
      | (obtain ⟨_, _, _, _, _, _, _, _, _, _, _, _, _, _, _, _, _, _, _, _, _, _, _, _, _, _, _, rfl, _⟩ := h; rfl)
  have hu := hu_of hr
  have hu64 := hr.units
  have hu65 := hr.u65
  have nd := sc_Book_row_by.nd
  exact ⟨t_Book_row_by K A E, (pss_cons (s_if (PW.pt (w_or (t_not (t_val (c_is_whole.pe (hr.mono (by decide)) pass0 (pa_cons (uv 1) pa_nil)))) (pw_or1 (t_cmp (c_dnotin hu (uv 1) (e_fld (uv 0) rfl))))))
  (pss_one (ps_raise rfl (takes_of rfl rfl rfl rfl) (pmk_own PySem.F.excBase_ValueError G.x_NoNumber G.g_NoNumber G.k_NoNumber (raises_own G.b_NoNumber G.t_NoNumber) (by exact rfl))))
  pss_nil)
  (pss_one (ps_ret (u_dget hu (e_fld (uv 0) rfl) (uv 1))))), rd_Book_row_by T h⟩
abbrev s_Book_drop : Stmt := inClass (top 22) 4
theorem sc_Book_drop : FnScope N_Book_drop ["self", "number"] (defScope s_Book_drop) := ⟨rfl, rfl, rfl, by decide +kernel, rfl, by decide +kernel, by decide +kernel⟩
theorem ok_Book_drop {A : Ad} {f : Addr} {fd : FuncData} (F : Fun K "drop" "Book.drop" s_Book_drop f fd) (hm : Meth K A.Book "drop" f) (hb : Binds K fd ["self", "number"] []) (M : Mg mg) (G : Gx mg K A) (T : Tx K A) (c_Book_row_by : CalM P w K mg base (L2.CX P w) 2 A.Book "row_by" ["self", "number"] (sp_Book_row_by K A)) :
    CalM P w K mg base (L2.CX P w) 3 A.Book "drop" ["self", "number"] (sp_Book_drop K A) := by
  refine ⟨f, fd, F.okX sc_Book_drop (fun vs H Q E h => ?_) (fun cdv A' outer s H vs Q E hr h => ?_), hm, hb⟩
  · unfold sp_Book_drop at h
    first
      | (obtain ⟨rfl, _⟩ := h; rfl)
      | (obtain ⟨_, rfl, _⟩ := h; rfl)
      | (obtain ⟨_, _, rfl, _⟩ := h; rfl)
      | (obtain ⟨_, _, _, rfl, _⟩ := h; rfl)
      | (obtain ⟨_, _, _, _, rfl, _⟩ := h; rfl)
      | (obtain ⟨_, _, _, _, _, rfl, _⟩ := h; rfl)
      | (obtain ⟨_, _, _, _, _, _, rfl, _⟩ := h; rfl)
      | (obtain ⟨_, _, _, _, _, _, _, rfl, _⟩ := h; rfl)
      | (obtain ⟨_, _, _, _, _, _, _, _, rfl, _⟩ := h; rfl)
      | (obtain ⟨_, _, _, _, _, _, _, _, _, rfl, _⟩ := h; rfl)
      | (obtain ⟨_, _, _, _, _, _, _, _, _, _, rfl, _⟩ := h; rfl)
      | (obtain ⟨_, _, _, _, _, _, _, _, _, _, _, rfl, _⟩ := h; rfl)
      | (obtain ⟨_, _, _, _, _, _, _, _, _, _, _, _, rfl, _⟩ := h; rfl)
      | (obtain ⟨_, _, _, _, _, _, _, _, _, _, _, _, _, rfl, _⟩ := h; rfl)
      | (obtain ⟨_, _, _, _, _, _, _, _, _, _, _, _, _, _, rfl, _⟩ := h; rfl)
      | (obtain ⟨_, _, _, _, _, _, _, _, _, _, _, _, _, _, _, rfl, _⟩ := h; rfl)
      | (obtain ⟨_, _, _, _, _, _, _, _, _, _, _, _, _, _, _, _, rfl, _⟩ := h; rfl)
      | (obtain ⟨_, _, _, _, _, _, _, _, _, _, _, _, _, _, _, _, _, rfl, _⟩ := h; rfl)
      | (obtain ⟨_, _, _, _, _, _, _, _, _, _, _, _, _, _, _, _, _, _, rfl, _⟩ := h; rfl)
      | (obtain ⟨_, _, _, _, _, _, _, _, _, _, _, _, _, _, _, _, _, _, _, rfl, _⟩ := h; rfl)
      | (obtain ⟨_, _, _, _, _, _, _, _, _, _, _, _, _, _, _, _, _, _, _, _, rfl, _⟩ := h; rfl)
      | (obtain ⟨_, _, _, _, _, _, _, _, _, _, _, _, _, _, _, _, _, _, _, _, _, rfl, _⟩ := h; rfl)
      | (obtain ⟨_, _, _, _, _, _, _, _, _, _, _, _, _, _, _, _, _, _, _, _, _, _, rfl, _⟩ := h; rfl)
      | (obtain ⟨_, _, _, _, _, _, _, _, _, _, _, _, _, _, _, _, _, _, _, _, _, _, _, rfl, _⟩ := h; rfl)
      | (obtain ⟨_, _, _, _, _, _, _, _, _, _, _, _, _, _, _, _, _, _, _, _, _, _, _, _, rfl, _⟩ := h; rfl)
      | (obtain ⟨_, _, _, _, _, _, _, _, _, _, _, _, _, _, _, _, _, _, _, _, _, _, _, _, _, rfl, _⟩ := h; rfl)
      | (obtain ⟨_, _, _, _, _, _, _, _, _, _, _, _, _, _, _, _, _, _, _, _, _, _, _, _, _, _, rfl, _⟩ := h; rfl)
      | (obtain ⟨_, _, _, _, _, _, _, _, _, _, _, _, _, _, _, _, _, _, _, _, _, _, _, _, _, _, _, rfl, _⟩ := h; rfl)
  have hu := hu_of hr
  have hu64 := hr.units
  have hu65 := hr.u65
  have nd := sc_Book_drop.nd
  exact ⟨t_Book_drop K A E, (pss_cons (ps_set (i := 2) nd rfl (by first | exact Or.inl rfl | exact Or.inr rfl) (c_Book_row_by.pe T.cl (hr.mono (by decide)) (passes_call (takes_of rfl rfl rfl rfl) (fun _ _ _ _ h => h)) (uv 0) (pa_cons (uv 1) pa_nil)))
  (pss_cons (ps_expr (e_dpop1 (e_fld (uv 0) rfl) (uv 1) ⟨rfl, rfl, rfl, rfl⟩))
  (pss_one (ps_ret (e_tup (pa_cons (pe_ix x_tup (uv 2) pe_int plainIx) (pa_cons (pe_ix x_tup (uv 2) pe_int plainIx) (pa_cons (pe_ix x_tup (uv 2) pe_int plainIx) pa_nil)))))))), rd_Book_drop T h⟩
abbrev s_Book_way : Stmt := inClass (top 22) 5
theorem sc_Book_way : FnScope N_Book_way ["self", "one", "other"] (defScope s_Book_way) := ⟨rfl, rfl, rfl, by decide +kernel, rfl, by decide +kernel, by decide +kernel⟩
theorem ok_Book_way {A : Ad} {f : Addr} {fd : FuncData} (F : Fun K "way" "Book.way" s_Book_way f fd) (hm : Meth K A.Book "way" f) (hb : Binds K fd ["self", "one", "other"] []) (M : Mg mg) (G : Gx mg K A) (T : Tx K A) (c_is_peg : Cal P w K mg base CX0 1 "is_peg" ["thing"] (sp_is_peg K)) (c_Book_kept : CalM P w K mg base CX0 1 A.Book "kept" ["self"] (sp_Book_kept K A)) (c_way_along : Cal P w K mg base CX0 3 "way_along" ["rows", "one", "other"] (sp_way_along K)) (c_part_of : Cal P w K mg base CX0 3 "part_of" ["rows", "one"] (sp_part_of K)) (c_NoWay___init__ : CalE P w K mg base 1 A.NoWay "NoWay" ["self", "near"] (sp_NoWay___init__ K A)) :
    CalM P w K mg base (L2.CX P w) 4 A.Book "way" ["self", "one", "other"] (sp_Book_way K A) := by
  refine ⟨f, fd, F.okX sc_Book_way (fun vs H Q E h => ?_) (fun cdv A' outer s H vs Q E hr h => ?_), hm, hb⟩
  · unfold sp_Book_way at h
    first
      | (obtain ⟨rfl, _⟩ := h; rfl)
      | (obtain ⟨_, rfl, _⟩ := h; rfl)
      | (obtain ⟨_, _, rfl, _⟩ := h; rfl)
      | (obtain ⟨_, _, _, rfl, _⟩ := h; rfl)
      | (obtain ⟨_, _, _, _, rfl, _⟩ := h; rfl)
      | (obtain ⟨_, _, _, _, _, rfl, _⟩ := h; rfl)
      | (obtain ⟨_, _, _, _, _, _, rfl, _⟩ := h; rfl)
      | (obtain ⟨_, _, _, _, _, _, _, rfl, _⟩ := h; rfl)
      | (obtain ⟨_, _, _, _, _, _, _, _, rfl, _⟩ := h; rfl)
      | (obtain ⟨_, _, _, _, _, _, _, _, _, rfl, _⟩ := h; rfl)
      | (obtain ⟨_, _, _, _, _, _, _, _, _, _, rfl, _⟩ := h; rfl)
      | (obtain ⟨_, _, _, _, _, _, _, _, _, _, _, rfl, _⟩ := h; rfl)
      | (obtain ⟨_, _, _, _, _, _, _, _, _, _, _, _, rfl, _⟩ := h; rfl)
      | (obtain ⟨_, _, _, _, _, _, _, _, _, _, _, _, _, rfl, _⟩ := h; rfl)
      | (obtain ⟨_, _, _, _, _, _, _, _, _, _, _, _, _, _, rfl, _⟩ := h; rfl)
      | (obtain ⟨_, _, _, _, _, _, _, _, _, _, _, _, _, _, _, rfl, _⟩ := h; rfl)
      | (obtain ⟨_, _, _, _, _, _, _, _, _, _, _, _, _, _, _, _, rfl, _⟩ := h; rfl)
      | (obtain ⟨_, _, _, _, _, _, _, _, _, _, _, _, _, _, _, _, _, rfl, _⟩ := h; rfl)
      | (obtain ⟨_, _, _, _, _, _, _, _, _, _, _, _, _, _, _, _, _, _, rfl, _⟩ := h; rfl)
      | (obtain ⟨_, _, _, _, _, _, _, _, _, _, _, _, _, _, _, _, _, _, _, rfl, _⟩ := h; rfl)
      | (obtain ⟨_, _, _, _, _, _, _, _, _, _, _, _, _, _, _, _, _, _, _, _, rfl, _⟩ := h; rfl)
      | (obtain ⟨_, _, _, _, _, _, _, _, _, _, _, _, _, _, _, _, _, _, _, _, _, rfl, _⟩ := h; rfl)
      | (obtain ⟨_, _, _, _, _, _, _, _, _, _, _, _, _, _, _, _, _, _, _, _, _, _, rfl, _⟩ := h; rfl)
      | (obtain ⟨_, _, _, _, _, _, _, _, _, _, _, _, _, _, _, _, _, _, _, _, _, _, _, rfl, _⟩ := h; rfl)
      | (obtain ⟨_, _, _, _, _, _, _, _, _, _, _, _, _, _, _, _, _, _, _, _, _, _, _, _, rfl, _⟩ := h; rfl)
      | (obtain ⟨_, _, _, _, _, _, _, _, _, _, _, _, _, _, _, _, _, _, _, _, _, _, _, _, _, rfl, _⟩ := h; rfl)
      | (obtain ⟨_, _, _, _, _, _, _, _, _, _, _, _, _, _, _, _, _, _, _, _, _, _, _, _, _, _, rfl, _⟩ := h; rfl)
      | (obtain ⟨_, _, _, _, _, _, _, _, _, _, _, _, _, _, _, _, _, _, _, _, _, _, _, _, _, _, _, rfl, _⟩ := h; rfl)
  have hu := hu_of hr
  have hu64 := hr.units
  have hu65 := hr.u65
  have nd := sc_Book_way.nd
  exact ⟨t_Book_way K A E, (pss_cons (s_if (PW.pt (w_or (t_not (t_val (c_is_peg.pe (hr.mono (by decide)) pass0 (pa_cons (uv 1) pa_nil)))) (pw_or1 (t_not (t_val (c_is_peg.pe (hr.mono (by decide)) pass0 (pa_cons (uv 2) pa_nil)))))))
  (pss_one (ps_raise rfl (takes_of rfl rfl rfl rfl) (pmk_own PySem.F.excBase_ValueError G.x_NoSighting G.g_NoSighting G.k_NoSighting (raises_own G.b_NoSighting G.t_NoSighting) (by exact rfl))))
  pss_nil)
  (pss_cons (ps_set (i := 3) nd rfl (by first | exact Or.inl rfl | exact Or.inr rfl) (c_Book_kept.pe0 T.cl (hr.mono (by decide)) pass0 (uv 0)))
  (pss_cons (ps_set (i := 4) nd rfl (by first | exact Or.inl rfl | exact Or.inr rfl) (c_way_along.pe (hr.mono (by decide)) pass0 (pa_cons (uv 3) (pa_cons (uv 1) (pa_cons (uv 2) pa_nil)))))
  (pss_cons (s_if (t_cmp (c_op o_isN (uv 4) pe_non))
  (pss_one (ps_raise rfl (takes_of rfl rfl rfl rfl) (c_NoWay___init__.pmk (hr.mono (by decide)) (pa_cons (c_part_of.pe (hr.mono (by decide)) pass0 (pa_cons (uv 3) (pa_cons (uv 1) pa_nil))) pa_nil))))
  pss_nil)
  (pss_one (ps_ret (uv 4))))))), rd_Book_way T h⟩
abbrev s_Book_rise : Stmt := inClass (top 22) 6
theorem sc_Book_rise : FnScope N_Book_rise ["self", "one", "other"] (defScope s_Book_rise) := ⟨rfl, rfl, rfl, by decide +kernel, rfl, by decide +kernel, by decide +kernel⟩
theorem ok_Book_rise {A : Ad} {f : Addr} {fd : FuncData} (F : Fun K "rise" "Book.rise" s_Book_rise f fd) (hm : Meth K A.Book "rise" f) (hb : Binds K fd ["self", "one", "other"] []) (M : Mg mg) (G : Gx mg K A) (T : Tx K A) (c_total : Cal P w K mg base CX0 1 "total" ["steps"] (sp_total K)) (c_Book_way : CalM P w K mg base (L2.CX P w) 4 A.Book "way" ["self", "one", "other"] (sp_Book_way K A)) :
    CalM P w K mg base (L2.CX P w) 5 A.Book "rise" ["self", "one", "other"] (sp_Book_rise K A) := by
  refine ⟨f, fd, F.okX sc_Book_rise (fun vs H Q E h => ?_) (fun cdv A' outer s H vs Q E hr h => ?_), hm, hb⟩
  · unfold sp_Book_rise at h
    first
      | (obtain ⟨rfl, _⟩ := h; rfl)
      | (obtain ⟨_, rfl, _⟩ := h; rfl)
      | (obtain ⟨_, _, rfl, _⟩ := h; rfl)
      | (obtain ⟨_, _, _, rfl, _⟩ := h; rfl)
      | (obtain ⟨_, _, _, _, rfl, _⟩ := h; rfl)
      | (obtain ⟨_, _, _, _, _, rfl, _⟩ := h; rfl)
      | (obtain ⟨_, _, _, _, _, _, rfl, _⟩ := h; rfl)
      | (obtain ⟨_, _, _, _, _, _, _, rfl, _⟩ := h; rfl)
      | (obtain ⟨_, _, _, _, _, _, _, _, rfl, _⟩ := h; rfl)
      | (obtain ⟨_, _, _, _, _, _, _, _, _, rfl, _⟩ := h; rfl)
      | (obtain ⟨_, _, _, _, _, _, _, _, _, _, rfl, _⟩ := h; rfl)
      | (obtain ⟨_, _, _, _, _, _, _, _, _, _, _, rfl, _⟩ := h; rfl)
      | (obtain ⟨_, _, _, _, _, _, _, _, _, _, _, _, rfl, _⟩ := h; rfl)
      | (obtain ⟨_, _, _, _, _, _, _, _, _, _, _, _, _, rfl, _⟩ := h; rfl)
      | (obtain ⟨_, _, _, _, _, _, _, _, _, _, _, _, _, _, rfl, _⟩ := h; rfl)
      | (obtain ⟨_, _, _, _, _, _, _, _, _, _, _, _, _, _, _, rfl, _⟩ := h; rfl)
      | (obtain ⟨_, _, _, _, _, _, _, _, _, _, _, _, _, _, _, _, rfl, _⟩ := h; rfl)
      | (obtain ⟨_, _, _, _, _, _, _, _, _, _, _, _, _, _, _, _, _, rfl, _⟩ := h; rfl)
      | (obtain ⟨_, _, _, _, _, _, _, _, _, _, _, _, _, _, _, _, _, _, rfl, _⟩ := h; rfl)
      | (obtain ⟨_, _, _, _, _, _, _, _, _, _, _, _, _, _, _, _, _, _, _, rfl, _⟩ := h; rfl)
      | (obtain ⟨_, _, _, _, _, _, _, _, _, _, _, _, _, _, _, _, _, _, _, _, rfl, _⟩ := h; rfl)
      | (obtain ⟨_, _, _, _, _, _, _, _, _, _, _, _, _, _, _, _, _, _, _, _, _, rfl, _⟩ := h; rfl)
      | (obtain ⟨_, _, _, _, _, _, _, _, _, _, _, _, _, _, _, _, _, _, _, _, _, _, rfl, _⟩ := h; rfl)
      | (obtain ⟨_, _, _, _, _, _, _, _, _, _, _, _, _, _, _, _, _, _, _, _, _, _, _, rfl, _⟩ := h; rfl)
      | (obtain ⟨_, _, _, _, _, _, _, _, _, _, _, _, _, _, _, _, _, _, _, _, _, _, _, _, rfl, _⟩ := h; rfl)
      | (obtain ⟨_, _, _, _, _, _, _, _, _, _, _, _, _, _, _, _, _, _, _, _, _, _, _, _, _, rfl, _⟩ := h; rfl)
      | (obtain ⟨_, _, _, _, _, _, _, _, _, _, _, _, _, _, _, _, _, _, _, _, _, _, _, _, _, _, rfl, _⟩ := h; rfl)
      | (obtain ⟨_, _, _, _, _, _, _, _, _, _, _, _, _, _, _, _, _, _, _, _, _, _, _, _, _, _, _, rfl, _⟩ := h; rfl)
  have hu := hu_of hr
  have hu64 := hr.units
  have hu65 := hr.u65
  have nd := sc_Book_rise.nd
  exact ⟨t_Book_rise K A E, (pss_one (ps_ret (c_total.pe (hr.mono (by decide)) pass0 (pa_cons (c_Book_way.pe T.cl (hr.mono (by decide)) (passes_call (takes_of rfl rfl rfl rfl) (fun _ _ _ _ h => h)) (uv 0) (pa_cons (uv 1) (pa_cons (uv 2) pa_nil))) pa_nil)))), rd_Book_rise T h⟩
abbrev s_Book_parts : Stmt := inClass (top 22) 7
theorem sc_Book_parts : FnScope N_Book_parts ["self"] (defScope s_Book_parts) := ⟨rfl, rfl, rfl, by decide +kernel, rfl, by decide +kernel, by decide +kernel⟩
theorem ok_Book_parts {A : Ad} {f : Addr} {fd : FuncData} (F : Fun K "parts" "Book.parts" s_Book_parts f fd) (hm : Meth K A.Book "parts" f) (hb : Binds K fd ["self"] []) (M : Mg mg) (G : Gx mg K A) (T : Tx K A) (c_leaving : Cal P w K mg base CX0 2 "leaving" ["rows"] (sp_leaving K)) (c_Book_kept : CalM P w K mg base CX0 1 A.Book "kept" ["self"] (sp_Book_kept K A)) (c_reached : Cal P w K mg base CX0 1 "reached" ["links", "one"] (sp_reached K)) :
    CalM P w K mg base CX0 3 A.Book "parts" ["self"] (sp_Book_parts K A) := by
  refine ⟨f, fd, F.ok sc_Book_parts (fun vs H Q E h => ?_) (fun cdv A' outer s H vs Q E hr h => ?_), hm, hb⟩
  · unfold sp_Book_parts at h
    first
      | (obtain ⟨rfl, _⟩ := h; rfl)
      | (obtain ⟨_, rfl, _⟩ := h; rfl)
      | (obtain ⟨_, _, rfl, _⟩ := h; rfl)
      | (obtain ⟨_, _, _, rfl, _⟩ := h; rfl)
      | (obtain ⟨_, _, _, _, rfl, _⟩ := h; rfl)
      | (obtain ⟨_, _, _, _, _, rfl, _⟩ := h; rfl)
      | (obtain ⟨_, _, _, _, _, _, rfl, _⟩ := h; rfl)
      | (obtain ⟨_, _, _, _, _, _, _, rfl, _⟩ := h; rfl)
      | (obtain ⟨_, _, _, _, _, _, _, _, rfl, _⟩ := h; rfl)
      | (obtain ⟨_, _, _, _, _, _, _, _, _, rfl, _⟩ := h; rfl)
      | (obtain ⟨_, _, _, _, _, _, _, _, _, _, rfl, _⟩ := h; rfl)
      | (obtain ⟨_, _, _, _, _, _, _, _, _, _, _, rfl, _⟩ := h; rfl)
      | (obtain ⟨_, _, _, _, _, _, _, _, _, _, _, _, rfl, _⟩ := h; rfl)
      | (obtain ⟨_, _, _, _, _, _, _, _, _, _, _, _, _, rfl, _⟩ := h; rfl)
      | (obtain ⟨_, _, _, _, _, _, _, _, _, _, _, _, _, _, rfl, _⟩ := h; rfl)
      | (obtain ⟨_, _, _, _, _, _, _, _, _, _, _, _, _, _, _, rfl, _⟩ := h; rfl)
      | (obtain ⟨_, _, _, _, _, _, _, _, _, _, _, _, _, _, _, _, rfl, _⟩ := h; rfl)
      | (obtain ⟨_, _, _, _, _, _, _, _, _, _, _, _, _, _, _, _, _, rfl, _⟩ := h; rfl)
      | (obtain ⟨_, _, _, _, _, _, _, _, _, _, _, _, _, _, _, _, _, _, rfl, _⟩ := h; rfl)
      | (obtain ⟨_, _, _, _, _, _, _, _, _, _, _, _, _, _, _, _, _, _, _, rfl, _⟩ := h; rfl)
      | (obtain ⟨_, _, _, _, _, _, _, _, _, _, _, _, _, _, _, _, _, _, _, _, rfl, _⟩ := h; rfl)
      | (obtain ⟨_, _, _, _, _, _, _, _, _, _, _, _, _, _, _, _, _, _, _, _, _, rfl, _⟩ := h; rfl)
      | (obtain ⟨_, _, _, _, _, _, _, _, _, _, _, _, _, _, _, _, _, _, _, _, _, _, rfl, _⟩ := h; rfl)
      | (obtain ⟨_, _, _, _, _, _, _, _, _, _, _, _, _, _, _, _, _, _, _, _, _, _, _, rfl, _⟩ := h; rfl)
      | (obtain ⟨_, _, _, _, _, _, _, _, _, _, _, _, _, _, _, _, _, _, _, _, _, _, _, _, rfl, _⟩ := h; rfl)
      | (obtain ⟨_, _, _, _, _, _, _, _, _, _, _, _, _, _, _, _, _, _, _, _, _, _, _, _, _, rfl, _⟩ := h; rfl)
      | (obtain ⟨_, _, _, _, _, _, _, _, _, _, _, _, _, _, _, _, _, _, _, _, _, _, _, _, _, _, rfl, _⟩ := h; rfl)
      | (obtain ⟨_, _, _, _, _, _, _, _, _, _, _, _, _, _, _, _, _, _, _, _, _, _, _, _, _, _, _, rfl, _⟩ := h; rfl)
  have hu := hu_of hr
  have hu64 := hr.units
  have hu65 := hr.u65
  have nd := sc_Book_parts.nd
  exact ⟨t_Book_parts K A, (pss_cons (ps_set (i := 1) nd rfl (by first | exact Or.inl rfl | exact Or.inr rfl) (c_leaving.pe (hr.mono (by decide)) pass0 (pa_cons (c_Book_kept.pe0 T.cl (hr.mono (by decide)) pass0 (uv 0)) pa_nil)))
  (pss_cons (ps_set (i := 2) nd rfl (by first | exact Or.inl rfl | exact Or.inr rfl) e_dnew)
  (pss_cons (ps_set (i := 3) nd rfl (by first | exact Or.inl rfl | exact Or.inr rfl) (e_lst pa_nil))
  (pss_cons (ps_for pnever rfl (pi_list (pe_callB (b_sortedD rfl) (by rfl) M.m_sorted (by decide +kernel) (pa_cons (uv 1) pa_nil))) (pg_name (i := 4) nd rfl (by first | exact Or.inl rfl | exact Or.inr rfl))
  (pss_one (s_if (t_cmp (c_dnotin hu (uv 4) (uv 2)))
  (pss_cons (ps_set (i := 5) nd rfl (by first | exact Or.inl rfl | exact Or.inr rfl) (pe_callB (b_sortedD rfl) (by rfl) M.m_sorted (by decide +kernel) (pa_cons (c_reached.pe (hr.mono (by decide)) pass0 (pa_cons (uv 1) (pa_cons (uv 4) pa_nil))) pa_nil)))
  (pss_cons (ps_for pnever rfl (pi_list (uv 5)) (pg_name (i := 6) nd rfl (by first | exact Or.inl rfl | exact Or.inr rfl))
  (pss_one (s_dput hu (uv 2) (uv 6) pe_bl rfl)))
  (pss_one (ps_expr (pe_bm PySem.F.plainAttrs_list PySem.F.slot_list_append PySem.F.type_list_append m_append (uv 3) (pa_cons (uv 5) pa_nil))))))
  pss_nil)))
  (pss_one (ps_ret (uv 3))))))), rd_Book_parts T h⟩
abbrev s_Book_heights : Stmt := inClass (top 22) 8
theorem sc_Book_heights : FnScope N_Book_heights ["self"] (defScope s_Book_heights) := ⟨rfl, rfl, rfl, by decide +kernel, rfl, by decide +kernel, by decide +kernel⟩
theorem ok_Book_heights {A : Ad} {f : Addr} {fd : FuncData} (F : Fun K "heights" "Book.heights" s_Book_heights f fd) (hm : Meth K A.Book "heights" f) (hb : Binds K fd ["self"] []) (M : Mg mg) (G : Gx mg K A) (T : Tx K A) (c_leaving : Cal P w K mg base CX0 2 "leaving" ["rows"] (sp_leaving K)) (c_Book_kept : CalM P w K mg base CX0 1 A.Book "kept" ["self"] (sp_Book_kept K A)) (c_reached : Cal P w K mg base CX0 1 "reached" ["links", "one"] (sp_reached K)) :
    CalM P w K mg base CX0 3 A.Book "heights" ["self"] (sp_Book_heights K A) := by
  refine ⟨f, fd, F.ok sc_Book_heights (fun vs H Q E h => ?_) (fun cdv A' outer s H vs Q E hr h => ?_), hm, hb⟩
  · unfold sp_Book_heights at h
    first
      | (obtain ⟨rfl, _⟩ := h; rfl)
      | (obtain ⟨_, rfl, _⟩ := h; rfl)
      | (obtain ⟨_, _, rfl, _⟩ := h; rfl)
      | (obtain ⟨_, _, _, rfl, _⟩ := h; rfl)
      | (obtain ⟨_, _, _, _, rfl, _⟩ := h; rfl)
      | (obtain ⟨_, _, _, _, _, rfl, _⟩ := h; rfl)
      | (obtain ⟨_, _, _, _, _, _, rfl, _⟩ := h; rfl)
      | (obtain ⟨_, _, _, _, _, _, _, rfl, _⟩ := h; rfl)
      | (obtain ⟨_, _, _, _, _, _, _, _, rfl, _⟩ := h; rfl)
      | (obtain ⟨_, _, _, _, _, _, _, _, _, rfl, _⟩ := h; rfl)
      | (obtain ⟨_, _, _, _, _, _, _, _, _, _, rfl, _⟩ := h; rfl)
      | (obtain ⟨_, _, _, _, _, _, _, _, _, _, _, rfl, _⟩ := h; rfl)
      | (obtain ⟨_, _, _, _, _, _, _, _, _, _, _, _, rfl, _⟩ := h; rfl)
      | (obtain ⟨_, _, _, _, _, _, _, _, _, _, _, _, _, rfl, _⟩ := h; rfl)
      | (obtain ⟨_, _, _, _, _, _, _, _, _, _, _, _, _, _, rfl, _⟩ := h; rfl)
      | (obtain ⟨_, _, _, _, _, _, _, _, _, _, _, _, _, _, _, rfl, _⟩ := h; rfl)
      | (obtain ⟨_, _, _, _, _, _, _, _, _, _, _, _, _, _, _, _, rfl, _⟩ := h; rfl)
      | (obtain ⟨_, _, _, _, _, _, _, _, _, _, _, _, _, _, _, _, _, rfl, _⟩ := h; rfl)
      | (obtain ⟨_, _, _, _, _, _, _, _, _, _, _, _, _, _, _, _, _, _, rfl, _⟩ := h; rfl)
      | (obtain ⟨_, _, _, _, _, _, _, _, _, _, _, _, _, _, _, _, _, _, _, rfl, _⟩ := h; rfl)
      | (obtain ⟨_, _, _, _, _, _, _, _, _, _, _, _, _, _, _, _, _, _, _, _, rfl, _⟩ := h; rfl)
      | (obtain ⟨_, _, _, _, _, _, _, _, _, _, _, _, _, _, _, _, _, _, _, _, _, rfl, _⟩ := h; rfl)
      | (obtain ⟨_, _, _, _, _, _, _, _, _, _, _, _, _, _, _, _, _, _, _, _, _, _, rfl, _⟩ := h; rfl)
      | (obtain ⟨_, _, _, _, _, _, _, _, _, _, _, _, _, _, _, _, _, _, _, _, _, _, _, rfl, _⟩ := h; rfl)
      | (obtain ⟨_, _, _, _, _, _, _, _, _, _, _, _, _, _, _, _, _, _, _, _, _, _, _, _, rfl, _⟩ := h; rfl)
      | (obtain ⟨_, _, _, _, _, _, _, _, _, _, _, _, _, _, _, _, _, _, _, _, _, _, _, _, _, rfl, _⟩ := h; rfl)
      | (obtain ⟨_, _, _, _, _, _, _, _, _, _, _, _, _, _, _, _, _, _, _, _, _, _, _, _, _, _, rfl, _⟩ := h; rfl)
      | (obtain ⟨_, _, _, _, _, _, _, _, _, _, _, _, _, _, _, _, _, _, _, _, _, _, _, _, _, _, _, rfl, _⟩ := h; rfl)
  have hu := hu_of hr
  have hu64 := hr.units
  have hu65 := hr.u65
  have nd := sc_Book_heights.nd
  exact ⟨t_Book_heights K A, (pss_cons (ps_set (i := 1) nd rfl (by first | exact Or.inl rfl | exact Or.inr rfl) (c_leaving.pe (hr.mono (by decide)) pass0 (pa_cons (c_Book_kept.pe0 T.cl (hr.mono (by decide)) pass0 (uv 0)) pa_nil)))
  (pss_cons (ps_set (i := 2) nd rfl (by first | exact Or.inl rfl | exact Or.inr rfl) e_dnew)
  (pss_cons (ps_for pnever rfl (pi_list (pe_callB (b_sortedD rfl) (by rfl) M.m_sorted (by decide +kernel) (pa_cons (uv 1) pa_nil))) (pg_name (i := 3) nd rfl (by first | exact Or.inl rfl | exact Or.inr rfl))
  (pss_one (s_if (t_cmp (c_dnotin hu (uv 3) (uv 2)))
  (pss_one (ps_for pnever rfl (pi_items (U.e_freeze (c_reached.pe (hr.mono (by decide)) pass0 (pa_cons (uv 1) (pa_cons (uv 3) pa_nil))))) (pg_tup rfl (pgs_cons (pg_name (i := 4) nd rfl (by first | exact Or.inl rfl | exact Or.inr rfl)) (pgs_cons (pg_name (i := 5) nd rfl (by first | exact Or.inl rfl | exact Or.inr rfl)) pgs_nil)))
  (pss_one (s_if (t_cmp (c_op o_isN (uv 5) pe_non))
  (pss_one (s_dput hu (uv 2) (uv 4) pe_int rfl))
  (pss_one (s_dput hu (uv 2) (uv 4) (pe_op o_add (u_dget hu (uv 2) (pe_ix x_tup (uv 5) pe_int plainIx)) (pe_ix x_tup (uv 5) pe_int plainIx)) rfl))))))
  pss_nil)))
  (pss_one (ps_ret (u_lc (own := [("peg", 3)]) (g := (gName 3)) (tt := tYes) rfl nd (pi_list (pe_callB (b_sortedD rfl) (by rfl) M.m_sorted (by decide +kernel) (pa_cons (uv 2) pa_nil))) (blkOk_by (N := N_Book_heights) (sc := defScope s_Book_heights) (own := [("peg", 3)]) (by decide +kernel)) (fun _ _ _ _ _ => (pg_name (i := 3) nd rfl (by first | exact Or.inl rfl | exact Or.inr rfl))) (fun _ _ _ _ _ => pts_nil) (fun _ _ _ _ _ => (e_tup (pa_cons (uv 3) (pa_cons (u_dget hu (uv 2) (uv 3)) pa_nil)))))))))), rd_Book_heights T h⟩
abbrev s_Book_spare : Stmt := inClass (top 22) 9
theorem sc_Book_spare : FnScope N_Book_spare ["self", "number"] (defScope s_Book_spare) := ⟨rfl, rfl, rfl, by decide +kernel, rfl, by decide +kernel, by decide +kernel⟩
theorem ok_Book_spare {A : Ad} {f : Addr} {fd : FuncData} (F : Fun K "spare" "Book.spare" s_Book_spare f fd) (hm : Meth K A.Book "spare" f) (hb : Binds K fd ["self", "number"] []) (M : Mg mg) (G : Gx mg K A) (T : Tx K A) (c_Book_row_by : CalM P w K mg base (L2.CX P w) 2 A.Book "row_by" ["self", "number"] (sp_Book_row_by K A)) (c_Book_kept : CalM P w K mg base CX0 1 A.Book "kept" ["self"] (sp_Book_kept K A)) (c_way_along : Cal P w K mg base CX0 3 "way_along" ["rows", "one", "other"] (sp_way_along K)) :
    CalM P w K mg base (L2.CX P w) 4 A.Book "spare" ["self", "number"] (sp_Book_spare K A) := by
  refine ⟨f, fd, F.okX sc_Book_spare (fun vs H Q E h => ?_) (fun cdv A' outer s H vs Q E hr h => ?_), hm, hb⟩
  · unfold sp_Book_spare at h
    first
      | (obtain ⟨rfl, _⟩ := h; rfl)
      | (obtain ⟨_, rfl, _⟩ := h; rfl)
      | (obtain ⟨_, _, rfl, _⟩ := h; rfl)
      | (obtain ⟨_, _, _, rfl, _⟩ := h; rfl)
      | (obtain ⟨_, _, _, _, rfl, _⟩ := h; rfl)
      | (obtain ⟨_, _, _, _, _, rfl, _⟩ := h; rfl)
      | (obtain ⟨_, _, _, _, _, _, rfl, _⟩ := h; rfl)
      | (obtain ⟨_, _, _, _, _, _, _, rfl, _⟩ := h; rfl)
      | (obtain ⟨_, _, _, _, _, _, _, _, rfl, _⟩ := h; rfl)
      | (obtain ⟨_, _, _, _, _, _, _, _, _, rfl, _⟩ := h; rfl)
      | (obtain ⟨_, _, _, _, _, _, _, _, _, _, rfl, _⟩ := h; rfl)
      | (obtain ⟨_, _, _, _, _, _, _, _, _, _, _, rfl, _⟩ := h; rfl)
      | (obtain ⟨_, _, _, _, _, _, _, _, _, _, _, _, rfl, _⟩ := h; rfl)
      | (obtain ⟨_, _, _, _, _, _, _, _, _, _, _, _, _, rfl, _⟩ := h; rfl)
      | (obtain ⟨_, _, _, _, _, _, _, _, _, _, _, _, _, _, rfl, _⟩ := h; rfl)
      | (obtain ⟨_, _, _, _, _, _, _, _, _, _, _, _, _, _, _, rfl, _⟩ := h; rfl)
      | (obtain ⟨_, _, _, _, _, _, _, _, _, _, _, _, _, _, _, _, rfl, _⟩ := h; rfl)
      | (obtain ⟨_, _, _, _, _, _, _, _, _, _, _, _, _, _, _, _, _, rfl, _⟩ := h; rfl)
      | (obtain ⟨_, _, _, _, _, _, _, _, _, _, _, _, _, _, _, _, _, _, rfl, _⟩ := h; rfl)
      | (obtain ⟨_, _, _, _, _, _, _, _, _, _, _, _, _, _, _, _, _, _, _, rfl, _⟩ := h; rfl)
      | (obtain ⟨_, _, _, _, _, _, _, _, _, _, _, _, _, _, _, _, _, _, _, _, rfl, _⟩ := h; rfl)
      | (obtain ⟨_, _, _, _, _, _, _, _, _, _, _, _, _, _, _, _, _, _, _, _, _, rfl, _⟩ := h; rfl)
      | (obtain ⟨_, _, _, _, _, _, _, _, _, _, _, _, _, _, _, _, _, _, _, _, _, _, rfl, _⟩ := h; rfl)
      | (obtain ⟨_, _, _, _, _, _, _, _, _, _, _, _, _, _, _, _, _, _, _, _, _, _, _, rfl, _⟩ := h; rfl)
      | (obtain ⟨_, _, _, _, _, _, _, _, _, _, _, _, _, _, _, _, _, _, _, _, _, _, _, _, rfl, _⟩ := h; rfl)
      | (obtain ⟨_, _, _, _, _, _, _, _, _, _, _, _, _, _, _, _, _, _, _, _, _, _, _, _, _, rfl, _⟩ := h; rfl)
      | (obtain ⟨_, _, _, _, _, _, _, _, _, _, _, _, _, _, _, _, _, _, _, _, _, _, _, _, _, _, rfl, _⟩ := h; rfl)
      | (obtain ⟨_, _, _, _, _, _, _, _, _, _, _, _, _, _, _, _, _, _, _, _, _, _, _, _, _, _, _, rfl, _⟩ := h; rfl)
  have hu := hu_of hr
  have hu64 := hr.units
  have hu65 := hr.u65
  have nd := sc_Book_spare.nd
  exact ⟨t_Book_spare K A E, (pss_cons (ps_set (i := 2) nd rfl (by first | exact Or.inl rfl | exact Or.inr rfl) (c_Book_row_by.pe T.cl (hr.mono (by decide)) (passes_call (takes_of rfl rfl rfl rfl) (fun _ _ _ _ h => h)) (uv 0) (pa_cons (uv 1) pa_nil)))
  (pss_cons (u_setLc (i := 3) (own := [("other", 4)]) (g := (gName 4)) (tt := (uT (tOp (rNeD K) (tOp (cIxT K) (uVar 4) (tC (.int 0))) (uVar 1)))) rfl nd rfl rfl (sw_true rfl rfl rfl (by decide +kernel)) (pi_list (c_Book_kept.pe0 T.cl (hr.mono (by decide)) pass0 (uv 0))) (blkOk_by (N := N_Book_spare) (sc := defScope s_Book_spare) (own := [("other", 4)]) (by decide +kernel)) (fun _ _ _ _ _ => (pg_name (i := 4) nd rfl (by first | exact Or.inl rfl | exact Or.inr rfl))) (fun _ _ _ _ _ => (pts_one (t_cmp (c_op (op_neD hu64) (pe_ix x_tup (uv 4) pe_int plainIx) (uv 1))))) (fun _ _ _ _ _ => (uv 4)))
  (pss_one (ps_ret (e_cmp (c_op o_notN (c_way_along.pe (hr.mono (by decide)) pass0 (pa_cons (uv 3) (pa_cons (pe_ix x_tup (uv 2) pe_int plainIx) (pa_cons (pe_ix x_tup (uv 2) pe_int plainIx) pa_nil)))) pe_non)))))), rd_Book_spare T h⟩
abbrev s__law_cell_at : Stmt := top 24
theorem sc__law_cell_at : FnScope N__law_cell_at ["_law_script", "_law_k"] (defScope s__law_cell_at) := ⟨rfl, rfl, rfl, by decide +kernel, rfl, by decide +kernel, by decide +kernel⟩
theorem ok__law_cell_at {f : Addr} {fd : FuncData} (F : Fun K "_law_cell_at" "_law_cell_at" s__law_cell_at f fd) (hm : mg "_law_cell_at" = some (.ref f)) (hb : Binds K fd ["_law_script", "_law_k"] []) (M : Mg mg)  :
    Cal P w K mg base CX0 1 "_law_cell_at" ["_law_script", "_law_k"] (sp__law_cell_at K) := by
  refine ⟨f, fd, F.ok sc__law_cell_at (fun vs H Q E h => ?_) (fun cdv A' outer s H vs Q E hr h => ?_), hm, F.kp, hb⟩
  · unfold sp__law_cell_at at h
    first
      | (obtain ⟨rfl, _⟩ := h; rfl)
      | (obtain ⟨_, rfl, _⟩ := h; rfl)
      | (obtain ⟨_, _, rfl, _⟩ := h; rfl)
      | (obtain ⟨_, _, _, rfl, _⟩ := h; rfl)
      | (obtain ⟨_, _, _, _, rfl, _⟩ := h; rfl)
      | (obtain ⟨_, _, _, _, _, rfl, _⟩ := h; rfl)
      | (obtain ⟨_, _, _, _, _, _, rfl, _⟩ := h; rfl)
      | (obtain ⟨_, _, _, _, _, _, _, rfl, _⟩ := h; rfl)
      | (obtain ⟨_, _, _, _, _, _, _, _, rfl, _⟩ := h; rfl)
      | (obtain ⟨_, _, _, _, _, _, _, _, _, rfl, _⟩ := h; rfl)
      | (obtain ⟨_, _, _, _, _, _, _, _, _, _, rfl, _⟩ := h; rfl)
      | (obtain ⟨_, _, _, _, _, _, _, _, _, _, _, rfl, _⟩ := h; rfl)
      | (obtain ⟨_, _, _, _, _, _, _, _, _, _, _, _, rfl, _⟩ := h; rfl)
      | (obtain ⟨_, _, _, _, _, _, _, _, _, _, _, _, _, rfl, _⟩ := h; rfl)
      | (obtain ⟨_, _, _, _, _, _, _, _, _, _, _, _, _, _, rfl, _⟩ := h; rfl)
      | (obtain ⟨_, _, _, _, _, _, _, _, _, _, _, _, _, _, _, rfl, _⟩ := h; rfl)
      | (obtain ⟨_, _, _, _, _, _, _, _, _, _, _, _, _, _, _, _, rfl, _⟩ := h; rfl)
      | (obtain ⟨_, _, _, _, _, _, _, _, _, _, _, _, _, _, _, _, _, rfl, _⟩ := h; rfl)
      | (obtain ⟨_, _, _, _, _, _, _, _, _, _, _, _, _, _, _, _, _, _, rfl, _⟩ := h; rfl)
      | (obtain ⟨_, _, _, _, _, _, _, _, _, _, _, _, _, _, _, _, _, _, _, rfl, _⟩ := h; rfl)
      | (obtain ⟨_, _, _, _, _, _, _, _, _, _, _, _, _, _, _, _, _, _, _, _, rfl, _⟩ := h; rfl)
      | (obtain ⟨_, _, _, _, _, _, _, _, _, _, _, _, _, _, _, _, _, _, _, _, _, rfl, _⟩ := h; rfl)
      | (obtain ⟨_, _, _, _, _, _, _, _, _, _, _, _, _, _, _, _, _, _, _, _, _, _, rfl, _⟩ := h; rfl)
      | (obtain ⟨_, _, _, _, _, _, _, _, _, _, _, _, _, _, _, _, _, _, _, _, _, _, _, rfl, _⟩ := h; rfl)
      | (obtain ⟨_, _, _, _, _, _, _, _, _, _, _, _, _, _, _, _, _, _, _, _, _, _, _, _, rfl, _⟩ := h; rfl)
      | (obtain ⟨_, _, _, _, _, _, _, _, _, _, _, _, _, _, _, _, _, _, _, _, _, _, _, _, _, rfl, _⟩ := h; rfl)
      | (obtain ⟨_, _, _, _, _, _, _, _, _, _, _, _, _, _, _, _, _, _, _, _, _, _, _, _, _, _, rfl, _⟩ := h; rfl)
      | (obtain ⟨_, _, _, _, _, _, _, _, _, _, _, _, _, _, _, _, _, _, _, _, _, _, _, _, _, _, _, rfl, _⟩ := h; rfl)
  have hu := hu_of hr
  have hu64 := hr.units
  have hu65 := hr.u65
  have nd := sc__law_cell_at.nd
  exact ⟨t__law_cell_at K, (pss_cons (s_if (t_cmp (c_op o_lt (uv 1) (pe_callB l_seq (by rfl) M.m_len (by decide +kernel) (pa_cons (uv 0) pa_nil))))
  (pss_one (ps_ret (pe_ix x_list (uv 0) (uv 1) plainIx)))
  pss_nil)
  (pss_one (ps_ret pe_int))), rd__law_cell_at h⟩
abbrev s__law_whole : Stmt := top 25
theorem sc__law_whole : FnScope N__law_whole ["_law_found"] (defScope s__law_whole) := ⟨rfl, rfl, rfl, by decide +kernel, rfl, by decide +kernel, by decide +kernel⟩
theorem ok__law_whole {f : Addr} {fd : FuncData} (F : Fun K "_law_whole" "_law_whole" s__law_whole f fd) (hm : mg "_law_whole" = some (.ref f)) (hb : Binds K fd ["_law_found"] []) (M : Mg mg)  :
    Cal P w K mg base CX0 1 "_law_whole" ["_law_found"] (sp__law_whole K) := by
  refine ⟨f, fd, F.ok sc__law_whole (fun vs H Q E h => ?_) (fun cdv A' outer s H vs Q E hr h => ?_), hm, F.kp, hb⟩
  · unfold sp__law_whole at h
    first
      | (obtain ⟨rfl, _⟩ := h; rfl)
      | (obtain ⟨_, rfl, _⟩ := h; rfl)
      | (obtain ⟨_, _, rfl, _⟩ := h; rfl)
      | (obtain ⟨_, _, _, rfl, _⟩ := h; rfl)
      | (obtain ⟨_, _, _, _, rfl, _⟩ := h; rfl)
      | (obtain ⟨_, _, _, _, _, rfl, _⟩ := h; rfl)
      | (obtain ⟨_, _, _, _, _, _, rfl, _⟩ := h; rfl)
      | (obtain ⟨_, _, _, _, _, _, _, rfl, _⟩ := h; rfl)
      | (obtain ⟨_, _, _, _, _, _, _, _, rfl, _⟩ := h; rfl)
      | (obtain ⟨_, _, _, _, _, _, _, _, _, rfl, _⟩ := h; rfl)
      | (obtain ⟨_, _, _, _, _, _, _, _, _, _, rfl, _⟩ := h; rfl)
      | (obtain ⟨_, _, _, _, _, _, _, _, _, _, _, rfl, _⟩ := h; rfl)
      | (obtain ⟨_, _, _, _, _, _, _, _, _, _, _, _, rfl, _⟩ := h; rfl)
      | (obtain ⟨_, _, _, _, _, _, _, _, _, _, _, _, _, rfl, _⟩ := h; rfl)
      | (obtain ⟨_, _, _, _, _, _, _, _, _, _, _, _, _, _, rfl, _⟩ := h; rfl)
      | (obtain ⟨_, _, _, _, _, _, _, _, _, _, _, _, _, _, _, rfl, _⟩ := h; rfl)
      | (obtain ⟨_, _, _, _, _, _, _, _, _, _, _, _, _, _, _, _, rfl, _⟩ := h; rfl)
      | (obtain ⟨_, _, _, _, _, _, _, _, _, _, _, _, _, _, _, _, _, rfl, _⟩ := h; rfl)
      | (obtain ⟨_, _, _, _, _, _, _, _, _, _, _, _, _, _, _, _, _, _, rfl, _⟩ := h; rfl)
      | (obtain ⟨_, _, _, _, _, _, _, _, _, _, _, _, _, _, _, _, _, _, _, rfl, _⟩ := h; rfl)
      | (obtain ⟨_, _, _, _, _, _, _, _, _, _, _, _, _, _, _, _, _, _, _, _, rfl, _⟩ := h; rfl)
      | (obtain ⟨_, _, _, _, _, _, _, _, _, _, _, _, _, _, _, _, _, _, _, _, _, rfl, _⟩ := h; rfl)
      | (obtain ⟨_, _, _, _, _, _, _, _, _, _, _, _, _, _, _, _, _, _, _, _, _, _, rfl, _⟩ := h; rfl)
      | (obtain ⟨_, _, _, _, _, _, _, _, _, _, _, _, _, _, _, _, _, _, _, _, _, _, _, rfl, _⟩ := h; rfl)
      | (obtain ⟨_, _, _, _, _, _, _, _, _, _, _, _, _, _, _, _, _, _, _, _, _, _, _, _, rfl, _⟩ := h; rfl)
      | (obtain ⟨_, _, _, _, _, _, _, _, _, _, _, _, _, _, _, _, _, _, _, _, _, _, _, _, _, rfl, _⟩ := h; rfl)
      | (obtain ⟨_, _, _, _, _, _, _, _, _, _, _, _, _, _, _, _, _, _, _, _, _, _, _, _, _, _, rfl, _⟩ := h; rfl)
      | (obtain ⟨_, _, _, _, _, _, _, _, _, _, _, _, _, _, _, _, _, _, _, _, _, _, _, _, _, _, _, rfl, _⟩ := h; rfl)
  have hu := hu_of hr
  have hu64 := hr.units
  have hu65 := hr.u65
  have nd := sc__law_whole.nd
  exact ⟨t__law_whole K, (pss_one (ps_ret (v_and (pe_callB b_isi (by rfl) M.m_isinstance (by decide +kernel) (pa_cons (uv 0) (pa_cons (pe_bltn (v := .ty "int") (by rfl) M.m_int (by decide +kernel) rfl) pa_nil))) (pe_one (v_not (pe_callB b_isi (by rfl) M.m_isinstance (by decide +kernel) (pa_cons (uv 0) (pa_cons (pe_bltn (v := .ty "bool") (by rfl) M.m_bool (by decide +kernel) rfl) pa_nil)))))))), rd__law_whole h⟩
abbrev s__law_word : Stmt := top 26
theorem sc__law_word : FnScope N__law_word ["_law_number"] (defScope s__law_word) := ⟨rfl, rfl, rfl, by decide +kernel, rfl, by decide +kernel, by decide +kernel⟩
theorem ok__law_word {f : Addr} {fd : FuncData} (F : Fun K "_law_word" "_law_word" s__law_word f fd) (hm : mg "_law_word" = some (.ref f)) (hb : Binds K fd ["_law_number"] []) (M : Mg mg)  :
    Cal P w K mg base CX0 1 "_law_word" ["_law_number"] (sp__law_word K) := by
  refine ⟨f, fd, F.ok sc__law_word (fun vs H Q E h => ?_) (fun cdv A' outer s H vs Q E hr h => ?_), hm, F.kp, hb⟩
  · unfold sp__law_word at h
    first
      | (obtain ⟨rfl, _⟩ := h; rfl)
      | (obtain ⟨_, rfl, _⟩ := h; rfl)
      | (obtain ⟨_, _, rfl, _⟩ := h; rfl)
      | (obtain ⟨_, _, _, rfl, _⟩ := h; rfl)
      | (obtain ⟨_, _, _, _, rfl, _⟩ := h; rfl)
      | (obtain ⟨_, _, _, _, _, rfl, _⟩ := h; rfl)
      | (obtain ⟨_, _, _, _, _, _, rfl, _⟩ := h; rfl)
      | (obtain ⟨_, _, _, _, _, _, _, rfl, _⟩ := h; rfl)
      | (obtain ⟨_, _, _, _, _, _, _, _, rfl, _⟩ := h; rfl)
      | (obtain ⟨_, _, _, _, _, _, _, _, _, rfl, _⟩ := h; rfl)
      | (obtain ⟨_, _, _, _, _, _, _, _, _, _, rfl, _⟩ := h; rfl)
      | (obtain ⟨_, _, _, _, _, _, _, _, _, _, _, rfl, _⟩ := h; rfl)
      | (obtain ⟨_, _, _, _, _, _, _, _, _, _, _, _, rfl, _⟩ := h; rfl)
      | (obtain ⟨_, _, _, _, _, _, _, _, _, _, _, _, _, rfl, _⟩ := h; rfl)
      | (obtain ⟨_, _, _, _, _, _, _, _, _, _, _, _, _, _, rfl, _⟩ := h; rfl)
      | (obtain ⟨_, _, _, _, _, _, _, _, _, _, _, _, _, _, _, rfl, _⟩ := h; rfl)
      | (obtain ⟨_, _, _, _, _, _, _, _, _, _, _, _, _, _, _, _, rfl, _⟩ := h; rfl)
      | (obtain ⟨_, _, _, _, _, _, _, _, _, _, _, _, _, _, _, _, _, rfl, _⟩ := h; rfl)
      | (obtain ⟨_, _, _, _, _, _, _, _, _, _, _, _, _, _, _, _, _, _, rfl, _⟩ := h; rfl)
      | (obtain ⟨_, _, _, _, _, _, _, _, _, _, _, _, _, _, _, _, _, _, _, rfl, _⟩ := h; rfl)
      | (obtain ⟨_, _, _, _, _, _, _, _, _, _, _, _, _, _, _, _, _, _, _, _, rfl, _⟩ := h; rfl)
      | (obtain ⟨_, _, _, _, _, _, _, _, _, _, _, _, _, _, _, _, _, _, _, _, _, rfl, _⟩ := h; rfl)
      | (obtain ⟨_, _, _, _, _, _, _, _, _, _, _, _, _, _, _, _, _, _, _, _, _, _, rfl, _⟩ := h; rfl)
      | (obtain ⟨_, _, _, _, _, _, _, _, _, _, _, _, _, _, _, _, _, _, _, _, _, _, _, rfl, _⟩ := h; rfl)
      | (obtain ⟨_, _, _, _, _, _, _, _, _, _, _, _, _, _, _, _, _, _, _, _, _, _, _, _, rfl, _⟩ := h; rfl)
      | (obtain ⟨_, _, _, _, _, _, _, _, _, _, _, _, _, _, _, _, _, _, _, _, _, _, _, _, _, rfl, _⟩ := h; rfl)
      | (obtain ⟨_, _, _, _, _, _, _, _, _, _, _, _, _, _, _, _, _, _, _, _, _, _, _, _, _, _, rfl, _⟩ := h; rfl)
      | (obtain ⟨_, _, _, _, _, _, _, _, _, _, _, _, _, _, _, _, _, _, _, _, _, _, _, _, _, _, _, rfl, _⟩ := h; rfl)
  have hu := hu_of hr
  have hu64 := hr.units
  have hu65 := hr.u65
  have nd := sc__law_word.nd
  exact ⟨t__law_word K, (pss_cons (ps_set (i := 1) nd rfl (by first | exact Or.inl rfl | exact Or.inr rfl) pe_str)
  (pss_cons (ps_for pnever rfl (pi_range1 (by rfl) M.m_range (pa_cons pe_int pa_nil)) (pg_name (i := 2) nd rfl (by first | exact Or.inl rfl | exact Or.inr rfl))
  (pss_one (ps_set (i := 1) nd rfl (by first | exact Or.inl rfl | exact Or.inr rfl) (pe_op o_addS (uv 1) (pe_ix x_str pe_str (pe_op o_mod (pe_op o_mod (pe_op o_mul (uv 0) (pe_op o_add (pe_op o_mul (uv 2) (uv 2)) pe_int)) pe_int) pe_int) plainIx)))))
  (pss_one (ps_ret (uv 1))))), rd__law_word h⟩
abbrev s__law_pegs : Stmt := top 27
theorem sc__law_pegs : FnScope N__law_pegs ["_law_cell", "_law_many"] (defScope s__law_pegs) := ⟨rfl, rfl, rfl, by decide +kernel, rfl, by decide +kernel, by decide +kernel⟩
theorem ok__law_pegs {f : Addr} {fd : FuncData} (F : Fun K "_law_pegs" "_law_pegs" s__law_pegs f fd) (hm : mg "_law_pegs" = some (.ref f)) (hb : Binds K fd ["_law_cell", "_law_many"] []) (M : Mg mg) (c__law_word : Cal P w K mg base CX0 1 "_law_word" ["_law_number"] (sp__law_word K)) :
    Cal P w K mg base CX0 2 "_law_pegs" ["_law_cell", "_law_many"] (sp__law_pegs K) := by
  refine ⟨f, fd, F.ok sc__law_pegs (fun vs H Q E h => ?_) (fun cdv A' outer s H vs Q E hr h => ?_), hm, F.kp, hb⟩
  · unfold sp__law_pegs at h
    first
      | (obtain ⟨rfl, _⟩ := h; rfl)
      | (obtain ⟨_, rfl, _⟩ := h; rfl)
      | (obtain ⟨_, _, rfl, _⟩ := h; rfl)
      | (obtain ⟨_, _, _, rfl, _⟩ := h; rfl)
      | (obtain ⟨_, _, _, _, rfl, _⟩ := h; rfl)
      | (obtain ⟨_, _, _, _, _, rfl, _⟩ := h; rfl)
      | (obtain ⟨_, _, _, _, _, _, rfl, _⟩ := h; rfl)
      | (obtain ⟨_, _, _, _, _, _, _, rfl, _⟩ := h; rfl)
      | (obtain ⟨_, _, _, _, _, _, _, _, rfl, _⟩ := h; rfl)
      | (obtain ⟨_, _, _, _, _, _, _, _, _, rfl, _⟩ := h; rfl)
      | (obtain ⟨_, _, _, _, _, _, _, _, _, _, rfl, _⟩ := h; rfl)
      | (obtain ⟨_, _, _, _, _, _, _, _, _, _, _, rfl, _⟩ := h; rfl)
      | (obtain ⟨_, _, _, _, _, _, _, _, _, _, _, _, rfl, _⟩ := h; rfl)
      | (obtain ⟨_, _, _, _, _, _, _, _, _, _, _, _, _, rfl, _⟩ := h; rfl)
      | (obtain ⟨_, _, _, _, _, _, _, _, _, _, _, _, _, _, rfl, _⟩ := h; rfl)
      | (obtain ⟨_, _, _, _, _, _, _, _, _, _, _, _, _, _, _, rfl, _⟩ := h; rfl)
      | (obtain ⟨_, _, _, _, _, _, _, _, _, _, _, _, _, _, _, _, rfl, _⟩ := h; rfl)
      | (obtain ⟨_, _, _, _, _, _, _, _, _, _, _, _, _, _, _, _, _, rfl, _⟩ := h; rfl)
      | (obtain ⟨_, _, _, _, _, _, _, _, _, _, _, _, _, _, _, _, _, _, rfl, _⟩ := h; rfl)
      | (obtain ⟨_, _, _, _, _, _, _, _, _, _, _, _, _, _, _, _, _, _, _, rfl, _⟩ := h; rfl)
      | (obtain ⟨_, _, _, _, _, _, _, _, _, _, _, _, _, _, _, _, _, _, _, _, rfl, _⟩ := h; rfl)
      | (obtain ⟨_, _, _, _, _, _, _, _, _, _, _, _, _, _, _, _, _, _, _, _, _, rfl, _⟩ := h; rfl)
      | (obtain ⟨_, _, _, _, _, _, _, _, _, _, _, _, _, _, _, _, _, _, _, _, _, _, rfl, _⟩ := h; rfl)
      | (obtain ⟨_, _, _, _, _, _, _, _, _, _, _, _, _, _, _, _, _, _, _, _, _, _, _, rfl, _⟩ := h; rfl)
      | (obtain ⟨_, _, _, _, _, _, _, _, _, _, _, _, _, _, _, _, _, _, _, _, _, _, _, _, rfl, _⟩ := h; rfl)
      | (obtain ⟨_, _, _, _, _, _, _, _, _, _, _, _, _, _, _, _, _, _, _, _, _, _, _, _, _, rfl, _⟩ := h; rfl)
      | (obtain ⟨_, _, _, _, _, _, _, _, _, _, _, _, _, _, _, _, _, _, _, _, _, _, _, _, _, _, rfl, _⟩ := h; rfl)
      | (obtain ⟨_, _, _, _, _, _, _, _, _, _, _, _, _, _, _, _, _, _, _, _, _, _, _, _, _, _, _, rfl, _⟩ := h; rfl)
  have hu := hu_of hr
  have hu64 := hr.units
  have hu65 := hr.u65
  have nd := sc__law_pegs.nd
  exact ⟨t__law_pegs K, (pss_cons (ps_set (i := 2) nd rfl (by first | exact Or.inl rfl | exact Or.inr rfl) (pe_op o_mod (pe_op o_mul (pe_op o_add (pe_op o_mod (uv 0) pe_int) pe_int) pe_int) pe_int))
  (pss_cons (ps_set (i := 3) nd rfl (by first | exact Or.inl rfl | exact Or.inr rfl) (c__law_word.pe (hr.mono (by decide)) pass0 (pa_cons (uv 2) pa_nil)))
  (pss_cons (ps_set (i := 4) nd rfl (by first | exact Or.inl rfl | exact Or.inr rfl) (pe_op o_mod (pe_op o_div (uv 2) pe_int) pe_int))
  (pss_cons (ps_set (i := 5) nd rfl (by first | exact Or.inl rfl | exact Or.inr rfl) (pe_op o_add (pe_op o_add (uv 4) pe_int) (pe_op o_mod (pe_op o_div (uv 2) pe_int) (pe_op o_sub pe_int (uv 4)))))
  (pss_cons (ps_set (i := 6) nd rfl (by first | exact Or.inl rfl | exact Or.inr rfl) (e_lst pa_nil))
  (pss_cons (ps_for pnever rfl (pi_range1 (by rfl) M.m_range (pa_cons (uv 1) pa_nil)) (pg_name (i := 7) nd rfl (by first | exact Or.inl rfl | exact Or.inr rfl))
  (pss_cons (ps_set (i := 8) nd rfl (by first | exact Or.inl rfl | exact Or.inr rfl) (pe_ix x_str pe_str (pe_op o_mod (pe_op o_add (pe_op o_div (uv 2) pe_int) (pe_op o_mul pe_int (uv 7))) pe_int) plainIx))
  (pss_one (s_if (t_cmp (c_op o_eqI (pe_op o_mod (uv 2) pe_int) pe_int))
  (pss_one (ps_expr (pe_bm PySem.F.plainAttrs_list PySem.F.slot_list_append PySem.F.type_list_append m_append (uv 6) (pa_cons (pe_slice s_str (uv 3) po_none (p_some (pe_op o_add pe_int (uv 7)))) pa_nil))))
  (pss_one (s_if (t_cmp (c_op o_eqI (pe_op o_mod (uv 2) pe_int) pe_int))
  (pss_one (ps_expr (pe_bm PySem.F.plainAttrs_list PySem.F.slot_list_append PySem.F.type_list_append m_append (uv 6) (pa_cons (pe_op o_addS (pe_op o_addS (pe_slice s_str (uv 3) po_none (p_some (uv 4))) (uv 8)) (pe_slice s_str (uv 3) (p_some (pe_op o_add (uv 4) pe_int)) (p_some (uv 5)))) pa_nil))))
  (pss_cons (ps_set (i := 9) nd rfl (by first | exact Or.inl rfl | exact Or.inr rfl) (c__law_word.pe (hr.mono (by decide)) pass0 (pa_cons (pe_op o_add (pe_op o_div (uv 2) pe_int) (pe_op o_mul (pe_op o_mul pe_int (uv 7)) (uv 7))) pa_nil)))
  (pss_one (ps_expr (pe_bm PySem.F.plainAttrs_list PySem.F.slot_list_append PySem.F.type_list_append m_append (uv 6) (pa_cons (pe_slice s_str (uv 9) po_none (p_some (pe_op o_add pe_int (pe_op o_mod (pe_op o_add (pe_op o_div (uv 2) pe_int) (pe_op o_mul pe_int (uv 7))) pe_int)))) pa_nil)))))))))))
  (pss_one (ps_ret (uv 6))))))))), rd__law_pegs h⟩
abbrev s__law_highs : Stmt := top 28
theorem sc__law_highs : FnScope N__law_highs ["_law_some", "_law_cell"] (defScope s__law_highs) := ⟨rfl, rfl, rfl, by decide +kernel, rfl, by decide +kernel, by decide +kernel⟩
theorem ok__law_highs {f : Addr} {fd : FuncData} (F : Fun K "_law_highs" "_law_highs" s__law_highs f fd) (hm : mg "_law_highs" = some (.ref f)) (hb : Binds K fd ["_law_some", "_law_cell"] []) (M : Mg mg)  :
    Cal P w K mg base CX0 1 "_law_highs" ["_law_some", "_law_cell"] (sp__law_highs K) := by
  refine ⟨f, fd, F.ok sc__law_highs (fun vs H Q E h => ?_) (fun cdv A' outer s H vs Q E hr h => ?_), hm, F.kp, hb⟩
  · unfold sp__law_highs at h
    first
      | (obtain ⟨rfl, _⟩ := h; rfl)
      | (obtain ⟨_, rfl, _⟩ := h; rfl)
      | (obtain ⟨_, _, rfl, _⟩ := h; rfl)
      | (obtain ⟨_, _, _, rfl, _⟩ := h; rfl)
      | (obtain ⟨_, _, _, _, rfl, _⟩ := h; rfl)
      | (obtain ⟨_, _, _, _, _, rfl, _⟩ := h; rfl)
      | (obtain ⟨_, _, _, _, _, _, rfl, _⟩ := h; rfl)
      | (obtain ⟨_, _, _, _, _, _, _, rfl, _⟩ := h; rfl)
      | (obtain ⟨_, _, _, _, _, _, _, _, rfl, _⟩ := h; rfl)
      | (obtain ⟨_, _, _, _, _, _, _, _, _, rfl, _⟩ := h; rfl)
      | (obtain ⟨_, _, _, _, _, _, _, _, _, _, rfl, _⟩ := h; rfl)
      | (obtain ⟨_, _, _, _, _, _, _, _, _, _, _, rfl, _⟩ := h; rfl)
      | (obtain ⟨_, _, _, _, _, _, _, _, _, _, _, _, rfl, _⟩ := h; rfl)
      | (obtain ⟨_, _, _, _, _, _, _, _, _, _, _, _, _, rfl, _⟩ := h; rfl)
      | (obtain ⟨_, _, _, _, _, _, _, _, _, _, _, _, _, _, rfl, _⟩ := h; rfl)
      | (obtain ⟨_, _, _, _, _, _, _, _, _, _, _, _, _, _, _, rfl, _⟩ := h; rfl)
      | (obtain ⟨_, _, _, _, _, _, _, _, _, _, _, _, _, _, _, _, rfl, _⟩ := h; rfl)
      | (obtain ⟨_, _, _, _, _, _, _, _, _, _, _, _, _, _, _, _, _, rfl, _⟩ := h; rfl)
      | (obtain ⟨_, _, _, _, _, _, _, _, _, _, _, _, _, _, _, _, _, _, rfl, _⟩ := h; rfl)
      | (obtain ⟨_, _, _, _, _, _, _, _, _, _, _, _, _, _, _, _, _, _, _, rfl, _⟩ := h; rfl)
      | (obtain ⟨_, _, _, _, _, _, _, _, _, _, _, _, _, _, _, _, _, _, _, _, rfl, _⟩ := h; rfl)
      | (obtain ⟨_, _, _, _, _, _, _, _, _, _, _, _, _, _, _, _, _, _, _, _, _, rfl, _⟩ := h; rfl)
      | (obtain ⟨_, _, _, _, _, _, _, _, _, _, _, _, _, _, _, _, _, _, _, _, _, _, rfl, _⟩ := h; rfl)
      | (obtain ⟨_, _, _, _, _, _, _, _, _, _, _, _, _, _, _, _, _, _, _, _, _, _, _, rfl, _⟩ := h; rfl)
      | (obtain ⟨_, _, _, _, _, _, _, _, _, _, _, _, _, _, _, _, _, _, _, _, _, _, _, _, rfl, _⟩ := h; rfl)
      | (obtain ⟨_, _, _, _, _, _, _, _, _, _, _, _, _, _, _, _, _, _, _, _, _, _, _, _, _, rfl, _⟩ := h; rfl)
      | (obtain ⟨_, _, _, _, _, _, _, _, _, _, _, _, _, _, _, _, _, _, _, _, _, _, _, _, _, _, rfl, _⟩ := h; rfl)
      | (obtain ⟨_, _, _, _, _, _, _, _, _, _, _, _, _, _, _, _, _, _, _, _, _, _, _, _, _, _, _, rfl, _⟩ := h; rfl)
  have hu := hu_of hr
  have hu64 := hr.units
  have hu65 := hr.u65
  have nd := sc__law_highs.nd
  exact ⟨t__law_highs K, (pss_cons (ps_set (i := 2) nd rfl (by first | exact Or.inl rfl | exact Or.inr rfl) e_dnew)
  (pss_cons (ps_set (i := 3) nd rfl (by first | exact Or.inl rfl | exact Or.inr rfl) (pe_op o_mod (uv 1) (pe_op o_pow pe_int pe_int)))
  (pss_cons (ps_for pnever rfl (pi_range1 (by rfl) M.m_range (pa_cons (pe_callB l_seq (by rfl) M.m_len (by decide +kernel) (pa_cons (uv 0) pa_nil)) pa_nil)) (pg_name (i := 4) nd rfl (by first | exact Or.inl rfl | exact Or.inr rfl))
  (pss_cons (ps_set (i := 5) nd rfl (by first | exact Or.inl rfl | exact Or.inr rfl) (pe_op o_mul (pe_op o_add (pe_op o_add (pe_op o_mul (uv 4) (uv 4)) (pe_op o_mul pe_int (uv 4))) pe_int) (pe_op o_add (pe_op o_mul pe_int (pe_op o_pow pe_int pe_int)) pe_int)))
  (pss_cons (s_dput hu (uv 2) (pe_ix x_list (uv 0) (uv 4) plainIx) (pe_op o_mod (pe_op o_mulW (pe_op o_add (uv 3) (uv 4)) (uv 5)) (pe_op o_mul pe_int (pe_op o_pow pe_int pe_int))) rfl)
  (pss_one (s_if (t_cmp (c_op o_eqI (pe_op o_mod (uv 1) pe_int) pe_int))
  (pss_one (s_dput hu (uv 2) (pe_ix x_list (uv 0) (uv 4) plainIx) (pe_op o_mod (pe_op o_mul (uv 4) (uv 4)) pe_int) rfl))
  pss_nil)))))
  (pss_one (ps_ret (uv 2)))))), rd__law_highs h⟩
abbrev s__law_sighting : Stmt := top 29
theorem sc__law_sighting : FnScope N__law_sighting ["_law_some", "_law_highs_here", "_law_cell", "_law_k"] (defScope s__law_sighting) := ⟨rfl, rfl, rfl, by decide +kernel, rfl, by decide +kernel, by decide +kernel⟩
theorem ok__law_sighting {f : Addr} {fd : FuncData} (F : Fun K "_law_sighting" "_law_sighting" s__law_sighting f fd) (hm : mg "_law_sighting" = some (.ref f)) (hb : Binds K fd ["_law_some", "_law_highs_here", "_law_cell", "_law_k"] []) (M : Mg mg)  :
    Cal P w K mg base CX0 1 "_law_sighting" ["_law_some", "_law_highs_here", "_law_cell", "_law_k"] (sp__law_sighting K) := by
  refine ⟨f, fd, F.ok sc__law_sighting (fun vs H Q E h => ?_) (fun cdv A' outer s H vs Q E hr h => ?_), hm, F.kp, hb⟩
  · unfold sp__law_sighting at h
    first
      | (obtain ⟨rfl, _⟩ := h; rfl)
      | (obtain ⟨_, rfl, _⟩ := h; rfl)
      | (obtain ⟨_, _, rfl, _⟩ := h; rfl)
      | (obtain ⟨_, _, _, rfl, _⟩ := h; rfl)
      | (obtain ⟨_, _, _, _, rfl, _⟩ := h; rfl)
      | (obtain ⟨_, _, _, _, _, rfl, _⟩ := h; rfl)
      | (obtain ⟨_, _, _, _, _, _, rfl, _⟩ := h; rfl)
      | (obtain ⟨_, _, _, _, _, _, _, rfl, _⟩ := h; rfl)
      | (obtain ⟨_, _, _, _, _, _, _, _, rfl, _⟩ := h; rfl)
      | (obtain ⟨_, _, _, _, _, _, _, _, _, rfl, _⟩ := h; rfl)
      | (obtain ⟨_, _, _, _, _, _, _, _, _, _, rfl, _⟩ := h; rfl)
      | (obtain ⟨_, _, _, _, _, _, _, _, _, _, _, rfl, _⟩ := h; rfl)
      | (obtain ⟨_, _, _, _, _, _, _, _, _, _, _, _, rfl, _⟩ := h; rfl)
      | (obtain ⟨_, _, _, _, _, _, _, _, _, _, _, _, _, rfl, _⟩ := h; rfl)
      | (obtain ⟨_, _, _, _, _, _, _, _, _, _, _, _, _, _, rfl, _⟩ := h; rfl)
      | (obtain ⟨_, _, _, _, _, _, _, _, _, _, _, _, _, _, _, rfl, _⟩ := h; rfl)
      | (obtain ⟨_, _, _, _, _, _, _, _, _, _, _, _, _, _, _, _, rfl, _⟩ := h; rfl)
      | (obtain ⟨_, _, _, _, _, _, _, _, _, _, _, _, _, _, _, _, _, rfl, _⟩ := h; rfl)
      | (obtain ⟨_, _, _, _, _, _, _, _, _, _, _, _, _, _, _, _, _, _, rfl, _⟩ := h; rfl)
      | (obtain ⟨_, _, _, _, _, _, _, _, _, _, _, _, _, _, _, _, _, _, _, rfl, _⟩ := h; rfl)
      | (obtain ⟨_, _, _, _, _, _, _, _, _, _, _, _, _, _, _, _, _, _, _, _, rfl, _⟩ := h; rfl)
      | (obtain ⟨_, _, _, _, _, _, _, _, _, _, _, _, _, _, _, _, _, _, _, _, _, rfl, _⟩ := h; rfl)
      | (obtain ⟨_, _, _, _, _, _, _, _, _, _, _, _, _, _, _, _, _, _, _, _, _, _, rfl, _⟩ := h; rfl)
      | (obtain ⟨_, _, _, _, _, _, _, _, _, _, _, _, _, _, _, _, _, _, _, _, _, _, _, rfl, _⟩ := h; rfl)
      | (obtain ⟨_, _, _, _, _, _, _, _, _, _, _, _, _, _, _, _, _, _, _, _, _, _, _, _, rfl, _⟩ := h; rfl)
      | (obtain ⟨_, _, _, _, _, _, _, _, _, _, _, _, _, _, _, _, _, _, _, _, _, _, _, _, _, rfl, _⟩ := h; rfl)
      | (obtain ⟨_, _, _, _, _, _, _, _, _, _, _, _, _, _, _, _, _, _, _, _, _, _, _, _, _, _, rfl, _⟩ := h; rfl)
      | (obtain ⟨_, _, _, _, _, _, _, _, _, _, _, _, _, _, _, _, _, _, _, _, _, _, _, _, _, _, _, rfl, _⟩ := h; rfl)
  have hu := hu_of hr
  have hu64 := hr.units
  have hu65 := hr.u65
  have nd := sc__law_sighting.nd
  exact ⟨t__law_sighting K, (pss_cons (ps_set (i := 4) nd rfl (by first | exact Or.inl rfl | exact Or.inr rfl) (pe_op o_add (pe_op o_mod (pe_op o_add (uv 2) (uv 3)) pe_int) pe_int))
  (pss_cons (ps_set (i := 5) nd rfl (by first | exact Or.inl rfl | exact Or.inr rfl) (pe_ix x_list (uv 0) (pe_op o_mod (pe_op o_mod (pe_op o_mul (uv 4) pe_int) pe_int) (pe_callB l_seq (by rfl) M.m_len (by decide +kernel) (pa_cons (uv 0) pa_nil))) plainIx))
  (pss_cons (ps_set (i := 6) nd rfl (by first | exact Or.inl rfl | exact Or.inr rfl) (pe_ix x_list (uv 0) (pe_op o_mod (pe_op o_mod (pe_op o_mul (uv 4) pe_int) pe_int) (pe_callB l_seq (by rfl) M.m_len (by decide +kernel) (pa_cons (uv 0) pa_nil))) plainIx))
  (pss_cons (ps_set (i := 7) nd rfl (by first | exact Or.inl rfl | exact Or.inr rfl) (pe_op o_mod (pe_op o_mod (pe_op o_mul (uv 4) pe_int) pe_int) pe_int))
  (pss_cons (ps_set (i := 8) nd rfl (by first | exact Or.inl rfl | exact Or.inr rfl) (pe_op o_sub (u_dget hu (uv 1) (uv 6)) (u_dget hu (uv 1) (uv 5))))
  (Evl.pss_cut (s_if (t_cmp (c_op o_eqI (uv 7) pe_int))
  (pss_one (ps_set (i := 8) nd rfl (by first | exact Or.inl rfl | exact Or.inr rfl) (pe_op o_sub (pe_op o_add (uv 8) pe_int) (pe_op o_mul pe_int (pe_op o_mod (uv 4) pe_int)))))
  pss_nil)
  (Evl.pss_cut (s_if (t_cmp (c_op o_eqI (uv 7) pe_int))
  (pss_one (ps_set (i := 8) nd rfl (by first | exact Or.inl rfl | exact Or.inr rfl) (pe_op o_sub (pe_op o_mod (uv 2) (pe_op o_sub (pe_op o_mul pe_int (pe_op o_pow pe_int pe_int)) pe_int)) (pe_op o_sub (pe_op o_pow pe_int pe_int) pe_int))))
  pss_nil)
  (pss_one (ps_ret (e_tup (pa_cons (uv 5) (pa_cons (uv 6) (pa_cons (uv 8) pa_nil))))))))))))), rd__law_sighting h⟩
abbrev s__law_tops : Stmt := top 30
theorem sc__law_tops : FnScope N__law_tops ["_law_rows_here"] (defScope s__law_tops) := ⟨rfl, rfl, rfl, by decide +kernel, rfl, by decide +kernel, by decide +kernel⟩
theorem ok__law_tops {f : Addr} {fd : FuncData} (F : Fun K "_law_tops" "_law_tops" s__law_tops f fd) (hm : mg "_law_tops" = some (.ref f)) (hb : Binds K fd ["_law_rows_here"] []) (M : Mg mg)  :
    Cal P w K mg base CX0 1 "_law_tops" ["_law_rows_here"] (sp__law_tops K) := by
  refine ⟨f, fd, F.ok sc__law_tops (fun vs H Q E h => ?_) (fun cdv A' outer s H vs Q E hr h => ?_), hm, F.kp, hb⟩
  · unfold sp__law_tops at h
    first
      | (obtain ⟨rfl, _⟩ := h; rfl)
      | (obtain ⟨_, rfl, _⟩ := h; rfl)
      | (obtain ⟨_, _, rfl, _⟩ := h; rfl)
      | (obtain ⟨_, _, _, rfl, _⟩ := h; rfl)
      | (obtain ⟨_, _, _, _, rfl, _⟩ := h; rfl)
      | (obtain ⟨_, _, _, _, _, rfl, _⟩ := h; rfl)
      | (obtain ⟨_, _, _, _, _, _, rfl, _⟩ := h; rfl)
      | (obtain ⟨_, _, _, _, _, _, _, rfl, _⟩ := h; rfl)
      | (obtain ⟨_, _, _, _, _, _, _, _, rfl, _⟩ := h; rfl)
      | (obtain ⟨_, _, _, _, _, _, _, _, _, rfl, _⟩ := h; rfl)
      | (obtain ⟨_, _, _, _, _, _, _, _, _, _, rfl, _⟩ := h; rfl)
      | (obtain ⟨_, _, _, _, _, _, _, _, _, _, _, rfl, _⟩ := h; rfl)
      | (obtain ⟨_, _, _, _, _, _, _, _, _, _, _, _, rfl, _⟩ := h; rfl)
      | (obtain ⟨_, _, _, _, _, _, _, _, _, _, _, _, _, rfl, _⟩ := h; rfl)
      | (obtain ⟨_, _, _, _, _, _, _, _, _, _, _, _, _, _, rfl, _⟩ := h; rfl)
      | (obtain ⟨_, _, _, _, _, _, _, _, _, _, _, _, _, _, _, rfl, _⟩ := h; rfl)
      | (obtain ⟨_, _, _, _, _, _, _, _, _, _, _, _, _, _, _, _, rfl, _⟩ := h; rfl)
      | (obtain ⟨_, _, _, _, _, _, _, _, _, _, _, _, _, _, _, _, _, rfl, _⟩ := h; rfl)
      | (obtain ⟨_, _, _, _, _, _, _, _, _, _, _, _, _, _, _, _, _, _, rfl, _⟩ := h; rfl)
      | (obtain ⟨_, _, _, _, _, _, _, _, _, _, _, _, _, _, _, _, _, _, _, rfl, _⟩ := h; rfl)
      | (obtain ⟨_, _, _, _, _, _, _, _, _, _, _, _, _, _, _, _, _, _, _, _, rfl, _⟩ := h; rfl)
      | (obtain ⟨_, _, _, _, _, _, _, _, _, _, _, _, _, _, _, _, _, _, _, _, _, rfl, _⟩ := h; rfl)
      | (obtain ⟨_, _, _, _, _, _, _, _, _, _, _, _, _, _, _, _, _, _, _, _, _, _, rfl, _⟩ := h; rfl)
      | (obtain ⟨_, _, _, _, _, _, _, _, _, _, _, _, _, _, _, _, _, _, _, _, _, _, _, rfl, _⟩ := h; rfl)
      | (obtain ⟨_, _, _, _, _, _, _, _, _, _, _, _, _, _, _, _, _, _, _, _, _, _, _, _, rfl, _⟩ := h; rfl)
      | (obtain ⟨_, _, _, _, _, _, _, _, _, _, _, _, _, _, _, _, _, _, _, _, _, _, _, _, _, rfl, _⟩ := h; rfl)
      | (obtain ⟨_, _, _, _, _, _, _, _, _, _, _, _, _, _, _, _, _, _, _, _, _, _, _, _, _, _, rfl, _⟩ := h; rfl)
      | (obtain ⟨_, _, _, _, _, _, _, _, _, _, _, _, _, _, _, _, _, _, _, _, _, _, _, _, _, _, _, rfl, _⟩ := h; rfl)
  have hu := hu_of hr
  have hu64 := hr.units
  have hu65 := hr.u65
  have nd := sc__law_tops.nd
  exact ⟨t__law_tops K, (pss_cons (ps_set (i := 1) nd rfl (by first | exact Or.inl rfl | exact Or.inr rfl) e_dnew)
  (pss_cons (ps_for pnever rfl (pi_list (uv 0)) (pg_name (i := 2) nd rfl (by first | exact Or.inl rfl | exact Or.inr rfl))
  (pss_cons (ps_for pnever rfl (pi_list (e_lst (pa_cons (pe_ix x_tup (uv 2) pe_int plainIx) (pa_cons (pe_ix x_tup (uv 2) pe_int plainIx) pa_nil)))) (pg_name (i := 3) nd rfl (by first | exact Or.inl rfl | exact Or.inr rfl))
  (pss_one (s_if (t_cmp (c_dnotin hu (uv 3) (uv 1)))
  (pss_one (s_dput hu (uv 1) (uv 3) (e_tup (pa_cons (uv 3) (pa_cons pe_int pa_nil))) rfl))
  pss_nil)))
  (pss_cons (ps_set (i := 4) nd rfl (by first | exact Or.inl rfl | exact Or.inr rfl) (u_dget hu (uv 1) (pe_ix x_tup (uv 2) pe_int plainIx)))
  (pss_cons (ps_set (i := 5) nd rfl (by first | exact Or.inl rfl | exact Or.inr rfl) (u_dget hu (uv 1) (pe_ix x_tup (uv 2) pe_int plainIx)))
  (pss_one (s_if (t_cmp (c_op o_neS (pe_ix x_tup (uv 4) pe_int plainIx) (pe_ix x_tup (uv 5) pe_int plainIx)))
  (pss_cons (ps_set (i := 6) nd rfl (by first | exact Or.inl rfl | exact Or.inr rfl) (pe_op o_sub (pe_op o_add (pe_ix x_tup (uv 4) pe_int plainIx) (pe_ix x_tup (uv 2) pe_int plainIx)) (pe_ix x_tup (uv 5) pe_int plainIx)))
  (pss_one (ps_for pnever rfl (pi_list (pe_callTy (b_listD rfl) (by rfl) M.m_list (by decide +kernel) (pa_cons (uv 1) pa_nil))) (pg_name (i := 3) nd rfl (by first | exact Or.inl rfl | exact Or.inr rfl))
  (pss_one (s_if (t_cmp (c_op o_eqS (pe_ix x_tup (u_dget hu (uv 1) (uv 3)) pe_int plainIx) (pe_ix x_tup (uv 5) pe_int plainIx)))
  (pss_one (s_dput hu (uv 1) (uv 3) (e_tup (pa_cons (pe_ix x_tup (uv 4) pe_int plainIx) (pa_cons (pe_op o_add (pe_ix x_tup (u_dget hu (uv 1) (uv 3)) pe_int plainIx) (uv 6)) pa_nil))) rfl))
  pss_nil)))))
  pss_nil))))))
  (pss_one (ps_ret (uv 1))))), rd__law_tops h⟩
abbrev s__law_gap : Stmt := top 31
theorem sc__law_gap : FnScope N__law_gap ["_law_tops_here", "_law_one", "_law_other"] (defScope s__law_gap) := ⟨rfl, rfl, rfl, by decide +kernel, rfl, by decide +kernel, by decide +kernel⟩
theorem ok__law_gap {f : Addr} {fd : FuncData} (F : Fun K "_law_gap" "_law_gap" s__law_gap f fd) (hm : mg "_law_gap" = some (.ref f)) (hb : Binds K fd ["_law_tops_here", "_law_one", "_law_other"] []) (M : Mg mg)  :
    Cal P w K mg base CX0 1 "_law_gap" ["_law_tops_here", "_law_one", "_law_other"] (sp__law_gap K) := by
  refine ⟨f, fd, F.ok sc__law_gap (fun vs H Q E h => ?_) (fun cdv A' outer s H vs Q E hr h => ?_), hm, F.kp, hb⟩
  · unfold sp__law_gap at h
    first
      | (obtain ⟨rfl, _⟩ := h; rfl)
      | (obtain ⟨_, rfl, _⟩ := h; rfl)
      | (obtain ⟨_, _, rfl, _⟩ := h; rfl)
      | (obtain ⟨_, _, _, rfl, _⟩ := h; rfl)
      | (obtain ⟨_, _, _, _, rfl, _⟩ := h; rfl)
      | (obtain ⟨_, _, _, _, _, rfl, _⟩ := h; rfl)
      | (obtain ⟨_, _, _, _, _, _, rfl, _⟩ := h; rfl)
      | (obtain ⟨_, _, _, _, _, _, _, rfl, _⟩ := h; rfl)
      | (obtain ⟨_, _, _, _, _, _, _, _, rfl, _⟩ := h; rfl)
      | (obtain ⟨_, _, _, _, _, _, _, _, _, rfl, _⟩ := h; rfl)
      | (obtain ⟨_, _, _, _, _, _, _, _, _, _, rfl, _⟩ := h; rfl)
      | (obtain ⟨_, _, _, _, _, _, _, _, _, _, _, rfl, _⟩ := h; rfl)
      | (obtain ⟨_, _, _, _, _, _, _, _, _, _, _, _, rfl, _⟩ := h; rfl)
      | (obtain ⟨_, _, _, _, _, _, _, _, _, _, _, _, _, rfl, _⟩ := h; rfl)
      | (obtain ⟨_, _, _, _, _, _, _, _, _, _, _, _, _, _, rfl, _⟩ := h; rfl)
      | (obtain ⟨_, _, _, _, _, _, _, _, _, _, _, _, _, _, _, rfl, _⟩ := h; rfl)
      | (obtain ⟨_, _, _, _, _, _, _, _, _, _, _, _, _, _, _, _, rfl, _⟩ := h; rfl)
      | (obtain ⟨_, _, _, _, _, _, _, _, _, _, _, _, _, _, _, _, _, rfl, _⟩ := h; rfl)
      | (obtain ⟨_, _, _, _, _, _, _, _, _, _, _, _, _, _, _, _, _, _, rfl, _⟩ := h; rfl)
      | (obtain ⟨_, _, _, _, _, _, _, _, _, _, _, _, _, _, _, _, _, _, _, rfl, _⟩ := h; rfl)
      | (obtain ⟨_, _, _, _, _, _, _, _, _, _, _, _, _, _, _, _, _, _, _, _, rfl, _⟩ := h; rfl)
      | (obtain ⟨_, _, _, _, _, _, _, _, _, _, _, _, _, _, _, _, _, _, _, _, _, rfl, _⟩ := h; rfl)
      | (obtain ⟨_, _, _, _, _, _, _, _, _, _, _, _, _, _, _, _, _, _, _, _, _, _, rfl, _⟩ := h; rfl)
      | (obtain ⟨_, _, _, _, _, _, _, _, _, _, _, _, _, _, _, _, _, _, _, _, _, _, _, rfl, _⟩ := h; rfl)
      | (obtain ⟨_, _, _, _, _, _, _, _, _, _, _, _, _, _, _, _, _, _, _, _, _, _, _, _, rfl, _⟩ := h; rfl)
      | (obtain ⟨_, _, _, _, _, _, _, _, _, _, _, _, _, _, _, _, _, _, _, _, _, _, _, _, _, rfl, _⟩ := h; rfl)
      | (obtain ⟨_, _, _, _, _, _, _, _, _, _, _, _, _, _, _, _, _, _, _, _, _, _, _, _, _, _, rfl, _⟩ := h; rfl)
      | (obtain ⟨_, _, _, _, _, _, _, _, _, _, _, _, _, _, _, _, _, _, _, _, _, _, _, _, _, _, _, rfl, _⟩ := h; rfl)
  have hu := hu_of hr
  have hu64 := hr.units
  have hu65 := hr.u65
  have nd := sc__law_gap.nd
  exact ⟨t__law_gap K, (pss_cons (s_if (t_cmp (c_op o_eqS (uv 1) (uv 2)))
  (pss_one (ps_ret pe_int))
  pss_nil)
  (pss_cons (s_if (PW.pt (w_or (t_cmp (c_dnotin hu (uv 1) (uv 0))) (w_or (t_cmp (c_dnotin hu (uv 2) (uv 0))) (pw_or1 (t_cmp (c_op o_neS (pe_ix x_tup (u_dget hu (uv 0) (uv 1)) pe_int plainIx) (pe_ix x_tup (u_dget hu (uv 0) (uv 2)) pe_int plainIx)))))))
  (pss_one (ps_ret pe_non))
  pss_nil)
  (pss_one (ps_ret (pe_op o_sub (pe_ix x_tup (u_dget hu (uv 0) (uv 2)) pe_int plainIx) (pe_ix x_tup (u_dget hu (uv 0) (uv 1)) pe_int plainIx)))))), rd__law_gap h⟩
abbrev s__law_step : Stmt := top 32
theorem sc__law_step : FnScope N__law_step ["_law_step_here", "_law_rows_here"] (defScope s__law_step) := ⟨rfl, rfl, rfl, by decide +kernel, rfl, by decide +kernel, by decide +kernel⟩
theorem ok__law_step {f : Addr} {fd : FuncData} (F : Fun K "_law_step" "_law_step" s__law_step f fd) (hm : mg "_law_step" = some (.ref f)) (hb : Binds K fd ["_law_step_here", "_law_rows_here"] []) (M : Mg mg) (c__law_whole : Cal P w K mg base CX0 1 "_law_whole" ["_law_found"] (sp__law_whole K)) :
    Cal P w K mg base CX0 2 "_law_step" ["_law_step_here", "_law_rows_here"] (sp__law_step K) := by
  refine ⟨f, fd, F.ok sc__law_step (fun vs H Q E h => ?_) (fun cdv A' outer s H vs Q E hr h => ?_), hm, F.kp, hb⟩
  · unfold sp__law_step at h
    first
      | (obtain ⟨rfl, _⟩ := h; rfl)
      | (obtain ⟨_, rfl, _⟩ := h; rfl)
      | (obtain ⟨_, _, rfl, _⟩ := h; rfl)
      | (obtain ⟨_, _, _, rfl, _⟩ := h; rfl)
      | (obtain ⟨_, _, _, _, rfl, _⟩ := h; rfl)
      | (obtain ⟨_, _, _, _, _, rfl, _⟩ := h; rfl)
      | (obtain ⟨_, _, _, _, _, _, rfl, _⟩ := h; rfl)
      | (obtain ⟨_, _, _, _, _, _, _, rfl, _⟩ := h; rfl)
      | (obtain ⟨_, _, _, _, _, _, _, _, rfl, _⟩ := h; rfl)
      | (obtain ⟨_, _, _, _, _, _, _, _, _, rfl, _⟩ := h; rfl)
      | (obtain ⟨_, _, _, _, _, _, _, _, _, _, rfl, _⟩ := h; rfl)
      | (obtain ⟨_, _, _, _, _, _, _, _, _, _, _, rfl, _⟩ := h; rfl)
      | (obtain ⟨_, _, _, _, _, _, _, _, _, _, _, _, rfl, _⟩ := h; rfl)
      | (obtain ⟨_, _, _, _, _, _, _, _, _, _, _, _, _, rfl, _⟩ := h; rfl)
      | (obtain ⟨_, _, _, _, _, _, _, _, _, _, _, _, _, _, rfl, _⟩ := h; rfl)
      | (obtain ⟨_, _, _, _, _, _, _, _, _, _, _, _, _, _, _, rfl, _⟩ := h; rfl)
      | (obtain ⟨_, _, _, _, _, _, _, _, _, _, _, _, _, _, _, _, rfl, _⟩ := h; rfl)
      | (obtain ⟨_, _, _, _, _, _, _, _, _, _, _, _, _, _, _, _, _, rfl, _⟩ := h; rfl)
      | (obtain ⟨_, _, _, _, _, _, _, _, _, _, _, _, _, _, _, _, _, _, rfl, _⟩ := h; rfl)
      | (obtain ⟨_, _, _, _, _, _, _, _, _, _, _, _, _, _, _, _, _, _, _, rfl, _⟩ := h; rfl)
      | (obtain ⟨_, _, _, _, _, _, _, _, _, _, _, _, _, _, _, _, _, _, _, _, rfl, _⟩ := h; rfl)
      | (obtain ⟨_, _, _, _, _, _, _, _, _, _, _, _, _, _, _, _, _, _, _, _, _, rfl, _⟩ := h; rfl)
      | (obtain ⟨_, _, _, _, _, _, _, _, _, _, _, _, _, _, _, _, _, _, _, _, _, _, rfl, _⟩ := h; rfl)
      | (obtain ⟨_, _, _, _, _, _, _, _, _, _, _, _, _, _, _, _, _, _, _, _, _, _, _, rfl, _⟩ := h; rfl)
      | (obtain ⟨_, _, _, _, _, _, _, _, _, _, _, _, _, _, _, _, _, _, _, _, _, _, _, _, rfl, _⟩ := h; rfl)
      | (obtain ⟨_, _, _, _, _, _, _, _, _, _, _, _, _, _, _, _, _, _, _, _, _, _, _, _, _, rfl, _⟩ := h; rfl)
      | (obtain ⟨_, _, _, _, _, _, _, _, _, _, _, _, _, _, _, _, _, _, _, _, _, _, _, _, _, _, rfl, _⟩ := h; rfl)
      | (obtain ⟨_, _, _, _, _, _, _, _, _, _, _, _, _, _, _, _, _, _, _, _, _, _, _, _, _, _, _, rfl, _⟩ := h; rfl)
  have hu := hu_of hr
  have hu64 := hr.units
  have hu65 := hr.u65
  have nd := sc__law_step.nd
  exact ⟨t__law_step K, (pss_cons (s_if (PW.pt (w_or (t_not (t_val (pe_callB b_isi (by rfl) M.m_isinstance (by decide +kernel) (pa_cons (uv 0) (pa_cons (pe_bltn (v := .ty "tuple") (by rfl) M.m_tuple (by decide +kernel) rfl) pa_nil))))) (w_or (t_cmp (c_op o_neI (pe_callB l_seq (by rfl) M.m_len (by decide +kernel) (pa_cons (uv 0) pa_nil)) pe_int)) (w_or (t_not (t_val (c__law_whole.pe (hr.mono (by decide)) pass0 (pa_cons (pe_ix x_tup (uv 0) pe_int plainIx) pa_nil)))) (pw_or1 (t_not (t_val (c__law_whole.pe (hr.mono (by decide)) pass0 (pa_cons (pe_ix x_tup (uv 0) pe_int plainIx) pa_nil)))))))))
  (pss_one (ps_ret pe_bl))
  pss_nil)
  (pss_one (ps_ret (v_or (e_cmp (c_op (op_inD hu65) (uv 0) (uv 1))) (pe_one (e_cmp (c_op (op_inD hu65) (e_tup (pa_cons (pe_ix x_tup (uv 0) pe_int plainIx) (pa_cons (pe_ix x_tup (uv 0) pe_int plainIx) (pa_cons (pe_ix x_tup (uv 0) pe_int plainIx) (pa_cons (pe_op o_sub pe_int (pe_ix x_tup (uv 0) pe_int plainIx)) pa_nil))))) (uv 1)))))))), rd__law_step h⟩
abbrev s__law_way : Stmt := top 33
theorem sc__law_way : FnScope N__law_way ["_law_found", "_law_rows_here", "_law_one", "_law_other"] (defScope s__law_way) := ⟨rfl, rfl, rfl, by decide +kernel, rfl, by decide +kernel, by decide +kernel⟩
theorem ok__law_way {f : Addr} {fd : FuncData} (F : Fun K "_law_way" "_law_way" s__law_way f fd) (hm : mg "_law_way" = some (.ref f)) (hb : Binds K fd ["_law_found", "_law_rows_here", "_law_one", "_law_other"] []) (M : Mg mg) (c__law_step : Cal P w K mg base CX0 2 "_law_step" ["_law_step_here", "_law_rows_here"] (sp__law_step K)) :
    Cal P w K mg base CX0 3 "_law_way" ["_law_found", "_law_rows_here", "_law_one", "_law_other"] (sp__law_way K) := by
  refine ⟨f, fd, F.ok sc__law_way (fun vs H Q E h => ?_) (fun cdv A' outer s H vs Q E hr h => ?_), hm, F.kp, hb⟩
  · unfold sp__law_way at h
    first
      | (obtain ⟨rfl, _⟩ := h; rfl)
      | (obtain ⟨_, rfl, _⟩ := h; rfl)
      | (obtain ⟨_, _, rfl, _⟩ := h; rfl)
      | (obtain ⟨_, _, _, rfl, _⟩ := h; rfl)
      | (obtain ⟨_, _, _, _, rfl, _⟩ := h; rfl)
      | (obtain ⟨_, _, _, _, _, rfl, _⟩ := h; rfl)
      | (obtain ⟨_, _, _, _, _, _, rfl, _⟩ := h; rfl)
      | (obtain ⟨_, _, _, _, _, _, _, rfl, _⟩ := h; rfl)
      | (obtain ⟨_, _, _, _, _, _, _, _, rfl, _⟩ := h; rfl)
      | (obtain ⟨_, _, _, _, _, _, _, _, _, rfl, _⟩ := h; rfl)
      | (obtain ⟨_, _, _, _, _, _, _, _, _, _, rfl, _⟩ := h; rfl)
      | (obtain ⟨_, _, _, _, _, _, _, _, _, _, _, rfl, _⟩ := h; rfl)
      | (obtain ⟨_, _, _, _, _, _, _, _, _, _, _, _, rfl, _⟩ := h; rfl)
      | (obtain ⟨_, _, _, _, _, _, _, _, _, _, _, _, _, rfl, _⟩ := h; rfl)
      | (obtain ⟨_, _, _, _, _, _, _, _, _, _, _, _, _, _, rfl, _⟩ := h; rfl)
      | (obtain ⟨_, _, _, _, _, _, _, _, _, _, _, _, _, _, _, rfl, _⟩ := h; rfl)
      | (obtain ⟨_, _, _, _, _, _, _, _, _, _, _, _, _, _, _, _, rfl, _⟩ := h; rfl)
      | (obtain ⟨_, _, _, _, _, _, _, _, _, _, _, _, _, _, _, _, _, rfl, _⟩ := h; rfl)
      | (obtain ⟨_, _, _, _, _, _, _, _, _, _, _, _, _, _, _, _, _, _, rfl, _⟩ := h; rfl)
      | (obtain ⟨_, _, _, _, _, _, _, _, _, _, _, _, _, _, _, _, _, _, _, rfl, _⟩ := h; rfl)
      | (obtain ⟨_, _, _, _, _, _, _, _, _, _, _, _, _, _, _, _, _, _, _, _, rfl, _⟩ := h; rfl)
      | (obtain ⟨_, _, _, _, _, _, _, _, _, _, _, _, _, _, _, _, _, _, _, _, _, rfl, _⟩ := h; rfl)
      | (obtain ⟨_, _, _, _, _, _, _, _, _, _, _, _, _, _, _, _, _, _, _, _, _, _, rfl, _⟩ := h; rfl)
      | (obtain ⟨_, _, _, _, _, _, _, _, _, _, _, _, _, _, _, _, _, _, _, _, _, _, _, rfl, _⟩ := h; rfl)
      | (obtain ⟨_, _, _, _, _, _, _, _, _, _, _, _, _, _, _, _, _, _, _, _, _, _, _, _, rfl, _⟩ := h; rfl)
      | (obtain ⟨_, _, _, _, _, _, _, _, _, _, _, _, _, _, _, _, _, _, _, _, _, _, _, _, _, rfl, _⟩ := h; rfl)
      | (obtain ⟨_, _, _, _, _, _, _, _, _, _, _, _, _, _, _, _, _, _, _, _, _, _, _, _, _, _, rfl, _⟩ := h; rfl)
      | (obtain ⟨_, _, _, _, _, _, _, _, _, _, _, _, _, _, _, _, _, _, _, _, _, _, _, _, _, _, _, rfl, _⟩ := h; rfl)
  have hu := hu_of hr
  have hu64 := hr.units
  have hu65 := hr.u65
  have nd := sc__law_way.nd
  exact ⟨t__law_way K, (pss_cons (s_if (t_not (t_val (pe_callB b_isi (by rfl) M.m_isinstance (by decide +kernel) (pa_cons (uv 0) (pa_cons (pe_bltn (v := .ty "list") (by rfl) M.m_list (by decide +kernel) rfl) pa_nil)))))
  (pss_one (ps_ret pe_bl))
  pss_nil)
  (pss_cons (ps_set (i := 4) nd rfl (by first | exact Or.inl rfl | exact Or.inr rfl) e_dnew)
  (pss_cons (ps_set (i := 5) nd rfl (by first | exact Or.inl rfl | exact Or.inr rfl) (uv 2))
  (pss_cons (ps_for pnever rfl (pi_list (uv 0)) (pg_name (i := 6) nd rfl (by first | exact Or.inl rfl | exact Or.inr rfl))
  (pss_cons (s_if (PW.pt (w_or (t_not (t_val (c__law_step.pe (hr.mono (by decide)) pass0 (pa_cons (uv 6) (pa_cons (uv 1) pa_nil))))) (w_or (t_cmp (c_op o_neS (pe_ix x_tup (uv 6) pe_int plainIx) (uv 5))) (pw_or1 (t_cmp (c_din hu (uv 5) (uv 4)))))))
  (pss_one (ps_ret pe_bl))
  pss_nil)
  (pss_cons (s_dput hu (uv 4) (uv 5) pe_bl rfl)
  (pss_one (ps_set (i := 5) nd rfl (by first | exact Or.inl rfl | exact Or.inr rfl) (pe_ix x_tup (uv 6) pe_int plainIx))))))
  (pss_one (ps_ret (v_and (e_cmp (c_op o_eqS (uv 5) (uv 3))) (pe_one (e_cmp (c_dnotin hu (uv 5) (uv 4))))))))))), rd__law_way h⟩
abbrev s__law_kind : Stmt := top 34
theorem sc__law_kind : FnScope N__law_kind ["_law_e"] (defScope s__law_kind) := ⟨rfl, rfl, rfl, by decide +kernel, rfl, by decide +kernel, by decide +kernel⟩
theorem ok__law_kind {A : Ad} {f : Addr} {fd : FuncData} (F : Fun K "_law_kind" "_law_kind" s__law_kind f fd) (hm : mg "_law_kind" = some (.ref f)) (hb : Binds K fd ["_law_e"] []) (M : Mg mg) (G : Gx mg K A) (T : Tx K A)  :
    Cal P w K mg base CX0 1 "_law_kind" ["_law_e"] (sp__law_kind K A) := by
  refine ⟨f, fd, F.ok sc__law_kind (fun vs H Q E h => ?_) (fun cdv A' outer s H vs Q E hr h => ?_), hm, F.kp, hb⟩
  · unfold sp__law_kind at h
    first
      | (obtain ⟨rfl, _⟩ := h; rfl)
      | (obtain ⟨_, rfl, _⟩ := h; rfl)
      | (obtain ⟨_, _, rfl, _⟩ := h; rfl)
      | (obtain ⟨_, _, _, rfl, _⟩ := h; rfl)
      | (obtain ⟨_, _, _, _, rfl, _⟩ := h; rfl)
      | (obtain ⟨_, _, _, _, _, rfl, _⟩ := h; rfl)
      | (obtain ⟨_, _, _, _, _, _, rfl, _⟩ := h; rfl)
      | (obtain ⟨_, _, _, _, _, _, _, rfl, _⟩ := h; rfl)
      | (obtain ⟨_, _, _, _, _, _, _, _, rfl, _⟩ := h; rfl)
      | (obtain ⟨_, _, _, _, _, _, _, _, _, rfl, _⟩ := h; rfl)
      | (obtain ⟨_, _, _, _, _, _, _, _, _, _, rfl, _⟩ := h; rfl)
      | (obtain ⟨_, _, _, _, _, _, _, _, _, _, _, rfl, _⟩ := h; rfl)
      | (obtain ⟨_, _, _, _, _, _, _, _, _, _, _, _, rfl, _⟩ := h; rfl)
      | (obtain ⟨_, _, _, _, _, _, _, _, _, _, _, _, _, rfl, _⟩ := h; rfl)
      | (obtain ⟨_, _, _, _, _, _, _, _, _, _, _, _, _, _, rfl, _⟩ := h; rfl)
      | (obtain ⟨_, _, _, _, _, _, _, _, _, _, _, _, _, _, _, rfl, _⟩ := h; rfl)
      | (obtain ⟨_, _, _, _, _, _, _, _, _, _, _, _, _, _, _, _, rfl, _⟩ := h; rfl)
      | (obtain ⟨_, _, _, _, _, _, _, _, _, _, _, _, _, _, _, _, _, rfl, _⟩ := h; rfl)
      | (obtain ⟨_, _, _, _, _, _, _, _, _, _, _, _, _, _, _, _, _, _, rfl, _⟩ := h; rfl)
      | (obtain ⟨_, _, _, _, _, _, _, _, _, _, _, _, _, _, _, _, _, _, _, rfl, _⟩ := h; rfl)
      | (obtain ⟨_, _, _, _, _, _, _, _, _, _, _, _, _, _, _, _, _, _, _, _, rfl, _⟩ := h; rfl)
      | (obtain ⟨_, _, _, _, _, _, _, _, _, _, _, _, _, _, _, _, _, _, _, _, _, rfl, _⟩ := h; rfl)
      | (obtain ⟨_, _, _, _, _, _, _, _, _, _, _, _, _, _, _, _, _, _, _, _, _, _, rfl, _⟩ := h; rfl)
      | (obtain ⟨_, _, _, _, _, _, _, _, _, _, _, _, _, _, _, _, _, _, _, _, _, _, _, rfl, _⟩ := h; rfl)
      | (obtain ⟨_, _, _, _, _, _, _, _, _, _, _, _, _, _, _, _, _, _, _, _, _, _, _, _, rfl, _⟩ := h; rfl)
      | (obtain ⟨_, _, _, _, _, _, _, _, _, _, _, _, _, _, _, _, _, _, _, _, _, _, _, _, _, rfl, _⟩ := h; rfl)
      | (obtain ⟨_, _, _, _, _, _, _, _, _, _, _, _, _, _, _, _, _, _, _, _, _, _, _, _, _, _, rfl, _⟩ := h; rfl)
      | (obtain ⟨_, _, _, _, _, _, _, _, _, _, _, _, _, _, _, _, _, _, _, _, _, _, _, _, _, _, _, rfl, _⟩ := h; rfl)
  have hu := hu_of hr
  have hu64 := hr.units
  have hu65 := hr.u65
  have nd := sc__law_kind.nd
  exact ⟨t__law_kind K A, (pss_cons (ps_set (i := 1) nd rfl (by first | exact Or.inl rfl | exact Or.inr rfl) (e_lst (pa_cons (pe_callB b_isX (by rfl) M.m_isinstance (by decide +kernel) (pa_cons (uv 0) (pa_cons (pe_glob (by rfl) G.g_NoSighting rfl) pa_nil))) (pa_cons (pe_callB b_isX (by rfl) M.m_isinstance (by decide +kernel) (pa_cons (uv 0) (pa_cons (pe_glob (by rfl) G.g_Full rfl) pa_nil))) (pa_cons (pe_callB b_isX (by rfl) M.m_isinstance (by decide +kernel) (pa_cons (uv 0) (pa_cons (pe_glob (by rfl) G.g_Against rfl) pa_nil))) (pa_cons (pe_callB b_isX (by rfl) M.m_isinstance (by decide +kernel) (pa_cons (uv 0) (pa_cons (pe_glob (by rfl) G.g_NoNumber rfl) pa_nil))) pa_nil))))))
  (pss_cons (ps_set (i := 1) nd rfl (by first | exact Or.inl rfl | exact Or.inr rfl) (pe_op o_cat (uv 1) (e_lst (pa_cons (pe_callB b_isX (by rfl) M.m_isinstance (by decide +kernel) (pa_cons (uv 0) (pa_cons (pe_glob (by rfl) G.g_NoWay rfl) pa_nil))) (pa_cons (pe_callB b_isX (by rfl) M.m_isinstance (by decide +kernel) (pa_cons (uv 0) (pa_cons (pe_glob (by rfl) G.g_NoText rfl) pa_nil))) pa_nil)))))
  (pss_cons (ps_set (i := 2) nd rfl (by first | exact Or.inl rfl | exact Or.inr rfl) (e_lst (pa_cons pe_str (pa_cons pe_str (pa_cons pe_str (pa_cons pe_str (pa_cons pe_str (pa_cons pe_str pa_nil))))))))
  (pss_cons (u_setLc (i := 3) (own := [("_law_k", 4)]) (g := (gName 4)) (tt := (uT (tOp (cIxL K) (uVar 1) (uVar 4)))) rfl nd rfl rfl (sw_true rfl rfl rfl (by decide +kernel)) (pi_range1 (by rfl) M.m_range (pa_cons pe_int pa_nil)) (blkOk_by (N := N__law_kind) (sc := defScope s__law_kind) (own := [("_law_k", 4)]) (by decide +kernel)) (fun _ _ _ _ _ => (pg_name (i := 4) nd rfl (by first | exact Or.inl rfl | exact Or.inr rfl))) (fun _ _ _ _ _ => (pts_one (t_val (pe_ix x_list (uv 1) (uv 4) plainIx)))) (fun _ _ _ _ _ => (pe_ix x_list (uv 2) (uv 4) plainIx)))
  (pss_cons (s_if (PW.pt (w_or (t_cmp (c_op o_neI (pe_callB l_seq (by rfl) M.m_len (by decide +kernel) (pa_cons (uv 3) pa_nil)) pe_int)) (pw_or1 (t_not (t_val (pe_callB b_isX (by rfl) M.m_isinstance (by decide +kernel) (pa_cons (uv 0) (pa_cons (pe_bltn (v := .ty "ValueError") (by rfl) M.m_ValueError (by decide +kernel) rfl) pa_nil))))))))
  (pss_one (ps_ret pe_str))
  pss_nil)
  (pss_one (ps_ret (pe_ix x_list (uv 3) pe_int plainIx)))))))), rd__law_kind T h⟩
abbrev s__law_rows : Stmt := top 35
theorem sc__law_rows : FnScope N__law_rows ["_law_found", "_law_rows_here"] (defScope s__law_rows) := ⟨rfl, rfl, rfl, by decide +kernel, rfl, by decide +kernel, by decide +kernel⟩
theorem ok__law_rows {f : Addr} {fd : FuncData} (F : Fun K "_law_rows" "_law_rows" s__law_rows f fd) (hm : mg "_law_rows" = some (.ref f)) (hb : Binds K fd ["_law_found", "_law_rows_here"] []) (M : Mg mg) (c__law_whole : Cal P w K mg base CX0 1 "_law_whole" ["_law_found"] (sp__law_whole K)) :
    Cal P w K mg base CX0 2 "_law_rows" ["_law_found", "_law_rows_here"] (sp__law_rows K) := by
  refine ⟨f, fd, F.ok sc__law_rows (fun vs H Q E h => ?_) (fun cdv A' outer s H vs Q E hr h => ?_), hm, F.kp, hb⟩
  · unfold sp__law_rows at h
    first
      | (obtain ⟨rfl, _⟩ := h; rfl)
      | (obtain ⟨_, rfl, _⟩ := h; rfl)
      | (obtain ⟨_, _, rfl, _⟩ := h; rfl)
      | (obtain ⟨_, _, _, rfl, _⟩ := h; rfl)
      | (obtain ⟨_, _, _, _, rfl, _⟩ := h; rfl)
      | (obtain ⟨_, _, _, _, _, rfl, _⟩ := h; rfl)
      | (obtain ⟨_, _, _, _, _, _, rfl, _⟩ := h; rfl)
      | (obtain ⟨_, _, _, _, _, _, _, rfl, _⟩ := h; rfl)
      | (obtain ⟨_, _, _, _, _, _, _, _, rfl, _⟩ := h; rfl)
      | (obtain ⟨_, _, _, _, _, _, _, _, _, rfl, _⟩ := h; rfl)
      | (obtain ⟨_, _, _, _, _, _, _, _, _, _, rfl, _⟩ := h; rfl)
      | (obtain ⟨_, _, _, _, _, _, _, _, _, _, _, rfl, _⟩ := h; rfl)
      | (obtain ⟨_, _, _, _, _, _, _, _, _, _, _, _, rfl, _⟩ := h; rfl)
      | (obtain ⟨_, _, _, _, _, _, _, _, _, _, _, _, _, rfl, _⟩ := h; rfl)
      | (obtain ⟨_, _, _, _, _, _, _, _, _, _, _, _, _, _, rfl, _⟩ := h; rfl)
      | (obtain ⟨_, _, _, _, _, _, _, _, _, _, _, _, _, _, _, rfl, _⟩ := h; rfl)
      | (obtain ⟨_, _, _, _, _, _, _, _, _, _, _, _, _, _, _, _, rfl, _⟩ := h; rfl)
      | (obtain ⟨_, _, _, _, _, _, _, _, _, _, _, _, _, _, _, _, _, rfl, _⟩ := h; rfl)
      | (obtain ⟨_, _, _, _, _, _, _, _, _, _, _, _, _, _, _, _, _, _, rfl, _⟩ := h; rfl)
      | (obtain ⟨_, _, _, _, _, _, _, _, _, _, _, _, _, _, _, _, _, _, _, rfl, _⟩ := h; rfl)
      | (obtain ⟨_, _, _, _, _, _, _, _, _, _, _, _, _, _, _, _, _, _, _, _, rfl, _⟩ := h; rfl)
      | (obtain ⟨_, _, _, _, _, _, _, _, _, _, _, _, _, _, _, _, _, _, _, _, _, rfl, _⟩ := h; rfl)
      | (obtain ⟨_, _, _, _, _, _, _, _, _, _, _, _, _, _, _, _, _, _, _, _, _, _, rfl, _⟩ := h; rfl)
      | (obtain ⟨_, _, _, _, _, _, _, _, _, _, _, _, _, _, _, _, _, _, _, _, _, _, _, rfl, _⟩ := h; rfl)
      | (obtain ⟨_, _, _, _, _, _, _, _, _, _, _, _, _, _, _, _, _, _, _, _, _, _, _, _, rfl, _⟩ := h; rfl)
      | (obtain ⟨_, _, _, _, _, _, _, _, _, _, _, _, _, _, _, _, _, _, _, _, _, _, _, _, _, rfl, _⟩ := h; rfl)
      | (obtain ⟨_, _, _, _, _, _, _, _, _, _, _, _, _, _, _, _, _, _, _, _, _, _, _, _, _, _, rfl, _⟩ := h; rfl)
      | (obtain ⟨_, _, _, _, _, _, _, _, _, _, _, _, _, _, _, _, _, _, _, _, _, _, _, _, _, _, _, rfl, _⟩ := h; rfl)
  have hu := hu_of hr
  have hu64 := hr.units
  have hu65 := hr.u65
  have nd := sc__law_rows.nd
  exact ⟨t__law_rows K, (pss_cons (s_if (PW.pt (w_or (t_not (t_val (pe_callB b_isi (by rfl) M.m_isinstance (by decide +kernel) (pa_cons (uv 0) (pa_cons (pe_bltn (v := .ty "list") (by rfl) M.m_list (by decide +kernel) rfl) pa_nil))))) (pw_or1 (t_cmp (c_op (op_neD hu64) (uv 0) (uv 1))))))
  (pss_one (ps_ret pe_bl))
  pss_nil)
  (pss_cons (ps_for pnever rfl (pi_list (uv 0)) (pg_name (i := 2) nd rfl (by first | exact Or.inl rfl | exact Or.inr rfl))
  (pss_one (s_if (PW.pt (w_or (t_not (t_val (pe_callB b_isi (by rfl) M.m_isinstance (by decide +kernel) (pa_cons (uv 2) (pa_cons (pe_bltn (v := .ty "tuple") (by rfl) M.m_tuple (by decide +kernel) rfl) pa_nil))))) (w_or (t_not (t_val (c__law_whole.pe (hr.mono (by decide)) pass0 (pa_cons (pe_ix x_tup (uv 2) pe_int plainIx) pa_nil)))) (pw_or1 (t_not (t_val (c__law_whole.pe (hr.mono (by decide)) pass0 (pa_cons (pe_ix x_tup (uv 2) pe_int plainIx) pa_nil))))))))
  (pss_one (ps_ret pe_bl))
  pss_nil)))
  (pss_one (ps_ret pe_bl)))), rd__law_rows h⟩
abbrev s__law_part : Stmt := top 36
theorem sc__law_part : FnScope N__law_part ["_law_tops_here", "_law_one"] (defScope s__law_part) := ⟨rfl, rfl, rfl, by decide +kernel, rfl, by decide +kernel, by decide +kernel⟩
theorem ok__law_part {f : Addr} {fd : FuncData} (F : Fun K "_law_part" "_law_part" s__law_part f fd) (hm : mg "_law_part" = some (.ref f)) (hb : Binds K fd ["_law_tops_here", "_law_one"] []) (M : Mg mg)  :
    Cal P w K mg base CX0 1 "_law_part" ["_law_tops_here", "_law_one"] (sp__law_part K) := by
  refine ⟨f, fd, F.ok sc__law_part (fun vs H Q E h => ?_) (fun cdv A' outer s H vs Q E hr h => ?_), hm, F.kp, hb⟩
  · unfold sp__law_part at h
    first
      | (obtain ⟨rfl, _⟩ := h; rfl)
      | (obtain ⟨_, rfl, _⟩ := h; rfl)
      | (obtain ⟨_, _, rfl, _⟩ := h; rfl)
      | (obtain ⟨_, _, _, rfl, _⟩ := h; rfl)
      | (obtain ⟨_, _, _, _, rfl, _⟩ := h; rfl)
      | (obtain ⟨_, _, _, _, _, rfl, _⟩ := h; rfl)
      | (obtain ⟨_, _, _, _, _, _, rfl, _⟩ := h; rfl)
      | (obtain ⟨_, _, _, _, _, _, _, rfl, _⟩ := h; rfl)
      | (obtain ⟨_, _, _, _, _, _, _, _, rfl, _⟩ := h; rfl)
      | (obtain ⟨_, _, _, _, _, _, _, _, _, rfl, _⟩ := h; rfl)
      | (obtain ⟨_, _, _, _, _, _, _, _, _, _, rfl, _⟩ := h; rfl)
      | (obtain ⟨_, _, _, _, _, _, _, _, _, _, _, rfl, _⟩ := h; rfl)
      | (obtain ⟨_, _, _, _, _, _, _, _, _, _, _, _, rfl, _⟩ := h; rfl)
      | (obtain ⟨_, _, _, _, _, _, _, _, _, _, _, _, _, rfl, _⟩ := h; rfl)
      | (obtain ⟨_, _, _, _, _, _, _, _, _, _, _, _, _, _, rfl, _⟩ := h; rfl)
      | (obtain ⟨_, _, _, _, _, _, _, _, _, _, _, _, _, _, _, rfl, _⟩ := h; rfl)
      | (obtain ⟨_, _, _, _, _, _, _, _, _, _, _, _, _, _, _, _, rfl, _⟩ := h; rfl)
      | (obtain ⟨_, _, _, _, _, _, _, _, _, _, _, _, _, _, _, _, _, rfl, _⟩ := h; rfl)
      | (obtain ⟨_, _, _, _, _, _, _, _, _, _, _, _, _, _, _, _, _, _, rfl, _⟩ := h; rfl)
      | (obtain ⟨_, _, _, _, _, _, _, _, _, _, _, _, _, _, _, _, _, _, _, rfl, _⟩ := h; rfl)
      | (obtain ⟨_, _, _, _, _, _, _, _, _, _, _, _, _, _, _, _, _, _, _, _, rfl, _⟩ := h; rfl)
      | (obtain ⟨_, _, _, _, _, _, _, _, _, _, _, _, _, _, _, _, _, _, _, _, _, rfl, _⟩ := h; rfl)
      | (obtain ⟨_, _, _, _, _, _, _, _, _, _, _, _, _, _, _, _, _, _, _, _, _, _, rfl, _⟩ := h; rfl)
      | (obtain ⟨_, _, _, _, _, _, _, _, _, _, _, _, _, _, _, _, _, _, _, _, _, _, _, rfl, _⟩ := h; rfl)
      | (obtain ⟨_, _, _, _, _, _, _, _, _, _, _, _, _, _, _, _, _, _, _, _, _, _, _, _, rfl, _⟩ := h; rfl)
      | (obtain ⟨_, _, _, _, _, _, _, _, _, _, _, _, _, _, _, _, _, _, _, _, _, _, _, _, _, rfl, _⟩ := h; rfl)
      | (obtain ⟨_, _, _, _, _, _, _, _, _, _, _, _, _, _, _, _, _, _, _, _, _, _, _, _, _, _, rfl, _⟩ := h; rfl)
      | (obtain ⟨_, _, _, _, _, _, _, _, _, _, _, _, _, _, _, _, _, _, _, _, _, _, _, _, _, _, _, rfl, _⟩ := h; rfl)
  have hu := hu_of hr
  have hu64 := hr.units
  have hu65 := hr.u65
  have nd := sc__law_part.nd
  exact ⟨t__law_part K, (pss_cons (s_if (t_cmp (c_dnotin hu (uv 1) (uv 0)))
  (pss_one (ps_ret (e_lst (pa_cons (uv 1) pa_nil))))
  pss_nil)
  (pss_one (ps_ret (pe_callB b_sortedS (by rfl) M.m_sorted (by decide +kernel) (pa_cons (pe_lock (u_lc (own := [("_law_peg", 2)]) (g := (gName 2)) (tt := (uT (tOp kEqS (tOp (cIxT K) (uDGet (uVar 0) (uVar 2)) (tC (.int 0))) (tOp (cIxT K) (uDGet (uVar 0) (uVar 1)) (tC (.int 0)))))) rfl nd (pi_keys (uv 0)) (blkOk_by (N := N__law_part) (sc := defScope s__law_part) (own := [("_law_peg", 2)]) (by decide +kernel)) (fun _ _ _ _ _ => (pg_name (i := 2) nd rfl (by first | exact Or.inl rfl | exact Or.inr rfl))) (fun _ _ _ _ _ => (pts_one (t_cmp (c_op o_eqS (pe_ix x_tup (u_dget hu (uv 0) (uv 2)) pe_int plainIx) (pe_ix x_tup (u_dget hu (uv 0) (uv 1)) pe_int plainIx))))) (fun _ _ _ _ _ => (uv 2)))) pa_nil))))), rd__law_part h⟩
abbrev s__law_keep : Stmt := top 37
theorem sc__law_keep : FnScope N__law_keep ["_law_held", "_law_told", "_law_copied", "_law_number"] (defScope s__law_keep) := ⟨rfl, rfl, rfl, by decide +kernel, rfl, by decide +kernel, by decide +kernel⟩
theorem ok__law_keep {f : Addr} {fd : FuncData} (F : Fun K "_law_keep" "_law_keep" s__law_keep f fd) (hm : mg "_law_keep" = some (.ref f)) (hb : Binds K fd ["_law_held", "_law_told", "_law_copied", "_law_number"] []) (M : Mg mg)  :
    Cal P w K mg base CX0 1 "_law_keep" ["_law_held", "_law_told", "_law_copied", "_law_number"] (sp__law_keep K) := by
  refine ⟨f, fd, F.ok sc__law_keep (fun vs H Q E h => ?_) (fun cdv A' outer s H vs Q E hr h => ?_), hm, F.kp, hb⟩
  · unfold sp__law_keep at h
    first
      | (obtain ⟨rfl, _⟩ := h; rfl)
      | (obtain ⟨_, rfl, _⟩ := h; rfl)
      | (obtain ⟨_, _, rfl, _⟩ := h; rfl)
      | (obtain ⟨_, _, _, rfl, _⟩ := h; rfl)
      | (obtain ⟨_, _, _, _, rfl, _⟩ := h; rfl)
      | (obtain ⟨_, _, _, _, _, rfl, _⟩ := h; rfl)
      | (obtain ⟨_, _, _, _, _, _, rfl, _⟩ := h; rfl)
      | (obtain ⟨_, _, _, _, _, _, _, rfl, _⟩ := h; rfl)
      | (obtain ⟨_, _, _, _, _, _, _, _, rfl, _⟩ := h; rfl)
      | (obtain ⟨_, _, _, _, _, _, _, _, _, rfl, _⟩ := h; rfl)
      | (obtain ⟨_, _, _, _, _, _, _, _, _, _, rfl, _⟩ := h; rfl)
      | (obtain ⟨_, _, _, _, _, _, _, _, _, _, _, rfl, _⟩ := h; rfl)
      | (obtain ⟨_, _, _, _, _, _, _, _, _, _, _, _, rfl, _⟩ := h; rfl)
      | (obtain ⟨_, _, _, _, _, _, _, _, _, _, _, _, _, rfl, _⟩ := h; rfl)
      | (obtain ⟨_, _, _, _, _, _, _, _, _, _, _, _, _, _, rfl, _⟩ := h; rfl)
      | (obtain ⟨_, _, _, _, _, _, _, _, _, _, _, _, _, _, _, rfl, _⟩ := h; rfl)
      | (obtain ⟨_, _, _, _, _, _, _, _, _, _, _, _, _, _, _, _, rfl, _⟩ := h; rfl)
      | (obtain ⟨_, _, _, _, _, _, _, _, _, _, _, _, _, _, _, _, _, rfl, _⟩ := h; rfl)
      | (obtain ⟨_, _, _, _, _, _, _, _, _, _, _, _, _, _, _, _, _, _, rfl, _⟩ := h; rfl)
      | (obtain ⟨_, _, _, _, _, _, _, _, _, _, _, _, _, _, _, _, _, _, _, rfl, _⟩ := h; rfl)
      | (obtain ⟨_, _, _, _, _, _, _, _, _, _, _, _, _, _, _, _, _, _, _, _, rfl, _⟩ := h; rfl)
      | (obtain ⟨_, _, _, _, _, _, _, _, _, _, _, _, _, _, _, _, _, _, _, _, _, rfl, _⟩ := h; rfl)
      | (obtain ⟨_, _, _, _, _, _, _, _, _, _, _, _, _, _, _, _, _, _, _, _, _, _, rfl, _⟩ := h; rfl)
      | (obtain ⟨_, _, _, _, _, _, _, _, _, _, _, _, _, _, _, _, _, _, _, _, _, _, _, rfl, _⟩ := h; rfl)
      | (obtain ⟨_, _, _, _, _, _, _, _, _, _, _, _, _, _, _, _, _, _, _, _, _, _, _, _, rfl, _⟩ := h; rfl)
      | (obtain ⟨_, _, _, _, _, _, _, _, _, _, _, _, _, _, _, _, _, _, _, _, _, _, _, _, _, rfl, _⟩ := h; rfl)
      | (obtain ⟨_, _, _, _, _, _, _, _, _, _, _, _, _, _, _, _, _, _, _, _, _, _, _, _, _, _, rfl, _⟩ := h; rfl)
      | (obtain ⟨_, _, _, _, _, _, _, _, _, _, _, _, _, _, _, _, _, _, _, _, _, _, _, _, _, _, _, rfl, _⟩ := h; rfl)
  have hu := hu_of hr
  have hu64 := hr.units
  have hu65 := hr.u65
  have nd := sc__law_keep.nd
  exact ⟨t__law_keep K, (Evl.pss_cut (s_if (t_cmp (c_op o_eqI (pe_op o_mod (uv 3) pe_int) pe_int))
  (pss_one (ps_expr (pe_bm PySem.F.plainAttrs_list PySem.F.slot_list_append PySem.F.type_list_append m_append (uv 0) (pa_cons (e_lst (pa_cons (uv 1) (pa_cons (uv 2) pa_nil))) pa_nil))))
  (pss_one (ps_expr (pe_bm PySem.F.plainAttrs_list PySem.F.slot_list_append PySem.F.type_list_append m_append (uv 1) (pa_cons pe_non pa_nil)))))
  (pss_one (ps_ret pe_bl))), rd__law_keep h⟩
abbrev s__law_near : Stmt := top 38
theorem sc__law_near : FnScope N__law_near ["_law_refused", "_law_near_here", "_law_tops_here", "_law_one", "_law_held", "_law_number"] (defScope s__law_near) := ⟨rfl, rfl, rfl, by decide +kernel, rfl, by decide +kernel, by decide +kernel⟩
theorem ok__law_near {A : Ad} {f : Addr} {fd : FuncData} (F : Fun K "_law_near" "_law_near" s__law_near f fd) (hm : mg "_law_near" = some (.ref f)) (hb : Binds K fd ["_law_refused", "_law_near_here", "_law_tops_here", "_law_one", "_law_held", "_law_number"] []) (M : Mg mg) (G : Gx mg K A) (T : Tx K A) (c__law_kind : Cal P w K mg base CX0 1 "_law_kind" ["_law_e"] (sp__law_kind K A)) (c__law_part : Cal P w K mg base CX0 1 "_law_part" ["_law_tops_here", "_law_one"] (sp__law_part K)) (c__law_keep : Cal P w K mg base CX0 1 "_law_keep" ["_law_held", "_law_told", "_law_copied", "_law_number"] (sp__law_keep K)) :
    Cal P w K mg base CX0 2 "_law_near" ["_law_refused", "_law_near_here", "_law_tops_here", "_law_one", "_law_held", "_law_number"] (sp__law_near K A) := by
  refine ⟨f, fd, F.ok sc__law_near (fun vs H Q E h => ?_) (fun cdv A' outer s H vs Q E hr h => ?_), hm, F.kp, hb⟩
  · unfold sp__law_near at h
    first
      | (obtain ⟨rfl, _⟩ := h; rfl)
      | (obtain ⟨_, rfl, _⟩ := h; rfl)
      | (obtain ⟨_, _, rfl, _⟩ := h; rfl)
      | (obtain ⟨_, _, _, rfl, _⟩ := h; rfl)
      | (obtain ⟨_, _, _, _, rfl, _⟩ := h; rfl)
      | (obtain ⟨_, _, _, _, _, rfl, _⟩ := h; rfl)
      | (obtain ⟨_, _, _, _, _, _, rfl, _⟩ := h; rfl)
      | (obtain ⟨_, _, _, _, _, _, _, rfl, _⟩ := h; rfl)
      | (obtain ⟨_, _, _, _, _, _, _, _, rfl, _⟩ := h; rfl)
      | (obtain ⟨_, _, _, _, _, _, _, _, _, rfl, _⟩ := h; rfl)
      | (obtain ⟨_, _, _, _, _, _, _, _, _, _, rfl, _⟩ := h; rfl)
      | (obtain ⟨_, _, _, _, _, _, _, _, _, _, _, rfl, _⟩ := h; rfl)
      | (obtain ⟨_, _, _, _, _, _, _, _, _, _, _, _, rfl, _⟩ := h; rfl)
      | (obtain ⟨_, _, _, _, _, _, _, _, _, _, _, _, _, rfl, _⟩ := h; rfl)
      | (obtain ⟨_, _, _, _, _, _, _, _, _, _, _, _, _, _, rfl, _⟩ := h; rfl)
      | (obtain ⟨_, _, _, _, _, _, _, _, _, _, _, _, _, _, _, rfl, _⟩ := h; rfl)
      | (obtain ⟨_, _, _, _, _, _, _, _, _, _, _, _, _, _, _, _, rfl, _⟩ := h; rfl)
      | (obtain ⟨_, _, _, _, _, _, _, _, _, _, _, _, _, _, _, _, _, rfl, _⟩ := h; rfl)
      | (obtain ⟨_, _, _, _, _, _, _, _, _, _, _, _, _, _, _, _, _, _, rfl, _⟩ := h; rfl)
      | (obtain ⟨_, _, _, _, _, _, _, _, _, _, _, _, _, _, _, _, _, _, _, rfl, _⟩ := h; rfl)
      | (obtain ⟨_, _, _, _, _, _, _, _, _, _, _, _, _, _, _, _, _, _, _, _, rfl, _⟩ := h; rfl)
      | (obtain ⟨_, _, _, _, _, _, _, _, _, _, _, _, _, _, _, _, _, _, _, _, _, rfl, _⟩ := h; rfl)
      | (obtain ⟨_, _, _, _, _, _, _, _, _, _, _, _, _, _, _, _, _, _, _, _, _, _, rfl, _⟩ := h; rfl)
      | (obtain ⟨_, _, _, _, _, _, _, _, _, _, _, _, _, _, _, _, _, _, _, _, _, _, _, rfl, _⟩ := h; rfl)
      | (obtain ⟨_, _, _, _, _, _, _, _, _, _, _, _, _, _, _, _, _, _, _, _, _, _, _, _, rfl, _⟩ := h; rfl)
      | (obtain ⟨_, _, _, _, _, _, _, _, _, _, _, _, _, _, _, _, _, _, _, _, _, _, _, _, _, rfl, _⟩ := h; rfl)
      | (obtain ⟨_, _, _, _, _, _, _, _, _, _, _, _, _, _, _, _, _, _, _, _, _, _, _, _, _, _, rfl, _⟩ := h; rfl)
      | (obtain ⟨_, _, _, _, _, _, _, _, _, _, _, _, _, _, _, _, _, _, _, _, _, _, _, _, _, _, _, rfl, _⟩ := h; rfl)
  have hu := hu_of hr
  have hu64 := hr.units
  have hu65 := hr.u65
  have nd := sc__law_near.nd
  exact ⟨t__law_near K A, (pss_cons (s_if (PW.pt (w_or (t_cmp (c_op o_isN (uv 0) pe_non)) (w_or (t_cmp (c_op o_neS (c__law_kind.pe (hr.mono (by decide)) pass0 (pa_cons (uv 0) pa_nil)) pe_str)) (pw_or1 (t_not (t_val (pe_callB b_isi (by rfl) M.m_isinstance (by decide +kernel) (pa_cons (uv 1) (pa_cons (pe_bltn (v := .ty "list") (by rfl) M.m_list (by decide +kernel) rfl) pa_nil)))))))))
  (pss_one (ps_ret pe_bl))
  pss_nil)
  (pss_one (ps_ret (v_and (e_cmp (c_op (op_eqD hu64) (uv 1) (c__law_part.pe (hr.mono (by decide)) pass0 (pa_cons (uv 2) (pa_cons (uv 3) pa_nil))))) (pe_one (c__law_keep.pe (hr.mono (by decide)) pass0 (pa_cons (uv 4) (pa_cons (uv 1) (pa_cons (pe_callTy b_list (by rfl) M.m_list (by decide +kernel) (pa_cons (uv 1) pa_nil)) (pa_cons (pe_op o_div (uv 5) pe_int) pa_nil)))))))))), rd__law_near T h⟩
abbrev s__law_rise : Stmt := top 39
theorem sc__law_rise : FnScope N__law_rise ["_law_book", "_law_tops_here", "_law_one", "_law_other", "_law_held", "_law_number"] (defScope s__law_rise) := ⟨rfl, rfl, rfl, by decide +kernel, rfl, by decide +kernel, by decide +kernel⟩
theorem ok__law_rise {A : Ad} {f : Addr} {fd : FuncData} (F : Fun K "_law_rise" "_law_rise" s__law_rise f fd) (hm : mg "_law_rise" = some (.ref f)) (hb : Binds K fd ["_law_book", "_law_tops_here", "_law_one", "_law_other", "_law_held", "_law_number"] []) (M : Mg mg) (G : Gx mg K A) (T : Tx K A) (c__law_gap : Cal P w K mg base CX0 1 "_law_gap" ["_law_tops_here", "_law_one", "_law_other"] (sp__law_gap K)) (c_Book_rise : CalM P w K mg base (L2.CX P w) 5 A.Book "rise" ["self", "one", "other"] (sp_Book_rise K A)) (c__law_near : Cal P w K mg base CX0 2 "_law_near" ["_law_refused", "_law_near_here", "_law_tops_here", "_law_one", "_law_held", "_law_number"] (sp__law_near K A)) (c__law_whole : Cal P w K mg base CX0 1 "_law_whole" ["_law_found"] (sp__law_whole K)) :
    Cal P w K mg base CX0 6 "_law_rise" ["_law_book", "_law_tops_here", "_law_one", "_law_other", "_law_held", "_law_number"] (sp__law_rise K A) := by
  refine ⟨f, fd, F.ok sc__law_rise (fun vs H Q E h => ?_) (fun cdv A' outer s H vs Q E hr h => ?_), hm, F.kp, hb⟩
  · unfold sp__law_rise at h
    first
      | (obtain ⟨rfl, _⟩ := h; rfl)
      | (obtain ⟨_, rfl, _⟩ := h; rfl)
      | (obtain ⟨_, _, rfl, _⟩ := h; rfl)
      | (obtain ⟨_, _, _, rfl, _⟩ := h; rfl)
      | (obtain ⟨_, _, _, _, rfl, _⟩ := h; rfl)
      | (obtain ⟨_, _, _, _, _, rfl, _⟩ := h; rfl)
      | (obtain ⟨_, _, _, _, _, _, rfl, _⟩ := h; rfl)
      | (obtain ⟨_, _, _, _, _, _, _, rfl, _⟩ := h; rfl)
      | (obtain ⟨_, _, _, _, _, _, _, _, rfl, _⟩ := h; rfl)
      | (obtain ⟨_, _, _, _, _, _, _, _, _, rfl, _⟩ := h; rfl)
      | (obtain ⟨_, _, _, _, _, _, _, _, _, _, rfl, _⟩ := h; rfl)
      | (obtain ⟨_, _, _, _, _, _, _, _, _, _, _, rfl, _⟩ := h; rfl)
      | (obtain ⟨_, _, _, _, _, _, _, _, _, _, _, _, rfl, _⟩ := h; rfl)
      | (obtain ⟨_, _, _, _, _, _, _, _, _, _, _, _, _, rfl, _⟩ := h; rfl)
      | (obtain ⟨_, _, _, _, _, _, _, _, _, _, _, _, _, _, rfl, _⟩ := h; rfl)
      | (obtain ⟨_, _, _, _, _, _, _, _, _, _, _, _, _, _, _, rfl, _⟩ := h; rfl)
      | (obtain ⟨_, _, _, _, _, _, _, _, _, _, _, _, _, _, _, _, rfl, _⟩ := h; rfl)
      | (obtain ⟨_, _, _, _, _, _, _, _, _, _, _, _, _, _, _, _, _, rfl, _⟩ := h; rfl)
      | (obtain ⟨_, _, _, _, _, _, _, _, _, _, _, _, _, _, _, _, _, _, rfl, _⟩ := h; rfl)
      | (obtain ⟨_, _, _, _, _, _, _, _, _, _, _, _, _, _, _, _, _, _, _, rfl, _⟩ := h; rfl)
      | (obtain ⟨_, _, _, _, _, _, _, _, _, _, _, _, _, _, _, _, _, _, _, _, rfl, _⟩ := h; rfl)
      | (obtain ⟨_, _, _, _, _, _, _, _, _, _, _, _, _, _, _, _, _, _, _, _, _, rfl, _⟩ := h; rfl)
      | (obtain ⟨_, _, _, _, _, _, _, _, _, _, _, _, _, _, _, _, _, _, _, _, _, _, rfl, _⟩ := h; rfl)
      | (obtain ⟨_, _, _, _, _, _, _, _, _, _, _, _, _, _, _, _, _, _, _, _, _, _, _, rfl, _⟩ := h; rfl)
      | (obtain ⟨_, _, _, _, _, _, _, _, _, _, _, _, _, _, _, _, _, _, _, _, _, _, _, _, rfl, _⟩ := h; rfl)
      | (obtain ⟨_, _, _, _, _, _, _, _, _, _, _, _, _, _, _, _, _, _, _, _, _, _, _, _, _, rfl, _⟩ := h; rfl)
      | (obtain ⟨_, _, _, _, _, _, _, _, _, _, _, _, _, _, _, _, _, _, _, _, _, _, _, _, _, _, rfl, _⟩ := h; rfl)
      | (obtain ⟨_, _, _, _, _, _, _, _, _, _, _, _, _, _, _, _, _, _, _, _, _, _, _, _, _, _, _, rfl, _⟩ := h; rfl)
  have hu := hu_of hr
  have hu64 := hr.units
  have hu65 := hr.u65
  have nd := sc__law_rise.nd
  exact ⟨t__law_rise K A, (pss_cons (ps_set (i := 6) nd rfl (by first | exact Or.inl rfl | exact Or.inr rfl) (c__law_gap.pe (hr.mono (by decide)) pass0 (pa_cons (uv 1) (pa_cons (uv 2) (pa_cons (uv 3) pa_nil)))))
  (pss_cons (ps_set (i := 7) nd rfl (by first | exact Or.inl rfl | exact Or.inr rfl) pe_non)
  (pss_cons (ps_set (i := 8) nd rfl (by first | exact Or.inl rfl | exact Or.inr rfl) pe_non)
  (pss_cons (ps_set (i := 9) nd rfl (by first | exact Or.inl rfl | exact Or.inr rfl) (e_lst pa_nil))
  (Evl.pss_cut (ps_try_keep (i := 10) (tb := fun W => (tAsg (uMethS A.Book "rise" (sp_Book_rise K A) (WE W) (uVar 0) (tCons (uVar 2) (tCons (uVar 3) tNil))) (gName 7))) (ts := fun a cls d => (tSeq (tAsg (uVar 10) (gName 8))
  (tAsg (tXf a cls d A.NoWay "near" (uVar 10)) (gName 9)))) (Wout := fun _ _ _ _ => False) rfl rfl rfl nd rfl rfl ⟨rfl, by decide, .inl G.g_NoWay⟩ takes0 (fun W pn xe tk _ => (pss_one (ps_set (i := 7) nd rfl (by first | exact Or.inl rfl | exact Or.inr rfl) (c_Book_rise.peS T.cl (hr.mono (by decide)) (fun σ => passAt tk σ) (uv 0) (pa_cons (uv 2) (pa_cons (uv 3) pa_nil))))))
  (fun a oe cls d pn hz hf => (pss_cons (ps_set (i := 8) nd rfl (by first | exact Or.inl rfl | exact Or.inr rfl) (uv 10))
  (pss_one (ps_set (i := 9) nd rfl (by first | exact Or.inl rfl | exact Or.inr rfl) (pe_xf (C := A.NoWay) (T.xf .way) T.n_near hz hf (uv 10)))))))
  (pss_cons (s_if (t_cmp (c_op o_isN (uv 6) pe_non))
  (pss_one (ps_ret (c__law_near.pe (hr.mono (by decide)) pass0 (pa_cons (uv 8) (pa_cons (uv 9) (pa_cons (uv 1) (pa_cons (uv 2) (pa_cons (uv 4) (pa_cons (uv 5) pa_nil)))))))))
  pss_nil)
  (pss_one (ps_ret (v_and (e_cmp (c_op o_isN (uv 8) pe_non)) (v_and (c__law_whole.pe (hr.mono (by decide)) pass0 (pa_cons (uv 7) pa_nil)) (pe_one (e_cmp (c_op (op_eqD hu64) (uv 7) (uv 6)))))))))))))), rd__law_rise T h⟩
abbrev s__law_parts : Stmt := top 40
theorem sc__law_parts : FnScope N__law_parts ["_law_tops_here"] (defScope s__law_parts) := ⟨rfl, rfl, rfl, by decide +kernel, rfl, by decide +kernel, by decide +kernel⟩
theorem ok__law_parts {f : Addr} {fd : FuncData} (F : Fun K "_law_parts" "_law_parts" s__law_parts f fd) (hm : mg "_law_parts" = some (.ref f)) (hb : Binds K fd ["_law_tops_here"] []) (M : Mg mg) (c__law_part : Cal P w K mg base CX0 1 "_law_part" ["_law_tops_here", "_law_one"] (sp__law_part K)) :
    Cal P w K mg base CX0 2 "_law_parts" ["_law_tops_here"] (sp__law_parts K) := by
  refine ⟨f, fd, F.ok sc__law_parts (fun vs H Q E h => ?_) (fun cdv A' outer s H vs Q E hr h => ?_), hm, F.kp, hb⟩
  · unfold sp__law_parts at h
    first
      | (obtain ⟨rfl, _⟩ := h; rfl)
      | (obtain ⟨_, rfl, _⟩ := h; rfl)
      | (obtain ⟨_, _, rfl, _⟩ := h; rfl)
      | (obtain ⟨_, _, _, rfl, _⟩ := h; rfl)
      | (obtain ⟨_, _, _, _, rfl, _⟩ := h; rfl)
      | (obtain ⟨_, _, _, _, _, rfl, _⟩ := h; rfl)
      | (obtain ⟨_, _, _, _, _, _, rfl, _⟩ := h; rfl)
      | (obtain ⟨_, _, _, _, _, _, _, rfl, _⟩ := h; rfl)
      | (obtain ⟨_, _, _, _, _, _, _, _, rfl, _⟩ := h; rfl)
      | (obtain ⟨_, _, _, _, _, _, _, _, _, rfl, _⟩ := h; rfl)
      | (obtain ⟨_, _, _, _, _, _, _, _, _, _, rfl, _⟩ := h; rfl)
      | (obtain ⟨_, _, _, _, _, _, _, _, _, _, _, rfl, _⟩ := h; rfl)
      | (obtain ⟨_, _, _, _, _, _, _, _, _, _, _, _, rfl, _⟩ := h; rfl)
      | (obtain ⟨_, _, _, _, _, _, _, _, _, _, _, _, _, rfl, _⟩ := h; rfl)
      | (obtain ⟨_, _, _, _, _, _, _, _, _, _, _, _, _, _, rfl, _⟩ := h; rfl)
      | (obtain ⟨_, _, _, _, _, _, _, _, _, _, _, _, _, _, _, rfl, _⟩ := h; rfl)
      | (obtain ⟨_, _, _, _, _, _, _, _, _, _, _, _, _, _, _, _, rfl, _⟩ := h; rfl)
      | (obtain ⟨_, _, _, _, _, _, _, _, _, _, _, _, _, _, _, _, _, rfl, _⟩ := h; rfl)
      | (obtain ⟨_, _, _, _, _, _, _, _, _, _, _, _, _, _, _, _, _, _, rfl, _⟩ := h; rfl)
      | (obtain ⟨_, _, _, _, _, _, _, _, _, _, _, _, _, _, _, _, _, _, _, rfl, _⟩ := h; rfl)
      | (obtain ⟨_, _, _, _, _, _, _, _, _, _, _, _, _, _, _, _, _, _, _, _, rfl, _⟩ := h; rfl)
      | (obtain ⟨_, _, _, _, _, _, _, _, _, _, _, _, _, _, _, _, _, _, _, _, _, rfl, _⟩ := h; rfl)
      | (obtain ⟨_, _, _, _, _, _, _, _, _, _, _, _, _, _, _, _, _, _, _, _, _, _, rfl, _⟩ := h; rfl)
      | (obtain ⟨_, _, _, _, _, _, _, _, _, _, _, _, _, _, _, _, _, _, _, _, _, _, _, rfl, _⟩ := h; rfl)
      | (obtain ⟨_, _, _, _, _, _, _, _, _, _, _, _, _, _, _, _, _, _, _, _, _, _, _, _, rfl, _⟩ := h; rfl)
      | (obtain ⟨_, _, _, _, _, _, _, _, _, _, _, _, _, _, _, _, _, _, _, _, _, _, _, _, _, rfl, _⟩ := h; rfl)
      | (obtain ⟨_, _, _, _, _, _, _, _, _, _, _, _, _, _, _, _, _, _, _, _, _, _, _, _, _, _, rfl, _⟩ := h; rfl)
      | (obtain ⟨_, _, _, _, _, _, _, _, _, _, _, _, _, _, _, _, _, _, _, _, _, _, _, _, _, _, _, rfl, _⟩ := h; rfl)
  have hu := hu_of hr
  have hu64 := hr.units
  have hu65 := hr.u65
  have nd := sc__law_parts.nd
  exact ⟨t__law_parts K, (pss_cons (ps_set (i := 1) nd rfl (by first | exact Or.inl rfl | exact Or.inr rfl) (e_lst pa_nil))
  (pss_cons (ps_for pnever rfl (pi_list (pe_callB (b_sortedD rfl) (by rfl) M.m_sorted (by decide +kernel) (pa_cons (uv 0) pa_nil))) (pg_name (i := 2) nd rfl (by first | exact Or.inl rfl | exact Or.inr rfl))
  (pss_cons (ps_set (i := 3) nd rfl (by first | exact Or.inl rfl | exact Or.inr rfl) (c__law_part.pe (hr.mono (by decide)) pass0 (pa_cons (uv 0) (pa_cons (uv 2) pa_nil))))
  (pss_one (s_if (t_cmp (c_op o_eqS (pe_ix x_list (uv 3) pe_int plainIx) (uv 2)))
  (pss_one (ps_expr (pe_bm PySem.F.plainAttrs_list PySem.F.slot_list_append PySem.F.type_list_append m_append (uv 1) (pa_cons (uv 3) pa_nil))))
  pss_nil))))
  (pss_one (ps_ret (uv 1))))), rd__law_parts h⟩
abbrev s__law_alike : Stmt := top 41
theorem sc__law_alike : FnScope N__law_alike ["_law_found", "_law_due"] (defScope s__law_alike) := ⟨rfl, rfl, rfl, by decide +kernel, rfl, by decide +kernel, by decide +kernel⟩
theorem ok__law_alike {f : Addr} {fd : FuncData} (F : Fun K "_law_alike" "_law_alike" s__law_alike f fd) (hm : mg "_law_alike" = some (.ref f)) (hb : Binds K fd ["_law_found", "_law_due"] []) (M : Mg mg)  :
    Cal P w K mg base CX0 1 "_law_alike" ["_law_found", "_law_due"] (sp__law_alike K) := by
  refine ⟨f, fd, F.ok sc__law_alike (fun vs H Q E h => ?_) (fun cdv A' outer s H vs Q E hr h => ?_), hm, F.kp, hb⟩
  · unfold sp__law_alike at h
    first
      | (obtain ⟨rfl, _⟩ := h; rfl)
      | (obtain ⟨_, rfl, _⟩ := h; rfl)
      | (obtain ⟨_, _, rfl, _⟩ := h; rfl)
      | (obtain ⟨_, _, _, rfl, _⟩ := h; rfl)
      | (obtain ⟨_, _, _, _, rfl, _⟩ := h; rfl)
      | (obtain ⟨_, _, _, _, _, rfl, _⟩ := h; rfl)
      | (obtain ⟨_, _, _, _, _, _, rfl, _⟩ := h; rfl)
      | (obtain ⟨_, _, _, _, _, _, _, rfl, _⟩ := h; rfl)
      | (obtain ⟨_, _, _, _, _, _, _, _, rfl, _⟩ := h; rfl)
      | (obtain ⟨_, _, _, _, _, _, _, _, _, rfl, _⟩ := h; rfl)
      | (obtain ⟨_, _, _, _, _, _, _, _, _, _, rfl, _⟩ := h; rfl)
      | (obtain ⟨_, _, _, _, _, _, _, _, _, _, _, rfl, _⟩ := h; rfl)
      | (obtain ⟨_, _, _, _, _, _, _, _, _, _, _, _, rfl, _⟩ := h; rfl)
      | (obtain ⟨_, _, _, _, _, _, _, _, _, _, _, _, _, rfl, _⟩ := h; rfl)
      | (obtain ⟨_, _, _, _, _, _, _, _, _, _, _, _, _, _, rfl, _⟩ := h; rfl)
      | (obtain ⟨_, _, _, _, _, _, _, _, _, _, _, _, _, _, _, rfl, _⟩ := h; rfl)
      | (obtain ⟨_, _, _, _, _, _, _, _, _, _, _, _, _, _, _, _, rfl, _⟩ := h; rfl)
      | (obtain ⟨_, _, _, _, _, _, _, _, _, _, _, _, _, _, _, _, _, rfl, _⟩ := h; rfl)
      | (obtain ⟨_, _, _, _, _, _, _, _, _, _, _, _, _, _, _, _, _, _, rfl, _⟩ := h; rfl)
      | (obtain ⟨_, _, _, _, _, _, _, _, _, _, _, _, _, _, _, _, _, _, _, rfl, _⟩ := h; rfl)
      | (obtain ⟨_, _, _, _, _, _, _, _, _, _, _, _, _, _, _, _, _, _, _, _, rfl, _⟩ := h; rfl)
      | (obtain ⟨_, _, _, _, _, _, _, _, _, _, _, _, _, _, _, _, _, _, _, _, _, rfl, _⟩ := h; rfl)
      | (obtain ⟨_, _, _, _, _, _, _, _, _, _, _, _, _, _, _, _, _, _, _, _, _, _, rfl, _⟩ := h; rfl)
      | (obtain ⟨_, _, _, _, _, _, _, _, _, _, _, _, _, _, _, _, _, _, _, _, _, _, _, rfl, _⟩ := h; rfl)
      | (obtain ⟨_, _, _, _, _, _, _, _, _, _, _, _, _, _, _, _, _, _, _, _, _, _, _, _, rfl, _⟩ := h; rfl)
      | (obtain ⟨_, _, _, _, _, _, _, _, _, _, _, _, _, _, _, _, _, _, _, _, _, _, _, _, _, rfl, _⟩ := h; rfl)
      | (obtain ⟨_, _, _, _, _, _, _, _, _, _, _, _, _, _, _, _, _, _, _, _, _, _, _, _, _, _, rfl, _⟩ := h; rfl)
      | (obtain ⟨_, _, _, _, _, _, _, _, _, _, _, _, _, _, _, _, _, _, _, _, _, _, _, _, _, _, _, rfl, _⟩ := h; rfl)
  have hu := hu_of hr
  have hu64 := hr.units
  have hu65 := hr.u65
  have nd := sc__law_alike.nd
  exact ⟨t__law_alike K, (pss_cons (s_if (PW.pt (w_or (t_not (t_val (pe_callB b_isi (by rfl) M.m_isinstance (by decide +kernel) (pa_cons (uv 0) (pa_cons (pe_bltn (v := .ty "list") (by rfl) M.m_list (by decide +kernel) rfl) pa_nil))))) (pw_or1 (t_cmp (c_op (op_neD hu64) (uv 0) (uv 1))))))
  (pss_one (ps_ret pe_bl))
  pss_nil)
  (pss_one (ps_ret (e_cmp (c_op (op_eqD hu64) (u_lc (own := [("_law_part_here", 2)]) (g := (gName 2)) (tt := (uNot (uT (tCB (cIsi K) (tCons (uVar 2) (tCons (tC (.ty "list")) tNil)))))) rfl nd (pi_list (uv 0)) (blkOk_by (N := N__law_alike) (sc := defScope s__law_alike) (own := [("_law_part_here", 2)]) (by decide +kernel)) (fun _ _ _ _ _ => (pg_name (i := 2) nd rfl (by first | exact Or.inl rfl | exact Or.inr rfl))) (fun _ _ _ _ _ => (pts_one (t_not (t_val (pe_callB b_isi (by rfl) M.m_isinstance (by decide +kernel) (pa_cons (uv 2) (pa_cons (pe_bltn (v := .ty "list") (by rfl) M.m_list (by decide +kernel) rfl) pa_nil))))))) (fun _ _ _ _ _ => (uv 2))) (e_lst pa_nil)))))), rd__law_alike h⟩
abbrev s__law_heights : Stmt := top 42
theorem sc__law_heights : FnScope N__law_heights ["_law_found", "_law_rows_here", "_law_tops_here"] (defScope s__law_heights) := ⟨rfl, rfl, rfl, by decide +kernel, rfl, by decide +kernel, by decide +kernel⟩
theorem ok__law_heights {f : Addr} {fd : FuncData} (F : Fun K "_law_heights" "_law_heights" s__law_heights f fd) (hm : mg "_law_heights" = some (.ref f)) (hb : Binds K fd ["_law_found", "_law_rows_here", "_law_tops_here"] []) (M : Mg mg) (c__law_whole : Cal P w K mg base CX0 1 "_law_whole" ["_law_found"] (sp__law_whole K)) (c__law_parts : Cal P w K mg base CX0 2 "_law_parts" ["_law_tops_here"] (sp__law_parts K)) :
    Cal P w K mg base CX0 3 "_law_heights" ["_law_found", "_law_rows_here", "_law_tops_here"] (sp__law_heights K) := by
  refine ⟨f, fd, F.ok sc__law_heights (fun vs H Q E h => ?_) (fun cdv A' outer s H vs Q E hr h => ?_), hm, F.kp, hb⟩
  · unfold sp__law_heights at h
    first
      | (obtain ⟨rfl, _⟩ := h; rfl)
      | (obtain ⟨_, rfl, _⟩ := h; rfl)
      | (obtain ⟨_, _, rfl, _⟩ := h; rfl)
      | (obtain ⟨_, _, _, rfl, _⟩ := h; rfl)
      | (obtain ⟨_, _, _, _, rfl, _⟩ := h; rfl)
      | (obtain ⟨_, _, _, _, _, rfl, _⟩ := h; rfl)
      | (obtain ⟨_, _, _, _, _, _, rfl, _⟩ := h; rfl)
      | (obtain ⟨_, _, _, _, _, _, _, rfl, _⟩ := h; rfl)
      | (obtain ⟨_, _, _, _, _, _, _, _, rfl, _⟩ := h; rfl)
      | (obtain ⟨_, _, _, _, _, _, _, _, _, rfl, _⟩ := h; rfl)
      | (obtain ⟨_, _, _, _, _, _, _, _, _, _, rfl, _⟩ := h; rfl)
      | (obtain ⟨_, _, _, _, _, _, _, _, _, _, _, rfl, _⟩ := h; rfl)
      | (obtain ⟨_, _, _, _, _, _, _, _, _, _, _, _, rfl, _⟩ := h; rfl)
      | (obtain ⟨_, _, _, _, _, _, _, _, _, _, _, _, _, rfl, _⟩ := h; rfl)
      | (obtain ⟨_, _, _, _, _, _, _, _, _, _, _, _, _, _, rfl, _⟩ := h; rfl)
      | (obtain ⟨_, _, _, _, _, _, _, _, _, _, _, _, _, _, _, rfl, _⟩ := h; rfl)
      | (obtain ⟨_, _, _, _, _, _, _, _, _, _, _, _, _, _, _, _, rfl, _⟩ := h; rfl)
      | (obtain ⟨_, _, _, _, _, _, _, _, _, _, _, _, _, _, _, _, _, rfl, _⟩ := h; rfl)
      | (obtain ⟨_, _, _, _, _, _, _, _, _, _, _, _, _, _, _, _, _, _, rfl, _⟩ := h; rfl)
      | (obtain ⟨_, _, _, _, _, _, _, _, _, _, _, _, _, _, _, _, _, _, _, rfl, _⟩ := h; rfl)
      | (obtain ⟨_, _, _, _, _, _, _, _, _, _, _, _, _, _, _, _, _, _, _, _, rfl, _⟩ := h; rfl)
      | (obtain ⟨_, _, _, _, _, _, _, _, _, _, _, _, _, _, _, _, _, _, _, _, _, rfl, _⟩ := h; rfl)
      | (obtain ⟨_, _, _, _, _, _, _, _, _, _, _, _, _, _, _, _, _, _, _, _, _, _, rfl, _⟩ := h; rfl)
      | (obtain ⟨_, _, _, _, _, _, _, _, _, _, _, _, _, _, _, _, _, _, _, _, _, _, _, rfl, _⟩ := h; rfl)
      | (obtain ⟨_, _, _, _, _, _, _, _, _, _, _, _, _, _, _, _, _, _, _, _, _, _, _, _, rfl, _⟩ := h; rfl)
      | (obtain ⟨_, _, _, _, _, _, _, _, _, _, _, _, _, _, _, _, _, _, _, _, _, _, _, _, _, rfl, _⟩ := h; rfl)
      | (obtain ⟨_, _, _, _, _, _, _, _, _, _, _, _, _, _, _, _, _, _, _, _, _, _, _, _, _, _, rfl, _⟩ := h; rfl)
      | (obtain ⟨_, _, _, _, _, _, _, _, _, _, _, _, _, _, _, _, _, _, _, _, _, _, _, _, _, _, _, rfl, _⟩ := h; rfl)
  have hu := hu_of hr
  have hu64 := hr.units
  have hu65 := hr.u65
  have nd := sc__law_heights.nd
  exact ⟨t__law_heights K, (pss_cons (s_if (t_not (t_val (pe_callB b_isi (by rfl) M.m_isinstance (by decide +kernel) (pa_cons (uv 0) (pa_cons (pe_bltn (v := .ty "list") (by rfl) M.m_list (by decide +kernel) rfl) pa_nil)))))
  (pss_one (ps_ret pe_bl))
  pss_nil)
  (pss_cons (ps_set (i := 3) nd rfl (by first | exact Or.inl rfl | exact Or.inr rfl) e_dnew)
  (pss_cons (ps_for pnever rfl (pi_list (uv 0)) (pg_name (i := 4) nd rfl (by first | exact Or.inl rfl | exact Or.inr rfl))
  (pss_cons (s_if (PW.pt (w_or (t_not (t_val (pe_callB b_isi (by rfl) M.m_isinstance (by decide +kernel) (pa_cons (uv 4) (pa_cons (pe_bltn (v := .ty "tuple") (by rfl) M.m_tuple (by decide +kernel) rfl) pa_nil))))) (w_or (t_cmp (c_op o_neI (pe_callB l_seq (by rfl) M.m_len (by decide +kernel) (pa_cons (uv 4) pa_nil)) pe_int)) (pw_or1 (t_not (t_val (c__law_whole.pe (hr.mono (by decide)) pass0 (pa_cons (pe_ix x_tup (uv 4) pe_int plainIx) pa_nil))))))))
  (pss_one (ps_ret pe_bl))
  pss_nil)
  (pss_one (s_dput hu (uv 3) (pe_ix x_tup (uv 4) pe_int plainIx) (pe_ix x_tup (uv 4) pe_int plainIx) rfl))))
  (pss_cons (s_if (t_cmp (c_op (op_neD hu64) (u_lc (own := [("_law_pair", 4)]) (g := (gName 4)) (tt := tYes) rfl nd (pi_list (uv 0)) (blkOk_by (N := N__law_heights) (sc := defScope s__law_heights) (own := [("_law_pair", 4)]) (by decide +kernel)) (fun _ _ _ _ _ => (pg_name (i := 4) nd rfl (by first | exact Or.inl rfl | exact Or.inr rfl))) (fun _ _ _ _ _ => pts_nil) (fun _ _ _ _ _ => (pe_ix x_tup (uv 4) pe_int plainIx))) (pe_callB (b_sortedD rfl) (by rfl) M.m_sorted (by decide +kernel) (pa_cons (uv 2) pa_nil))))
  (pss_one (ps_ret pe_bl))
  pss_nil)
  (pss_cons (ps_for pnever rfl (pi_list (uv 1)) (pg_name (i := 5) nd rfl (by first | exact Or.inl rfl | exact Or.inr rfl))
  (pss_one (s_if (t_cmp (c_op o_neI (pe_op o_sub (u_dget hu (uv 3) (pe_ix x_tup (uv 5) pe_int plainIx)) (u_dget hu (uv 3) (pe_ix x_tup (uv 5) pe_int plainIx))) (pe_ix x_tup (uv 5) pe_int plainIx)))
  (pss_one (ps_ret pe_bl))
  pss_nil)))
  (pss_cons (ps_for pnever rfl (pi_list (c__law_parts.pe (hr.mono (by decide)) pass0 (pa_cons (uv 2) pa_nil))) (pg_name (i := 6) nd rfl (by first | exact Or.inl rfl | exact Or.inr rfl))
  (pss_one (s_if (t_cmp (c_op o_neI (u_dget hu (uv 3) (pe_ix x_list (uv 6) pe_int plainIx)) pe_int))
  (pss_one (ps_ret pe_bl))
  pss_nil)))
  (pss_one (ps_ret pe_bl)))))))), rd__law_heights h⟩
abbrev s__law_take : Stmt := top 43
theorem sc__law_take : FnScope N__law_take ["_law_book", "_law_rows_here", "_law_box", "_law_most", "_law_sighting_here", "_law_held"] (defScope s__law_take) := ⟨rfl, rfl, rfl, by decide +kernel, rfl, by decide +kernel, by decide +kernel⟩
theorem ok__law_take {A : Ad} {f : Addr} {fd : FuncData} (F : Fun K "_law_take" "_law_take" s__law_take f fd) (hm : mg "_law_take" = some (.ref f)) (hb : Binds K fd ["_law_book", "_law_rows_here", "_law_box", "_law_most", "_law_sighting_here", "_law_held"] []) (M : Mg mg) (G : Gx mg K A) (T : Tx K A) (c__law_gap : Cal P w K mg base CX0 1 "_law_gap" ["_law_tops_here", "_law_one", "_law_other"] (sp__law_gap K)) (c__law_tops : Cal P w K mg base CX0 1 "_law_tops" ["_law_rows_here"] (sp__law_tops K)) (c_Book_take : CalM P w K mg base (L2.CX P w) 4 A.Book "take" ["self", "one", "other", "rise"] (sp_Book_take K A)) (c__law_whole : Cal P w K mg base CX0 1 "_law_whole" ["_law_found"] (sp__law_whole K)) (c__law_kind : Cal P w K mg base CX0 1 "_law_kind" ["_law_e"] (sp__law_kind K A)) (c__law_way : Cal P w K mg base CX0 3 "_law_way" ["_law_found", "_law_rows_here", "_law_one", "_law_other"] (sp__law_way K)) (c__law_keep : Cal P w K mg base CX0 1 "_law_keep" ["_law_held", "_law_told", "_law_copied", "_law_number"] (sp__law_keep K)) :
    Cal P w K mg base CX0 5 "_law_take" ["_law_book", "_law_rows_here", "_law_box", "_law_most", "_law_sighting_here", "_law_held"] (sp__law_take K A) := by
  refine ⟨f, fd, F.ok sc__law_take (fun vs H Q E h => ?_) (fun cdv A' outer s H vs Q E hr h => ?_), hm, F.kp, hb⟩
  · unfold sp__law_take at h
    first
      | (obtain ⟨rfl, _⟩ := h; rfl)
      | (obtain ⟨_, rfl, _⟩ := h; rfl)
      | (obtain ⟨_, _, rfl, _⟩ := h; rfl)
      | (obtain ⟨_, _, _, rfl, _⟩ := h; rfl)
      | (obtain ⟨_, _, _, _, rfl, _⟩ := h; rfl)
      | (obtain ⟨_, _, _, _, _, rfl, _⟩ := h; rfl)
      | (obtain ⟨_, _, _, _, _, _, rfl, _⟩ := h; rfl)
      | (obtain ⟨_, _, _, _, _, _, _, rfl, _⟩ := h; rfl)
      | (obtain ⟨_, _, _, _, _, _, _, _, rfl, _⟩ := h; rfl)
      | (obtain ⟨_, _, _, _, _, _, _, _, _, rfl, _⟩ := h; rfl)
      | (obtain ⟨_, _, _, _, _, _, _, _, _, _, rfl, _⟩ := h; rfl)
      | (obtain ⟨_, _, _, _, _, _, _, _, _, _, _, rfl, _⟩ := h; rfl)
      | (obtain ⟨_, _, _, _, _, _, _, _, _, _, _, _, rfl, _⟩ := h; rfl)
      | (obtain ⟨_, _, _, _, _, _, _, _, _, _, _, _, _, rfl, _⟩ := h; rfl)
      | (obtain ⟨_, _, _, _, _, _, _, _, _, _, _, _, _, _, rfl, _⟩ := h; rfl)
      | (obtain ⟨_, _, _, _, _, _, _, _, _, _, _, _, _, _, _, rfl, _⟩ := h; rfl)
      | (obtain ⟨_, _, _, _, _, _, _, _, _, _, _, _, _, _, _, _, rfl, _⟩ := h; rfl)
      | (obtain ⟨_, _, _, _, _, _, _, _, _, _, _, _, _, _, _, _, _, rfl, _⟩ := h; rfl)
      | (obtain ⟨_, _, _, _, _, _, _, _, _, _, _, _, _, _, _, _, _, _, rfl, _⟩ := h; rfl)
      | (obtain ⟨_, _, _, _, _, _, _, _, _, _, _, _, _, _, _, _, _, _, _, rfl, _⟩ := h; rfl)
      | (obtain ⟨_, _, _, _, _, _, _, _, _, _, _, _, _, _, _, _, _, _, _, _, rfl, _⟩ := h; rfl)
      | (obtain ⟨_, _, _, _, _, _, _, _, _, _, _, _, _, _, _, _, _, _, _, _, _, rfl, _⟩ := h; rfl)
      | (obtain ⟨_, _, _, _, _, _, _, _, _, _, _, _, _, _, _, _, _, _, _, _, _, _, rfl, _⟩ := h; rfl)
      | (obtain ⟨_, _, _, _, _, _, _, _, _, _, _, _, _, _, _, _, _, _, _, _, _, _, _, rfl, _⟩ := h; rfl)
      | (obtain ⟨_, _, _, _, _, _, _, _, _, _, _, _, _, _, _, _, _, _, _, _, _, _, _, _, rfl, _⟩ := h; rfl)
      | (obtain ⟨_, _, _, _, _, _, _, _, _, _, _, _, _, _, _, _, _, _, _, _, _, _, _, _, _, rfl, _⟩ := h; rfl)
      | (obtain ⟨_, _, _, _, _, _, _, _, _, _, _, _, _, _, _, _, _, _, _, _, _, _, _, _, _, _, rfl, _⟩ := h; rfl)
      | (obtain ⟨_, _, _, _, _, _, _, _, _, _, _, _, _, _, _, _, _, _, _, _, _, _, _, _, _, _, _, rfl, _⟩ := h; rfl)
  have hu := hu_of hr
  have hu64 := hr.units
  have hu65 := hr.u65
  have nd := sc__law_take.nd
  exact ⟨t__law_take K A, (pss_cons (ps_set (i := 6) nd rfl (by first | exact Or.inl rfl | exact Or.inr rfl) (c__law_gap.pe (hr.mono (by decide)) pass0 (pa_cons (c__law_tops.pe (hr.mono (by decide)) pass0 (pa_cons (uv 1) pa_nil)) (pa_cons (pe_ix x_tup (uv 4) pe_int plainIx) (pa_cons (pe_ix x_tup (uv 4) pe_int plainIx) pa_nil)))))
  (pss_cons (ps_set (i := 7) nd rfl (by first | exact Or.inl rfl | exact Or.inr rfl) pe_str)
  (Evl.pss_cut (s_if (PW.pt (w_and (t_cmp (c_op o_notN (uv 6) pe_non)) (pw_and1 (t_cmp (c_op (op_neD hu64) (uv 6) (pe_ix x_tup (uv 4) pe_int plainIx))))))
  (pss_one (ps_set (i := 7) nd rfl (by first | exact Or.inl rfl | exact Or.inr rfl) pe_str))
  pss_nil)
  (Evl.pss_cut (s_if (t_cmp (c_op o_eqI (pe_callB l_seq (by rfl) M.m_len (by decide +kernel) (pa_cons (uv 1) pa_nil)) (uv 3)))
  (pss_one (ps_set (i := 7) nd rfl (by first | exact Or.inl rfl | exact Or.inr rfl) pe_str))
  pss_nil)
  (pss_cons (ps_set (i := 8) nd rfl (by first | exact Or.inl rfl | exact Or.inr rfl) pe_non)
  (pss_cons (ps_set (i := 9) nd rfl (by first | exact Or.inl rfl | exact Or.inr rfl) pe_non)
  (pss_cons (ps_set (i := 10) nd rfl (by first | exact Or.inl rfl | exact Or.inr rfl) (e_lst pa_nil))
  (Evl.pss_cut (U.ps_try_keep2 (i := 11) (tb := fun W => (tAsg (uMethS A.Book "take" (sp_Book_take K A) (WE W) (uVar 0) (tCons (tOp (cIxT K) (uVar 4) (tC (.int 0))) (tCons (tOp (cIxT K) (uVar 4) (tC (.int 1))) (tCons (tOp (cIxT K) (uVar 4) (tC (.int 2))) tNil)))) (gName 8))) (ts1 := fun a cls d => (tSeq (tAsg (uVar 11) (gName 9))
  (tAsg (tXf a cls d A.Against "trail" (uVar 11)) (gName 10)))) (ts2 := fun a cls d => (tAsg (uVar 11) (gName 9))) (Wout := fun _ _ _ _ => False) rfl rfl rfl nd rfl rfl ⟨rfl, by decide, .inl G.g_Against⟩ ⟨rfl, by decide, .inl G.g_PegError⟩ takes0 (fun W pn xe tk _ => (pss_one (ps_set (i := 8) nd rfl (by first | exact Or.inl rfl | exact Or.inr rfl) (c_Book_take.peS T.cl (hr.mono (by decide)) (fun σ => passAt tk σ) (uv 0) (pa_cons (pe_ix x_tup (uv 4) pe_int plainIx) (pa_cons (pe_ix x_tup (uv 4) pe_int plainIx) (pa_cons (pe_ix x_tup (uv 4) pe_int plainIx) pa_nil)))))))
  (fun a oe cls d pn hz hf => (pss_cons (ps_set (i := 9) nd rfl (by first | exact Or.inl rfl | exact Or.inr rfl) (uv 11))
  (pss_one (ps_set (i := 10) nd rfl (by first | exact Or.inl rfl | exact Or.inr rfl) (pe_xf (C := A.Against) (T.xf .against) T.n_trail hz hf (uv 11)))))) (fun a oe cls d pn hz hf => (pss_one (ps_set (i := 9) nd rfl (by first | exact Or.inl rfl | exact Or.inr rfl) (uv 11)))))
  (pss_cons (s_if (t_cmp (c_op o_eqS (uv 7) pe_str))
  (pss_cons (ps_asg (pe_op o_add (pe_ix x_list (uv 2) pe_int plainIx) pe_int) (pg_sub (uv 2) pe_int p_setL))
  (pss_cons (ps_expr (pe_bm PySem.F.plainAttrs_list PySem.F.slot_list_append PySem.F.type_list_append m_append (uv 1) (pa_cons (pe_op o_catT (e_tup (pa_cons (pe_ix x_list (uv 2) pe_int plainIx) pa_nil)) (uv 4)) pa_nil)))
  (pss_one (ps_ret (v_and (e_cmp (c_op o_isN (uv 9) pe_non)) (v_and (c__law_whole.pe (hr.mono (by decide)) pass0 (pa_cons (uv 8) pa_nil)) (pe_one (e_cmp (c_op o_eqI (uv 8) (pe_ix x_list (uv 2) pe_int plainIx))))))))))
  pss_nil)
  (pss_cons (s_if (PW.pt (w_or (t_cmp (c_op o_isN (uv 9) pe_non)) (pw_or1 (t_cmp (c_op o_neS (c__law_kind.pe (hr.mono (by decide)) pass0 (pa_cons (uv 9) pa_nil)) (uv 7))))))
  (pss_one (ps_ret pe_bl))
  pss_nil)
  (pss_cons (s_if (t_cmp (c_op o_eqS (uv 7) pe_str))
  (pss_one (ps_ret pe_bl))
  pss_nil)
  (pss_cons (s_if (PW.pt (w_or (t_not (t_val (c__law_way.pe (hr.mono (by decide)) pass0 (pa_cons (uv 10) (pa_cons (uv 1) (pa_cons (pe_ix x_tup (uv 4) pe_int plainIx) (pa_cons (pe_ix x_tup (uv 4) pe_int plainIx) pa_nil))))))) (pw_or1 (t_cmp (c_op (op_neD hu64) (pe_callB (b_sum rfl) (by rfl) M.m_sum (by decide +kernel) (pa_cons (u_lc (own := [("_law_step_here", 12)]) (g := (gName 12)) (tt := tYes) rfl nd (pi_list (uv 10)) (blkOk_by (N := N__law_take) (sc := defScope s__law_take) (own := [("_law_step_here", 12)]) (by decide +kernel)) (fun _ _ _ _ _ => (pg_name (i := 12) nd rfl (by first | exact Or.inl rfl | exact Or.inr rfl))) (fun _ _ _ _ _ => pts_nil) (fun _ _ _ _ _ => (pe_ix x_tup (uv 12) pe_int plainIx))) pa_nil)) (uv 6))))))
  (pss_one (ps_ret pe_bl))
  pss_nil)
  (pss_one (ps_ret (c__law_keep.pe (hr.mono (by decide)) pass0 (pa_cons (uv 5) (pa_cons (uv 10) (pa_cons (pe_callTy b_list (by rfl) M.m_list (by decide +kernel) (pa_cons (uv 10) pa_nil)) (pa_cons (pe_ix x_list (uv 2) pe_int plainIx) pa_nil))))))))))))))))))), rd__law_take T h⟩
abbrev s__law_drop : Stmt := top 44
theorem sc__law_drop : FnScope N__law_drop ["_law_book", "_law_rows_here", "_law_number"] (defScope s__law_drop) := ⟨rfl, rfl, rfl, by decide +kernel, rfl, by decide +kernel, by decide +kernel⟩
theorem ok__law_drop {A : Ad} {f : Addr} {fd : FuncData} (F : Fun K "_law_drop" "_law_drop" s__law_drop f fd) (hm : mg "_law_drop" = some (.ref f)) (hb : Binds K fd ["_law_book", "_law_rows_here", "_law_number"] []) (M : Mg mg) (G : Gx mg K A) (T : Tx K A) (c_Book_drop : CalM P w K mg base (L2.CX P w) 3 A.Book "drop" ["self", "number"] (sp_Book_drop K A)) (c__law_whole : Cal P w K mg base CX0 1 "_law_whole" ["_law_found"] (sp__law_whole K)) :
    Cal P w K mg base CX0 4 "_law_drop" ["_law_book", "_law_rows_here", "_law_number"] (sp__law_drop K A) := by
  refine ⟨f, fd, F.ok sc__law_drop (fun vs H Q E h => ?_) (fun cdv A' outer s H vs Q E hr h => ?_), hm, F.kp, hb⟩
  · unfold sp__law_drop at h
    first
      | (obtain ⟨rfl, _⟩ := h; rfl)
      | (obtain ⟨_, rfl, _⟩ := h; rfl)
      | (obtain ⟨_, _, rfl, _⟩ := h; rfl)
      | (obtain ⟨_, _, _, rfl, _⟩ := h; rfl)
      | (obtain ⟨_, _, _, _, rfl, _⟩ := h; rfl)
      | (obtain ⟨_, _, _, _, _, rfl, _⟩ := h; rfl)
      | (obtain ⟨_, _, _, _, _, _, rfl, _⟩ := h; rfl)
      | (obtain ⟨_, _, _, _, _, _, _, rfl, _⟩ := h; rfl)
      | (obtain ⟨_, _, _, _, _, _, _, _, rfl, _⟩ := h; rfl)
      | (obtain ⟨_, _, _, _, _, _, _, _, _, rfl, _⟩ := h; rfl)
      | (obtain ⟨_, _, _, _, _, _, _, _, _, _, rfl, _⟩ := h; rfl)
      | (obtain ⟨_, _, _, _, _, _, _, _, _, _, _, rfl, _⟩ := h; rfl)
      | (obtain ⟨_, _, _, _, _, _, _, _, _, _, _, _, rfl, _⟩ := h; rfl)
      | (obtain ⟨_, _, _, _, _, _, _, _, _, _, _, _, _, rfl, _⟩ := h; rfl)
      | (obtain ⟨_, _, _, _, _, _, _, _, _, _, _, _, _, _, rfl, _⟩ := h; rfl)
      | (obtain ⟨_, _, _, _, _, _, _, _, _, _, _, _, _, _, _, rfl, _⟩ := h; rfl)
      | (obtain ⟨_, _, _, _, _, _, _, _, _, _, _, _, _, _, _, _, rfl, _⟩ := h; rfl)
      | (obtain ⟨_, _, _, _, _, _, _, _, _, _, _, _, _, _, _, _, _, rfl, _⟩ := h; rfl)
      | (obtain ⟨_, _, _, _, _, _, _, _, _, _, _, _, _, _, _, _, _, _, rfl, _⟩ := h; rfl)
      | (obtain ⟨_, _, _, _, _, _, _, _, _, _, _, _, _, _, _, _, _, _, _, rfl, _⟩ := h; rfl)
      | (obtain ⟨_, _, _, _, _, _, _, _, _, _, _, _, _, _, _, _, _, _, _, _, rfl, _⟩ := h; rfl)
      | (obtain ⟨_, _, _, _, _, _, _, _, _, _, _, _, _, _, _, _, _, _, _, _, _, rfl, _⟩ := h; rfl)
      | (obtain ⟨_, _, _, _, _, _, _, _, _, _, _, _, _, _, _, _, _, _, _, _, _, _, rfl, _⟩ := h; rfl)
      | (obtain ⟨_, _, _, _, _, _, _, _, _, _, _, _, _, _, _, _, _, _, _, _, _, _, _, rfl, _⟩ := h; rfl)
      | (obtain ⟨_, _, _, _, _, _, _, _, _, _, _, _, _, _, _, _, _, _, _, _, _, _, _, _, rfl, _⟩ := h; rfl)
      | (obtain ⟨_, _, _, _, _, _, _, _, _, _, _, _, _, _, _, _, _, _, _, _, _, _, _, _, _, rfl, _⟩ := h; rfl)
      | (obtain ⟨_, _, _, _, _, _, _, _, _, _, _, _, _, _, _, _, _, _, _, _, _, _, _, _, _, _, rfl, _⟩ := h; rfl)
      | (obtain ⟨_, _, _, _, _, _, _, _, _, _, _, _, _, _, _, _, _, _, _, _, _, _, _, _, _, _, _, rfl, _⟩ := h; rfl)
  have hu := hu_of hr
  have hu64 := hr.units
  have hu65 := hr.u65
  have nd := sc__law_drop.nd
  exact ⟨t__law_drop K A, (pss_cons (ps_set (i := 3) nd rfl (by first | exact Or.inl rfl | exact Or.inr rfl) (pe_ix x_list (uv 1) (pe_op o_mod (uv 2) (pe_callB l_seq (by rfl) M.m_len (by decide +kernel) (pa_cons (uv 1) pa_nil))) plainIx))
  (pss_cons (ps_set (i := 4) nd rfl (by first | exact Or.inl rfl | exact Or.inr rfl) (c_Book_drop.pe T.cl (hr.mono (by decide)) passL (uv 0) (pa_cons (pe_ix x_tup (uv 3) pe_int plainIx) pa_nil)))
  (pss_cons (ps_expr (pe_bm PySem.F.plainAttrs_list PySem.F.slot_list_remove PySem.F.type_list_remove (m_removeD hu65) (uv 1) (pa_cons (uv 3) pa_nil)))
  (pss_one (ps_ret (v_and (pe_callB b_isi (by rfl) M.m_isinstance (by decide +kernel) (pa_cons (uv 4) (pa_cons (pe_bltn (v := .ty "tuple") (by rfl) M.m_tuple (by decide +kernel) rfl) pa_nil))) (v_and (e_cmp (c_op (op_eqD hu64) (uv 4) (pe_slice s_tup (uv 3) (p_some pe_int) po_none))) (pe_one (c__law_whole.pe (hr.mono (by decide)) pass0 (pa_cons (pe_ix x_tup (uv 4) pe_int plainIx) pa_nil)))))))))), rd__law_drop T h⟩
abbrev s__law_no_sighting : Stmt := top 45
theorem sc__law_no_sighting : FnScope N__law_no_sighting ["_law_book", "_law_one", "_law_other", "_law_rise_here", "_law_cell"] (defScope s__law_no_sighting) := ⟨rfl, rfl, rfl, by decide +kernel, rfl, by decide +kernel, by decide +kernel⟩
theorem ok__law_no_sighting {A : Ad} {f : Addr} {fd : FuncData} (F : Fun K "_law_no_sighting" "_law_no_sighting" s__law_no_sighting f fd) (hm : mg "_law_no_sighting" = some (.ref f)) (hb : Binds K fd ["_law_book", "_law_one", "_law_other", "_law_rise_here", "_law_cell"] []) (M : Mg mg) (G : Gx mg K A) (T : Tx K A) (c_Book_take : CalM P w K mg base (L2.CX P w) 4 A.Book "take" ["self", "one", "other", "rise"] (sp_Book_take K A)) (c__law_kind : Cal P w K mg base CX0 1 "_law_kind" ["_law_e"] (sp__law_kind K A)) :
    Cal P w K mg base CX0 5 "_law_no_sighting" ["_law_book", "_law_one", "_law_other", "_law_rise_here", "_law_cell"] (sp__law_no_sighting K A) := by
  refine ⟨f, fd, F.ok sc__law_no_sighting (fun vs H Q E h => ?_) (fun cdv A' outer s H vs Q E hr h => ?_), hm, F.kp, hb⟩
  · unfold sp__law_no_sighting at h
    first
      | (obtain ⟨rfl, _⟩ := h; rfl)
      | (obtain ⟨_, rfl, _⟩ := h; rfl)
      | (obtain ⟨_, _, rfl, _⟩ := h; rfl)
      | (obtain ⟨_, _, _, rfl, _⟩ := h; rfl)
      | (obtain ⟨_, _, _, _, rfl, _⟩ := h; rfl)
      | (obtain ⟨_, _, _, _, _, rfl, _⟩ := h; rfl)
      | (obtain ⟨_, _, _, _, _, _, rfl, _⟩ := h; rfl)
      | (obtain ⟨_, _, _, _, _, _, _, rfl, _⟩ := h; rfl)
      | (obtain ⟨_, _, _, _, _, _, _, _, rfl, _⟩ := h; rfl)
      | (obtain ⟨_, _, _, _, _, _, _, _, _, rfl, _⟩ := h; rfl)
      | (obtain ⟨_, _, _, _, _, _, _, _, _, _, rfl, _⟩ := h; rfl)
      | (obtain ⟨_, _, _, _, _, _, _, _, _, _, _, rfl, _⟩ := h; rfl)
      | (obtain ⟨_, _, _, _, _, _, _, _, _, _, _, _, rfl, _⟩ := h; rfl)
      | (obtain ⟨_, _, _, _, _, _, _, _, _, _, _, _, _, rfl, _⟩ := h; rfl)
      | (obtain ⟨_, _, _, _, _, _, _, _, _, _, _, _, _, _, rfl, _⟩ := h; rfl)
      | (obtain ⟨_, _, _, _, _, _, _, _, _, _, _, _, _, _, _, rfl, _⟩ := h; rfl)
      | (obtain ⟨_, _, _, _, _, _, _, _, _, _, _, _, _, _, _, _, rfl, _⟩ := h; rfl)
      | (obtain ⟨_, _, _, _, _, _, _, _, _, _, _, _, _, _, _, _, _, rfl, _⟩ := h; rfl)
      | (obtain ⟨_, _, _, _, _, _, _, _, _, _, _, _, _, _, _, _, _, _, rfl, _⟩ := h; rfl)
      | (obtain ⟨_, _, _, _, _, _, _, _, _, _, _, _, _, _, _, _, _, _, _, rfl, _⟩ := h; rfl)
      | (obtain ⟨_, _, _, _, _, _, _, _, _, _, _, _, _, _, _, _, _, _, _, _, rfl, _⟩ := h; rfl)
      | (obtain ⟨_, _, _, _, _, _, _, _, _, _, _, _, _, _, _, _, _, _, _, _, _, rfl, _⟩ := h; rfl)
      | (obtain ⟨_, _, _, _, _, _, _, _, _, _, _, _, _, _, _, _, _, _, _, _, _, _, rfl, _⟩ := h; rfl)
      | (obtain ⟨_, _, _, _, _, _, _, _, _, _, _, _, _, _, _, _, _, _, _, _, _, _, _, rfl, _⟩ := h; rfl)
      | (obtain ⟨_, _, _, _, _, _, _, _, _, _, _, _, _, _, _, _, _, _, _, _, _, _, _, _, rfl, _⟩ := h; rfl)
      | (obtain ⟨_, _, _, _, _, _, _, _, _, _, _, _, _, _, _, _, _, _, _, _, _, _, _, _, _, rfl, _⟩ := h; rfl)
      | (obtain ⟨_, _, _, _, _, _, _, _, _, _, _, _, _, _, _, _, _, _, _, _, _, _, _, _, _, _, rfl, _⟩ := h; rfl)
      | (obtain ⟨_, _, _, _, _, _, _, _, _, _, _, _, _, _, _, _, _, _, _, _, _, _, _, _, _, _, _, rfl, _⟩ := h; rfl)
  have hu := hu_of hr
  have hu64 := hr.units
  have hu65 := hr.u65
  have nd := sc__law_no_sighting.nd
  exact ⟨t__law_no_sighting K A, (pss_cons (ps_set (i := 5) nd rfl (by first | exact Or.inl rfl | exact Or.inr rfl) (e_lst (pa_cons (e_tup (pa_cons pe_str (pa_cons (uv 2) (pa_cons (uv 3) pa_nil)))) (pa_cons (e_tup (pa_cons (uv 1) (pa_cons (pe_op o_addS pe_str (pe_slice s_str (uv 1) (p_some pe_int) po_none)) (pa_cons (uv 3) pa_nil)))) (pa_cons (e_tup (pa_cons (pe_op o_addS (uv 1) pe_str) (pa_cons (uv 2) (pa_cons (uv 3) pa_nil)))) (pa_cons (e_tup (pa_cons pe_non (pa_cons (uv 2) (pa_cons (uv 3) pa_nil)))) pa_nil))))))
  (pss_cons (ps_set (i := 5) nd rfl (by first | exact Or.inl rfl | exact Or.inr rfl) (pe_op o_cat (uv 5) (e_lst (pa_cons (e_tup (pa_cons (uv 1) (pa_cons pe_int (pa_cons (uv 3) pa_nil)))) (pa_cons (e_tup (pa_cons (uv 1) (pa_cons (uv 2) (pa_cons pe_bl pa_nil)))) (pa_cons (e_tup (pa_cons (uv 1) (pa_cons (uv 2) (pa_cons pe_non pa_nil)))) (pa_cons (e_tup (pa_cons (uv 1) (pa_cons (uv 2) (pa_cons (pe_op o_pow pe_int pe_int) pa_nil)))) pa_nil)))))))
  (pss_cons (ps_set (i := 5) nd rfl (by first | exact Or.inl rfl | exact Or.inr rfl) (pe_op o_cat (uv 5) (e_lst (pa_cons (e_tup (pa_cons (uv 1) (pa_cons (uv 2) (pa_cons (pe_op o_sub pe_int (pe_op o_pow pe_int pe_int)) pa_nil)))) (pa_cons (e_tup (pa_cons (uv 1) (pa_cons (e_lst (pa_cons (uv 2) pa_nil)) (pa_cons (uv 3) pa_nil)))) (pa_cons (e_tup (pa_cons (pe_op o_addS (uv 1) pe_str) (pa_cons (uv 2) (pa_cons (uv 3) pa_nil)))) (pa_cons (e_tup (pa_cons (uv 1) (pa_cons (uv 2) (pa_cons pe_str pa_nil)))) pa_nil)))))))
  (pss_cons (ps_set (i := 6) nd rfl (by first | exact Or.inl rfl | exact Or.inr rfl) (pe_ix x_list (uv 5) (pe_op o_mod (uv 4) pe_int) plainIx))
  (pss_cons (ps_set (i := 7) nd rfl (by first | exact Or.inl rfl | exact Or.inr rfl) pe_non)
  (Evl.pss_cut (ps_try_keep (i := 8) (tb := fun W => (tDrop (uMethS A.Book "take" (sp_Book_take K A) (WE W) (uVar 0) (tCons (tOp (cIxT K) (uVar 6) (tC (.int 0))) (tCons (tOp (cIxT K) (uVar 6) (tC (.int 1))) (tCons (tOp (cIxT K) (uVar 6) (tC (.int 2))) tNil)))))) (ts := fun a cls d => (tAsg (uVar 8) (gName 7))) (Wout := fun _ _ _ _ => False) rfl rfl rfl nd rfl rfl ⟨rfl, by decide, .inl G.g_PegError⟩ takes0 (fun W pn xe tk _ => (pss_one (ps_expr (c_Book_take.peS T.cl (hr.mono (by decide)) (fun σ => passAt tk σ) (uv 0) (pa_cons (pe_ix x_tup (uv 6) pe_int plainIx) (pa_cons (pe_ix x_tup (uv 6) pe_int plainIx) (pa_cons (pe_ix x_tup (uv 6) pe_int plainIx) pa_nil)))))))
  (fun a oe cls d pn hz hf => (pss_one (ps_set (i := 7) nd rfl (by first | exact Or.inl rfl | exact Or.inr rfl) (uv 8)))))
  (pss_one (ps_ret (v_and (e_cmp (c_op o_notN (uv 7) pe_non)) (pe_one (e_cmp (c_op o_eqS (c__law_kind.pe (hr.mono (by decide)) pass0 (pa_cons (uv 7) pa_nil)) pe_str)))))))))))), rd__law_no_sighting T h⟩
abbrev s__law_no_peg : Stmt := top 46
theorem sc__law_no_peg : FnScope N__law_no_peg ["_law_book", "_law_one", "_law_cell"] (defScope s__law_no_peg) := ⟨rfl, rfl, rfl, by decide +kernel, rfl, by decide +kernel, by decide +kernel⟩
theorem ok__law_no_peg {A : Ad} {f : Addr} {fd : FuncData} (F : Fun K "_law_no_peg" "_law_no_peg" s__law_no_peg f fd) (hm : mg "_law_no_peg" = some (.ref f)) (hb : Binds K fd ["_law_book", "_law_one", "_law_cell"] []) (M : Mg mg) (G : Gx mg K A) (T : Tx K A) (c_Book_rise : CalM P w K mg base (L2.CX P w) 5 A.Book "rise" ["self", "one", "other"] (sp_Book_rise K A)) (c_Book_way : CalM P w K mg base (L2.CX P w) 4 A.Book "way" ["self", "one", "other"] (sp_Book_way K A)) (c__law_kind : Cal P w K mg base CX0 1 "_law_kind" ["_law_e"] (sp__law_kind K A)) :
    Cal P w K mg base CX0 6 "_law_no_peg" ["_law_book", "_law_one", "_law_cell"] (sp__law_no_peg K A) := by
  refine ⟨f, fd, F.ok sc__law_no_peg (fun vs H Q E h => ?_) (fun cdv A' outer s H vs Q E hr h => ?_), hm, F.kp, hb⟩
  · unfold sp__law_no_peg at h
    first
      | (obtain ⟨rfl, _⟩ := h; rfl)
      | (obtain ⟨_, rfl, _⟩ := h; rfl)
      | (obtain ⟨_, _, rfl, _⟩ := h; rfl)
      | (obtain ⟨_, _, _, rfl, _⟩ := h; rfl)
      | (obtain ⟨_, _, _, _, rfl, _⟩ := h; rfl)
      | (obtain ⟨_, _, _, _, _, rfl, _⟩ := h; rfl)
      | (obtain ⟨_, _, _, _, _, _, rfl, _⟩ := h; rfl)
      | (obtain ⟨_, _, _, _, _, _, _, rfl, _⟩ := h; rfl)
      | (obtain ⟨_, _, _, _, _, _, _, _, rfl, _⟩ := h; rfl)
      | (obtain ⟨_, _, _, _, _, _, _, _, _, rfl, _⟩ := h; rfl)
      | (obtain ⟨_, _, _, _, _, _, _, _, _, _, rfl, _⟩ := h; rfl)
      | (obtain ⟨_, _, _, _, _, _, _, _, _, _, _, rfl, _⟩ := h; rfl)
      | (obtain ⟨_, _, _, _, _, _, _, _, _, _, _, _, rfl, _⟩ := h; rfl)
      | (obtain ⟨_, _, _, _, _, _, _, _, _, _, _, _, _, rfl, _⟩ := h; rfl)
      | (obtain ⟨_, _, _, _, _, _, _, _, _, _, _, _, _, _, rfl, _⟩ := h; rfl)
      | (obtain ⟨_, _, _, _, _, _, _, _, _, _, _, _, _, _, _, rfl, _⟩ := h; rfl)
      | (obtain ⟨_, _, _, _, _, _, _, _, _, _, _, _, _, _, _, _, rfl, _⟩ := h; rfl)
      | (obtain ⟨_, _, _, _, _, _, _, _, _, _, _, _, _, _, _, _, _, rfl, _⟩ := h; rfl)
      | (obtain ⟨_, _, _, _, _, _, _, _, _, _, _, _, _, _, _, _, _, _, rfl, _⟩ := h; rfl)
      | (obtain ⟨_, _, _, _, _, _, _, _, _, _, _, _, _, _, _, _, _, _, _, rfl, _⟩ := h; rfl)
      | (obtain ⟨_, _, _, _, _, _, _, _, _, _, _, _, _, _, _, _, _, _, _, _, rfl, _⟩ := h; rfl)
      | (obtain ⟨_, _, _, _, _, _, _, _, _, _, _, _, _, _, _, _, _, _, _, _, _, rfl, _⟩ := h; rfl)
      | (obtain ⟨_, _, _, _, _, _, _, _, _, _, _, _, _, _, _, _, _, _, _, _, _, _, rfl, _⟩ := h; rfl)
      | (obtain ⟨_, _, _, _, _, _, _, _, _, _, _, _, _, _, _, _, _, _, _, _, _, _, _, rfl, _⟩ := h; rfl)
      | (obtain ⟨_, _, _, _, _, _, _, _, _, _, _, _, _, _, _, _, _, _, _, _, _, _, _, _, rfl, _⟩ := h; rfl)
      | (obtain ⟨_, _, _, _, _, _, _, _, _, _, _, _, _, _, _, _, _, _, _, _, _, _, _, _, _, rfl, _⟩ := h; rfl)
      | (obtain ⟨_, _, _, _, _, _, _, _, _, _, _, _, _, _, _, _, _, _, _, _, _, _, _, _, _, _, rfl, _⟩ := h; rfl)
      | (obtain ⟨_, _, _, _, _, _, _, _, _, _, _, _, _, _, _, _, _, _, _, _, _, _, _, _, _, _, _, rfl, _⟩ := h; rfl)
  have hu := hu_of hr
  have hu64 := hr.units
  have hu65 := hr.u65
  have nd := sc__law_no_peg.nd
  exact ⟨t__law_no_peg K A, (pss_cons (ps_set (i := 3) nd rfl (by first | exact Or.inl rfl | exact Or.inr rfl) (pe_ix x_list (e_lst (pa_cons pe_str (pa_cons (pe_op o_addS pe_str (pe_slice s_str (uv 1) (p_some pe_int) po_none)) (pa_cons (pe_op o_addS (uv 1) pe_str) (pa_cons pe_non (pa_cons pe_int (pa_cons (e_lst (pa_cons (uv 1) pa_nil)) (pa_cons (pe_op o_addS (uv 1) pe_str) (pa_cons pe_bl pa_nil))))))))) (pe_op o_mod (uv 2) pe_int) plainIx))
  (pss_cons (ps_set (i := 4) nd rfl (by first | exact Or.inl rfl | exact Or.inr rfl) pe_non)
  (Evl.pss_cut (ps_try_keep (i := 5) (tb := fun W => (uIfS (uT (tOp kEqI (tOp kMod (tOp kDiv (uVar 2) (tC (.int 8))) (tC (.int 4))) (tC (.int 0))))
  (tDrop (uMethS A.Book "rise" (sp_Book_rise K A) (WE W) (uVar 0) (tCons (uVar 1) (tCons (uVar 3) tNil))))
  (uIfS (uT (tOp kEqI (tOp kMod (tOp kDiv (uVar 2) (tC (.int 8))) (tC (.int 4))) (tC (.int 1))))
  (tDrop (uMethS A.Book "rise" (sp_Book_rise K A) (WE W) (uVar 0) (tCons (uVar 3) (tCons (uVar 1) tNil))))
  (uIfS (uT (tOp kEqI (tOp kMod (tOp kDiv (uVar 2) (tC (.int 8))) (tC (.int 4))) (tC (.int 2))))
  (tDrop (uMethS A.Book "way" (sp_Book_way K A) (WE W) (uVar 0) (tCons (uVar 1) (tCons (uVar 3) tNil))))
  (tDrop (uMethS A.Book "way" (sp_Book_way K A) (WE W) (uVar 0) (tCons (uVar 3) (tCons (uVar 3) tNil)))))))) (ts := fun a cls d => (tAsg (uVar 5) (gName 4))) (Wout := fun _ _ _ _ => False) rfl rfl rfl nd rfl rfl ⟨rfl, by decide, .inl G.g_PegError⟩ takes0 (fun W pn xe tk _ => (pss_one (s_if (t_cmp (c_op o_eqI (pe_op o_mod (pe_op o_div (uv 2) pe_int) pe_int) pe_int))
  (pss_one (ps_expr (c_Book_rise.peS T.cl (hr.mono (by decide)) (fun σ => passAt tk σ) (uv 0) (pa_cons (uv 1) (pa_cons (uv 3) pa_nil)))))
  (pss_one (s_if (t_cmp (c_op o_eqI (pe_op o_mod (pe_op o_div (uv 2) pe_int) pe_int) pe_int))
  (pss_one (ps_expr (c_Book_rise.peS T.cl (hr.mono (by decide)) (fun σ => passAt tk σ) (uv 0) (pa_cons (uv 3) (pa_cons (uv 1) pa_nil)))))
  (pss_one (s_if (t_cmp (c_op o_eqI (pe_op o_mod (pe_op o_div (uv 2) pe_int) pe_int) pe_int))
  (pss_one (ps_expr (c_Book_way.peS T.cl (hr.mono (by decide)) (fun σ => passAt tk σ) (uv 0) (pa_cons (uv 1) (pa_cons (uv 3) pa_nil)))))
  (pss_one (ps_expr (c_Book_way.peS T.cl (hr.mono (by decide)) (fun σ => passAt tk σ) (uv 0) (pa_cons (uv 3) (pa_cons (uv 3) pa_nil))))))))))))
  (fun a oe cls d pn hz hf => (pss_one (ps_set (i := 4) nd rfl (by first | exact Or.inl rfl | exact Or.inr rfl) (uv 5)))))
  (pss_one (ps_ret (v_and (e_cmp (c_op o_notN (uv 4) pe_non)) (pe_one (e_cmp (c_op o_eqS (c__law_kind.pe (hr.mono (by decide)) pass0 (pa_cons (uv 4) pa_nil)) pe_str))))))))), rd__law_no_peg T h⟩
abbrev s__law_no_number : Stmt := top 47
theorem sc__law_no_number : FnScope N__law_no_number ["_law_book", "_law_box", "_law_rows_here", "_law_cell"] (defScope s__law_no_number) := ⟨rfl, rfl, rfl, by decide +kernel, rfl, by decide +kernel, by decide +kernel⟩
theorem ok__law_no_number {A : Ad} {f : Addr} {fd : FuncData} (F : Fun K "_law_no_number" "_law_no_number" s__law_no_number f fd) (hm : mg "_law_no_number" = some (.ref f)) (hb : Binds K fd ["_law_book", "_law_box", "_law_rows_here", "_law_cell"] []) (M : Mg mg) (G : Gx mg K A) (T : Tx K A) (c_Book_drop : CalM P w K mg base (L2.CX P w) 3 A.Book "drop" ["self", "number"] (sp_Book_drop K A)) (c_Book_spare : CalM P w K mg base (L2.CX P w) 4 A.Book "spare" ["self", "number"] (sp_Book_spare K A)) (c__law_kind : Cal P w K mg base CX0 1 "_law_kind" ["_law_e"] (sp__law_kind K A)) :
    Cal P w K mg base CX0 5 "_law_no_number" ["_law_book", "_law_box", "_law_rows_here", "_law_cell"] (sp__law_no_number K A) := by
  refine ⟨f, fd, F.ok sc__law_no_number (fun vs H Q E h => ?_) (fun cdv A' outer s H vs Q E hr h => ?_), hm, F.kp, hb⟩
  · unfold sp__law_no_number at h
    first
      | (obtain ⟨rfl, _⟩ := h; rfl)
      | (obtain ⟨_, rfl, _⟩ := h; rfl)
      | (obtain ⟨_, _, rfl, _⟩ := h; rfl)
      | (obtain ⟨_, _, _, rfl, _⟩ := h; rfl)
      | (obtain ⟨_, _, _, _, rfl, _⟩ := h; rfl)
      | (obtain ⟨_, _, _, _, _, rfl, _⟩ := h; rfl)
      | (obtain ⟨_, _, _, _, _, _, rfl, _⟩ := h; rfl)
      | (obtain ⟨_, _, _, _, _, _, _, rfl, _⟩ := h; rfl)
      | (obtain ⟨_, _, _, _, _, _, _, _, rfl, _⟩ := h; rfl)
      | (obtain ⟨_, _, _, _, _, _, _, _, _, rfl, _⟩ := h; rfl)
      | (obtain ⟨_, _, _, _, _, _, _, _, _, _, rfl, _⟩ := h; rfl)
      | (obtain ⟨_, _, _, _, _, _, _, _, _, _, _, rfl, _⟩ := h; rfl)
      | (obtain ⟨_, _, _, _, _, _, _, _, _, _, _, _, rfl, _⟩ := h; rfl)
      | (obtain ⟨_, _, _, _, _, _, _, _, _, _, _, _, _, rfl, _⟩ := h; rfl)
      | (obtain ⟨_, _, _, _, _, _, _, _, _, _, _, _, _, _, rfl, _⟩ := h; rfl)
      | (obtain ⟨_, _, _, _, _, _, _, _, _, _, _, _, _, _, _, rfl, _⟩ := h; rfl)
      | (obtain ⟨_, _, _, _, _, _, _, _, _, _, _, _, _, _, _, _, rfl, _⟩ := h; rfl)
      | (obtain ⟨_, _, _, _, _, _, _, _, _, _, _, _, _, _, _, _, _, rfl, _⟩ := h; rfl)
      | (obtain ⟨_, _, _, _, _, _, _, _, _, _, _, _, _, _, _, _, _, _, rfl, _⟩ := h; rfl)
      | (obtain ⟨_, _, _, _, _, _, _, _, _, _, _, _, _, _, _, _, _, _, _, rfl, _⟩ := h; rfl)
      | (obtain ⟨_, _, _, _, _, _, _, _, _, _, _, _, _, _, _, _, _, _, _, _, rfl, _⟩ := h; rfl)
      | (obtain ⟨_, _, _, _, _, _, _, _, _, _, _, _, _, _, _, _, _, _, _, _, _, rfl, _⟩ := h; rfl)
      | (obtain ⟨_, _, _, _, _, _, _, _, _, _, _, _, _, _, _, _, _, _, _, _, _, _, rfl, _⟩ := h; rfl)
      | (obtain ⟨_, _, _, _, _, _, _, _, _, _, _, _, _, _, _, _, _, _, _, _, _, _, _, rfl, _⟩ := h; rfl)
      | (obtain ⟨_, _, _, _, _, _, _, _, _, _, _, _, _, _, _, _, _, _, _, _, _, _, _, _, rfl, _⟩ := h; rfl)
      | (obtain ⟨_, _, _, _, _, _, _, _, _, _, _, _, _, _, _, _, _, _, _, _, _, _, _, _, _, rfl, _⟩ := h; rfl)
      | (obtain ⟨_, _, _, _, _, _, _, _, _, _, _, _, _, _, _, _, _, _, _, _, _, _, _, _, _, _, rfl, _⟩ := h; rfl)
      | (obtain ⟨_, _, _, _, _, _, _, _, _, _, _, _, _, _, _, _, _, _, _, _, _, _, _, _, _, _, _, rfl, _⟩ := h; rfl)
  have hu := hu_of hr
  have hu64 := hr.units
  have hu65 := hr.u65
  have nd := sc__law_no_number.nd
  exact ⟨t__law_no_number K A, (pss_cons (ps_set (i := 4) nd rfl (by first | exact Or.inl rfl | exact Or.inr rfl) (pe_ix x_list (e_lst (pa_cons pe_int (pa_cons (pe_un n_neg pe_int) (pa_cons (pe_op o_add (pe_ix x_list (uv 1) pe_int plainIx) pe_int) (pa_cons (pe_op o_pow pe_int pe_int) (pa_cons pe_bl (pa_cons pe_bl (pa_cons pe_non (pa_cons pe_str (pa_cons (e_lst (pa_cons pe_int pa_nil)) (pa_cons (e_tup (pa_cons pe_int pa_nil)) pa_nil))))))))))) (pe_op o_mod (uv 3) pe_int) plainIx))
  (pss_cons (ps_set (i := 5) nd rfl (by first | exact Or.inl rfl | exact Or.inr rfl) (u_lc (own := [("_law_row", 6)]) (g := (gName 6)) (tt := tYes) rfl nd (pi_list (uv 2)) (blkOk_by (N := N__law_no_number) (sc := defScope s__law_no_number) (own := [("_law_row", 6)]) (by decide +kernel)) (fun _ _ _ _ _ => (pg_name (i := 6) nd rfl (by first | exact Or.inl rfl | exact Or.inr rfl))) (fun _ _ _ _ _ => pts_nil) (fun _ _ _ _ _ => (pe_ix x_tup (uv 6) pe_int plainIx))))
  (pss_cons (u_setLc (i := 7) (own := [("_law_k", 8)]) (g := (gName 8)) (tt := (uT (tOp (cInI K false) (uVar 8) (uVar 5)))) rfl nd rfl rfl (sw_true rfl rfl rfl (by decide +kernel)) (pi_range2 (by rfl) M.m_range (pa_cons pe_int (pa_cons (pe_op o_add (pe_ix x_list (uv 1) pe_int plainIx) pe_int) pa_nil))) (blkOk_by (N := N__law_no_number) (sc := defScope s__law_no_number) (own := [("_law_k", 8)]) (by decide +kernel)) (fun _ _ _ _ _ => (pg_name (i := 8) nd rfl (by first | exact Or.inl rfl | exact Or.inr rfl))) (fun _ _ _ _ _ => (pts_one (t_cmp (c_op o_notInI (uv 8) (uv 5))))) (fun _ _ _ _ _ => (uv 8)))
  (Evl.pss_cut (s_if (PW.pt (w_and (t_cmp (c_op o_eqI (pe_op o_mod (pe_op o_div (uv 3) pe_int) pe_int) pe_int)) (pw_and1 (t_cmp (c_op (op_neD hu64) (uv 7) (e_lst pa_nil))))))
  (pss_one (ps_set (i := 4) nd rfl (by first | exact Or.inl rfl | exact Or.inr rfl) (pe_ix x_list (uv 7) (pe_op o_mod (pe_op o_div (uv 3) pe_int) (pe_callB l_seq (by rfl) M.m_len (by decide +kernel) (pa_cons (uv 7) pa_nil))) plainIx)))
  pss_nil)
  (pss_cons (ps_set (i := 9) nd rfl (by first | exact Or.inl rfl | exact Or.inr rfl) pe_non)
  (Evl.pss_cut (ps_try_keep (i := 10) (tb := fun W => (uIfS (uT (tOp kEqI (tOp kMod (tOp kDiv (uVar 3) (tC (.int 30))) (tC (.int 2))) (tC (.int 0))))
  (tDrop (uMethS A.Book "drop" (sp_Book_drop K A) (WE W) (uVar 0) (tCons (uVar 4) tNil)))
  (tDrop (uMethS A.Book "spare" (sp_Book_spare K A) (WE W) (uVar 0) (tCons (uVar 4) tNil))))) (ts := fun a cls d => (tAsg (uVar 10) (gName 9))) (Wout := fun _ _ _ _ => False) rfl rfl rfl nd rfl rfl ⟨rfl, by decide, .inl G.g_PegError⟩ takes0 (fun W pn xe tk _ => (pss_one (s_if (t_cmp (c_op o_eqI (pe_op o_mod (pe_op o_div (uv 3) pe_int) pe_int) pe_int))
  (pss_one (ps_expr (c_Book_drop.peS T.cl (hr.mono (by decide)) (fun σ => passAt tk σ) (uv 0) (pa_cons (uv 4) pa_nil))))
  (pss_one (ps_expr (c_Book_spare.peS T.cl (hr.mono (by decide)) (fun σ => passAt tk σ) (uv 0) (pa_cons (uv 4) pa_nil)))))))
  (fun a oe cls d pn hz hf => (pss_one (ps_set (i := 9) nd rfl (by first | exact Or.inl rfl | exact Or.inr rfl) (uv 10)))))
  (pss_one (ps_ret (v_and (e_cmp (c_op o_notN (uv 9) pe_non)) (pe_one (e_cmp (c_op o_eqS (c__law_kind.pe (hr.mono (by decide)) pass0 (pa_cons (uv 9) pa_nil)) pe_str)))))))))))), rd__law_no_number T h⟩
abbrev s__law_way_told : Stmt := top 48
theorem sc__law_way_told : FnScope N__law_way_told ["_law_book", "_law_rows_here", "_law_tops_here", "_law_one", "_law_other", "_law_held", "_law_number"] (defScope s__law_way_told) := ⟨rfl, rfl, rfl, by decide +kernel, rfl, by decide +kernel, by decide +kernel⟩
theorem ok__law_way_told {A : Ad} {f : Addr} {fd : FuncData} (F : Fun K "_law_way_told" "_law_way_told" s__law_way_told f fd) (hm : mg "_law_way_told" = some (.ref f)) (hb : Binds K fd ["_law_book", "_law_rows_here", "_law_tops_here", "_law_one", "_law_other", "_law_held", "_law_number"] []) (M : Mg mg) (G : Gx mg K A) (T : Tx K A) (c_Book_way : CalM P w K mg base (L2.CX P w) 4 A.Book "way" ["self", "one", "other"] (sp_Book_way K A)) (c__law_gap : Cal P w K mg base CX0 1 "_law_gap" ["_law_tops_here", "_law_one", "_law_other"] (sp__law_gap K)) (c__law_near : Cal P w K mg base CX0 2 "_law_near" ["_law_refused", "_law_near_here", "_law_tops_here", "_law_one", "_law_held", "_law_number"] (sp__law_near K A)) (c__law_way : Cal P w K mg base CX0 3 "_law_way" ["_law_found", "_law_rows_here", "_law_one", "_law_other"] (sp__law_way K)) (c__law_keep : Cal P w K mg base CX0 1 "_law_keep" ["_law_held", "_law_told", "_law_copied", "_law_number"] (sp__law_keep K)) :
    Cal P w K mg base CX0 5 "_law_way_told" ["_law_book", "_law_rows_here", "_law_tops_here", "_law_one", "_law_other", "_law_held", "_law_number"] (sp__law_way_told K A) := by
  refine ⟨f, fd, F.ok sc__law_way_told (fun vs H Q E h => ?_) (fun cdv A' outer s H vs Q E hr h => ?_), hm, F.kp, hb⟩
  · unfold sp__law_way_told at h
    first
      | (obtain ⟨rfl, _⟩ := h; rfl)
      | (obtain ⟨_, rfl, _⟩ := h; rfl)
      | (obtain ⟨_, _, rfl, _⟩ := h; rfl)
      | (obtain ⟨_, _, _, rfl, _⟩ := h; rfl)
      | (obtain ⟨_, _, _, _, rfl, _⟩ := h; rfl)
      | (obtain ⟨_, _, _, _, _, rfl, _⟩ := h; rfl)
      | (obtain ⟨_, _, _, _, _, _, rfl, _⟩ := h; rfl)
      | (obtain ⟨_, _, _, _, _, _, _, rfl, _⟩ := h; rfl)
      | (obtain ⟨_, _, _, _, _, _, _, _, rfl, _⟩ := h; rfl)
      | (obtain ⟨_, _, _, _, _, _, _, _, _, rfl, _⟩ := h; rfl)
      | (obtain ⟨_, _, _, _, _, _, _, _, _, _, rfl, _⟩ := h; rfl)
      | (obtain ⟨_, _, _, _, _, _, _, _, _, _, _, rfl, _⟩ := h; rfl)
      | (obtain ⟨_, _, _, _, _, _, _, _, _, _, _, _, rfl, _⟩ := h; rfl)
      | (obtain ⟨_, _, _, _, _, _, _, _, _, _, _, _, _, rfl, _⟩ := h; rfl)
      | (obtain ⟨_, _, _, _, _, _, _, _, _, _, _, _, _, _, rfl, _⟩ := h; rfl)
      | (obtain ⟨_, _, _, _, _, _, _, _, _, _, _, _, _, _, _, rfl, _⟩ := h; rfl)
      | (obtain ⟨_, _, _, _, _, _, _, _, _, _, _, _, _, _, _, _, rfl, _⟩ := h; rfl)
      | (obtain ⟨_, _, _, _, _, _, _, _, _, _, _, _, _, _, _, _, _, rfl, _⟩ := h; rfl)
      | (obtain ⟨_, _, _, _, _, _, _, _, _, _, _, _, _, _, _, _, _, _, rfl, _⟩ := h; rfl)
      | (obtain ⟨_, _, _, _, _, _, _, _, _, _, _, _, _, _, _, _, _, _, _, rfl, _⟩ := h; rfl)
      | (obtain ⟨_, _, _, _, _, _, _, _, _, _, _, _, _, _, _, _, _, _, _, _, rfl, _⟩ := h; rfl)
      | (obtain ⟨_, _, _, _, _, _, _, _, _, _, _, _, _, _, _, _, _, _, _, _, _, rfl, _⟩ := h; rfl)
      | (obtain ⟨_, _, _, _, _, _, _, _, _, _, _, _, _, _, _, _, _, _, _, _, _, _, rfl, _⟩ := h; rfl)
      | (obtain ⟨_, _, _, _, _, _, _, _, _, _, _, _, _, _, _, _, _, _, _, _, _, _, _, rfl, _⟩ := h; rfl)
      | (obtain ⟨_, _, _, _, _, _, _, _, _, _, _, _, _, _, _, _, _, _, _, _, _, _, _, _, rfl, _⟩ := h; rfl)
      | (obtain ⟨_, _, _, _, _, _, _, _, _, _, _, _, _, _, _, _, _, _, _, _, _, _, _, _, _, rfl, _⟩ := h; rfl)
      | (obtain ⟨_, _, _, _, _, _, _, _, _, _, _, _, _, _, _, _, _, _, _, _, _, _, _, _, _, _, rfl, _⟩ := h; rfl)
      | (obtain ⟨_, _, _, _, _, _, _, _, _, _, _, _, _, _, _, _, _, _, _, _, _, _, _, _, _, _, _, rfl, _⟩ := h; rfl)
  have hu := hu_of hr
  have hu64 := hr.units
  have hu65 := hr.u65
  have nd := sc__law_way_told.nd
  exact ⟨t__law_way_told K A, (pss_cons (ps_set (i := 7) nd rfl (by first | exact Or.inl rfl | exact Or.inr rfl) pe_non)
  (pss_cons (ps_set (i := 8) nd rfl (by first | exact Or.inl rfl | exact Or.inr rfl) pe_non)
  (pss_cons (ps_set (i := 9) nd rfl (by first | exact Or.inl rfl | exact Or.inr rfl) (e_lst pa_nil))
  (Evl.pss_cut (ps_try_keep (i := 10) (tb := fun W => (tAsg (uMethS A.Book "way" (sp_Book_way K A) (WE W) (uVar 0) (tCons (uVar 3) (tCons (uVar 4) tNil))) (gName 7))) (ts := fun a cls d => (tSeq (tAsg (uVar 10) (gName 8))
  (tAsg (tXf a cls d A.NoWay "near" (uVar 10)) (gName 9)))) (Wout := fun _ _ _ _ => False) rfl rfl rfl nd rfl rfl ⟨rfl, by decide, .inl G.g_NoWay⟩ takes0 (fun W pn xe tk _ => (pss_one (ps_set (i := 7) nd rfl (by first | exact Or.inl rfl | exact Or.inr rfl) (c_Book_way.peS T.cl (hr.mono (by decide)) (fun σ => passAt tk σ) (uv 0) (pa_cons (uv 3) (pa_cons (uv 4) pa_nil))))))
  (fun a oe cls d pn hz hf => (pss_cons (ps_set (i := 8) nd rfl (by first | exact Or.inl rfl | exact Or.inr rfl) (uv 10))
  (pss_one (ps_set (i := 9) nd rfl (by first | exact Or.inl rfl | exact Or.inr rfl) (pe_xf (C := A.NoWay) (T.xf .way) T.n_near hz hf (uv 10)))))))
  (pss_cons (s_if (t_cmp (c_op o_isN (c__law_gap.pe (hr.mono (by decide)) pass0 (pa_cons (uv 2) (pa_cons (uv 3) (pa_cons (uv 4) pa_nil)))) pe_non))
  (pss_one (ps_ret (c__law_near.pe (hr.mono (by decide)) pass0 (pa_cons (uv 8) (pa_cons (uv 9) (pa_cons (uv 2) (pa_cons (uv 3) (pa_cons (uv 5) (pa_cons (uv 6) pa_nil)))))))))
  pss_nil)
  (pss_cons (s_if (PW.pt (w_or (t_cmp (c_op o_notN (uv 8) pe_non)) (pw_or1 (t_not (t_val (c__law_way.pe (hr.mono (by decide)) pass0 (pa_cons (uv 7) (pa_cons (uv 1) (pa_cons (uv 3) (pa_cons (uv 4) pa_nil))))))))))
  (pss_one (ps_ret pe_bl))
  pss_nil)
  (pss_one (ps_ret (c__law_keep.pe (hr.mono (by decide)) pass0 (pa_cons (uv 5) (pa_cons (uv 7) (pa_cons (pe_callTy b_list (by rfl) M.m_list (by decide +kernel) (pa_cons (uv 7) pa_nil)) (pa_cons (uv 6) pa_nil))))))))))))), rd__law_way_told T h⟩
abbrev s__law_spare : Stmt := top 49
theorem sc__law_spare : FnScope N__law_spare ["_law_book", "_law_rows_here", "_law_number"] (defScope s__law_spare) := ⟨rfl, rfl, rfl, by decide +kernel, rfl, by decide +kernel, by decide +kernel⟩
theorem ok__law_spare {A : Ad} {f : Addr} {fd : FuncData} (F : Fun K "_law_spare" "_law_spare" s__law_spare f fd) (hm : mg "_law_spare" = some (.ref f)) (hb : Binds K fd ["_law_book", "_law_rows_here", "_law_number"] []) (M : Mg mg) (G : Gx mg K A) (T : Tx K A) (c_Book_spare : CalM P w K mg base (L2.CX P w) 4 A.Book "spare" ["self", "number"] (sp_Book_spare K A)) (c__law_gap : Cal P w K mg base CX0 1 "_law_gap" ["_law_tops_here", "_law_one", "_law_other"] (sp__law_gap K)) (c__law_tops : Cal P w K mg base CX0 1 "_law_tops" ["_law_rows_here"] (sp__law_tops K)) :
    Cal P w K mg base CX0 5 "_law_spare" ["_law_book", "_law_rows_here", "_law_number"] (sp__law_spare K A) := by
  refine ⟨f, fd, F.ok sc__law_spare (fun vs H Q E h => ?_) (fun cdv A' outer s H vs Q E hr h => ?_), hm, F.kp, hb⟩
  · unfold sp__law_spare at h
    first
      | (obtain ⟨rfl, _⟩ := h; rfl)
      | (obtain ⟨_, rfl, _⟩ := h; rfl)
      | (obtain ⟨_, _, rfl, _⟩ := h; rfl)
      | (obtain ⟨_, _, _, rfl, _⟩ := h; rfl)
      | (obtain ⟨_, _, _, _, rfl, _⟩ := h; rfl)
      | (obtain ⟨_, _, _, _, _, rfl, _⟩ := h; rfl)
      | (obtain ⟨_, _, _, _, _, _, rfl, _⟩ := h; rfl)
      | (obtain ⟨_, _, _, _, _, _, _, rfl, _⟩ := h; rfl)
      | (obtain ⟨_, _, _, _, _, _, _, _, rfl, _⟩ := h; rfl)
      | (obtain ⟨_, _, _, _, _, _, _, _, _, rfl, _⟩ := h; rfl)
      | (obtain ⟨_, _, _, _, _, _, _, _, _, _, rfl, _⟩ := h; rfl)
      | (obtain ⟨_, _, _, _, _, _, _, _, _, _, _, rfl, _⟩ := h; rfl)
      | (obtain ⟨_, _, _, _, _, _, _, _, _, _, _, _, rfl, _⟩ := h; rfl)
      | (obtain ⟨_, _, _, _, _, _, _, _, _, _, _, _, _, rfl, _⟩ := h; rfl)
      | (obtain ⟨_, _, _, _, _, _, _, _, _, _, _, _, _, _, rfl, _⟩ := h; rfl)
      | (obtain ⟨_, _, _, _, _, _, _, _, _, _, _, _, _, _, _, rfl, _⟩ := h; rfl)
      | (obtain ⟨_, _, _, _, _, _, _, _, _, _, _, _, _, _, _, _, rfl, _⟩ := h; rfl)
      | (obtain ⟨_, _, _, _, _, _, _, _, _, _, _, _, _, _, _, _, _, rfl, _⟩ := h; rfl)
      | (obtain ⟨_, _, _, _, _, _, _, _, _, _, _, _, _, _, _, _, _, _, rfl, _⟩ := h; rfl)
      | (obtain ⟨_, _, _, _, _, _, _, _, _, _, _, _, _, _, _, _, _, _, _, rfl, _⟩ := h; rfl)
      | (obtain ⟨_, _, _, _, _, _, _, _, _, _, _, _, _, _, _, _, _, _, _, _, rfl, _⟩ := h; rfl)
      | (obtain ⟨_, _, _, _, _, _, _, _, _, _, _, _, _, _, _, _, _, _, _, _, _, rfl, _⟩ := h; rfl)
      | (obtain ⟨_, _, _, _, _, _, _, _, _, _, _, _, _, _, _, _, _, _, _, _, _, _, rfl, _⟩ := h; rfl)
      | (obtain ⟨_, _, _, _, _, _, _, _, _, _, _, _, _, _, _, _, _, _, _, _, _, _, _, rfl, _⟩ := h; rfl)
      | (obtain ⟨_, _, _, _, _, _, _, _, _, _, _, _, _, _, _, _, _, _, _, _, _, _, _, _, rfl, _⟩ := h; rfl)
      | (obtain ⟨_, _, _, _, _, _, _, _, _, _, _, _, _, _, _, _, _, _, _, _, _, _, _, _, _, rfl, _⟩ := h; rfl)
      | (obtain ⟨_, _, _, _, _, _, _, _, _, _, _, _, _, _, _, _, _, _, _, _, _, _, _, _, _, _, rfl, _⟩ := h; rfl)
      | (obtain ⟨_, _, _, _, _, _, _, _, _, _, _, _, _, _, _, _, _, _, _, _, _, _, _, _, _, _, _, rfl, _⟩ := h; rfl)
  have hu := hu_of hr
  have hu64 := hr.units
  have hu65 := hr.u65
  have nd := sc__law_spare.nd
  exact ⟨t__law_spare K A, (pss_cons (s_if (t_cmp (c_op (op_eqD hu64) (uv 1) (e_lst pa_nil)))
  (pss_one (ps_ret pe_bl))
  pss_nil)
  (pss_cons (ps_set (i := 3) nd rfl (by first | exact Or.inl rfl | exact Or.inr rfl) (pe_ix x_list (uv 1) (pe_op o_mod (uv 2) (pe_callB l_seq (by rfl) M.m_len (by decide +kernel) (pa_cons (uv 1) pa_nil))) plainIx))
  (pss_cons (u_setLc (i := 4) (own := [("_law_other", 5)]) (g := (gName 5)) (tt := (uT (tOp (rNeD K) (uVar 5) (uVar 3)))) rfl nd rfl rfl (sw_true rfl rfl rfl (by decide +kernel)) (pi_list (uv 1)) (blkOk_by (N := N__law_spare) (sc := defScope s__law_spare) (own := [("_law_other", 5)]) (by decide +kernel)) (fun _ _ _ _ _ => (pg_name (i := 5) nd rfl (by first | exact Or.inl rfl | exact Or.inr rfl))) (fun _ _ _ _ _ => (pts_one (t_cmp (c_op (op_neD hu64) (uv 5) (uv 3))))) (fun _ _ _ _ _ => (uv 5)))
  (pss_cons (ps_set (i := 6) nd rfl (by first | exact Or.inl rfl | exact Or.inr rfl) (c_Book_spare.pe T.cl (hr.mono (by decide)) passL (uv 0) (pa_cons (pe_ix x_tup (uv 3) pe_int plainIx) pa_nil)))
  (pss_one (ps_ret (v_and (pe_callB b_isi (by rfl) M.m_isinstance (by decide +kernel) (pa_cons (uv 6) (pa_cons (pe_bltn (v := .ty "bool") (by rfl) M.m_bool (by decide +kernel) rfl) pa_nil))) (pe_one (e_cmp (c_op o_eqB (uv 6) (e_cmp (c_op o_notN (c__law_gap.pe (hr.mono (by decide)) pass0 (pa_cons (c__law_tops.pe (hr.mono (by decide)) pass0 (pa_cons (uv 4) pa_nil)) (pa_cons (pe_ix x_tup (uv 3) pe_int plainIx) (pa_cons (pe_ix x_tup (uv 3) pe_int plainIx) pa_nil)))) pe_non)))))))))))), rd__law_spare T h⟩
abbrev s__law_asked : Stmt := top 50
theorem sc__law_asked : FnScope N__law_asked ["_law_book", "_law_rows_here", "_law_some", "_law_number", "_law_ask", "_law_held"] (defScope s__law_asked) := ⟨rfl, rfl, rfl, by decide +kernel, rfl, by decide +kernel, by decide +kernel⟩
theorem ok__law_asked {A : Ad} {f : Addr} {fd : FuncData} (F : Fun K "_law_asked" "_law_asked" s__law_asked f fd) (hm : mg "_law_asked" = some (.ref f)) (hb : Binds K fd ["_law_book", "_law_rows_here", "_law_some", "_law_number", "_law_ask", "_law_held"] []) (M : Mg mg) (G : Gx mg K A) (T : Tx K A) (c__law_tops : Cal P w K mg base CX0 1 "_law_tops" ["_law_rows_here"] (sp__law_tops K)) (c__law_rise : Cal P w K mg base CX0 6 "_law_rise" ["_law_book", "_law_tops_here", "_law_one", "_law_other", "_law_held", "_law_number"] (sp__law_rise K A)) (c__law_way_told : Cal P w K mg base CX0 5 "_law_way_told" ["_law_book", "_law_rows_here", "_law_tops_here", "_law_one", "_law_other", "_law_held", "_law_number"] (sp__law_way_told K A)) (c_Book_parts : CalM P w K mg base CX0 3 A.Book "parts" ["self"] (sp_Book_parts K A)) (c__law_alike : Cal P w K mg base CX0 1 "_law_alike" ["_law_found", "_law_due"] (sp__law_alike K)) (c__law_parts : Cal P w K mg base CX0 2 "_law_parts" ["_law_tops_here"] (sp__law_parts K)) (c__law_keep : Cal P w K mg base CX0 1 "_law_keep" ["_law_held", "_law_told", "_law_copied", "_law_number"] (sp__law_keep K)) (c_Book_heights : CalM P w K mg base CX0 3 A.Book "heights" ["self"] (sp_Book_heights K A)) (c__law_heights : Cal P w K mg base CX0 3 "_law_heights" ["_law_found", "_law_rows_here", "_law_tops_here"] (sp__law_heights K)) (c__law_spare : Cal P w K mg base CX0 5 "_law_spare" ["_law_book", "_law_rows_here", "_law_number"] (sp__law_spare K A)) (c_Book_kept : CalM P w K mg base CX0 1 A.Book "kept" ["self"] (sp_Book_kept K A)) (c__law_rows : Cal P w K mg base CX0 2 "_law_rows" ["_law_found", "_law_rows_here"] (sp__law_rows K)) :
    Cal P w K mg base CX0 7 "_law_asked" ["_law_book", "_law_rows_here", "_law_some", "_law_number", "_law_ask", "_law_held"] (sp__law_asked K A) := by
  refine ⟨f, fd, F.ok sc__law_asked (fun vs H Q E h => ?_) (fun cdv A' outer s H vs Q E hr h => ?_), hm, F.kp, hb⟩
  · unfold sp__law_asked at h
    first
      | (obtain ⟨rfl, _⟩ := h; rfl)
      | (obtain ⟨_, rfl, _⟩ := h; rfl)
      | (obtain ⟨_, _, rfl, _⟩ := h; rfl)
      | (obtain ⟨_, _, _, rfl, _⟩ := h; rfl)
      | (obtain ⟨_, _, _, _, rfl, _⟩ := h; rfl)
      | (obtain ⟨_, _, _, _, _, rfl, _⟩ := h; rfl)
      | (obtain ⟨_, _, _, _, _, _, rfl, _⟩ := h; rfl)
      | (obtain ⟨_, _, _, _, _, _, _, rfl, _⟩ := h; rfl)
      | (obtain ⟨_, _, _, _, _, _, _, _, rfl, _⟩ := h; rfl)
      | (obtain ⟨_, _, _, _, _, _, _, _, _, rfl, _⟩ := h; rfl)
      | (obtain ⟨_, _, _, _, _, _, _, _, _, _, rfl, _⟩ := h; rfl)
      | (obtain ⟨_, _, _, _, _, _, _, _, _, _, _, rfl, _⟩ := h; rfl)
      | (obtain ⟨_, _, _, _, _, _, _, _, _, _, _, _, rfl, _⟩ := h; rfl)
      | (obtain ⟨_, _, _, _, _, _, _, _, _, _, _, _, _, rfl, _⟩ := h; rfl)
      | (obtain ⟨_, _, _, _, _, _, _, _, _, _, _, _, _, _, rfl, _⟩ := h; rfl)
      | (obtain ⟨_, _, _, _, _, _, _, _, _, _, _, _, _, _, _, rfl, _⟩ := h; rfl)
      | (obtain ⟨_, _, _, _, _, _, _, _, _, _, _, _, _, _, _, _, rfl, _⟩ := h; rfl)
      | (obtain ⟨_, _, _, _, _, _, _, _, _, _, _, _, _, _, _, _, _, rfl, _⟩ := h; rfl)
      | (obtain ⟨_, _, _, _, _, _, _, _, _, _, _, _, _, _, _, _, _, _, rfl, _⟩ := h; rfl)
      | (obtain ⟨_, _, _, _, _, _, _, _, _, _, _, _, _, _, _, _, _, _, _, rfl, _⟩ := h; rfl)
      | (obtain ⟨_, _, _, _, _, _, _, _, _, _, _, _, _, _, _, _, _, _, _, _, rfl, _⟩ := h; rfl)
      | (obtain ⟨_, _, _, _, _, _, _, _, _, _, _, _, _, _, _, _, _, _, _, _, _, rfl, _⟩ := h; rfl)
      | (obtain ⟨_, _, _, _, _, _, _, _, _, _, _, _, _, _, _, _, _, _, _, _, _, _, rfl, _⟩ := h; rfl)
      | (obtain ⟨_, _, _, _, _, _, _, _, _, _, _, _, _, _, _, _, _, _, _, _, _, _, _, rfl, _⟩ := h; rfl)
      | (obtain ⟨_, _, _, _, _, _, _, _, _, _, _, _, _, _, _, _, _, _, _, _, _, _, _, _, rfl, _⟩ := h; rfl)
      | (obtain ⟨_, _, _, _, _, _, _, _, _, _, _, _, _, _, _, _, _, _, _, _, _, _, _, _, _, rfl, _⟩ := h; rfl)
      | (obtain ⟨_, _, _, _, _, _, _, _, _, _, _, _, _, _, _, _, _, _, _, _, _, _, _, _, _, _, rfl, _⟩ := h; rfl)
      | (obtain ⟨_, _, _, _, _, _, _, _, _, _, _, _, _, _, _, _, _, _, _, _, _, _, _, _, _, _, _, rfl, _⟩ := h; rfl)
  have hu := hu_of hr
  have hu64 := hr.units
  have hu65 := hr.u65
  have nd := sc__law_asked.nd
  exact ⟨t__law_asked K A, (pss_cons (ps_set (i := 6) nd rfl (by first | exact Or.inl rfl | exact Or.inr rfl) (c__law_tops.pe (hr.mono (by decide)) pass0 (pa_cons (uv 1) pa_nil)))
  (pss_cons (ps_set (i := 7) nd rfl (by first | exact Or.inl rfl | exact Or.inr rfl) (pe_ix x_list (uv 2) (pe_op o_mod (pe_op o_mod (pe_op o_mul (uv 3) pe_int) pe_int) (pe_callB l_seq (by rfl) M.m_len (by decide +kernel) (pa_cons (uv 2) pa_nil))) plainIx))
  (pss_cons (ps_set (i := 8) nd rfl (by first | exact Or.inl rfl | exact Or.inr rfl) (pe_ix x_list (uv 2) (pe_op o_mod (pe_op o_mod (pe_op o_mul (uv 3) pe_int) pe_int) (pe_callB l_seq (by rfl) M.m_len (by decide +kernel) (pa_cons (uv 2) pa_nil))) plainIx))
  (pss_cons (s_if (t_cmp (c_op o_eqI (uv 4) pe_int))
  (pss_one (ps_ret (c__law_rise.pe (hr.mono (by decide)) pass0 (pa_cons (uv 0) (pa_cons (uv 6) (pa_cons (uv 7) (pa_cons (uv 8) (pa_cons (uv 5) (pa_cons (uv 3) pa_nil)))))))))
  pss_nil)
  (pss_cons (s_if (t_cmp (c_op o_eqI (uv 4) pe_int))
  (pss_one (ps_ret (c__law_way_told.pe (hr.mono (by decide)) pass0 (pa_cons (uv 0) (pa_cons (uv 1) (pa_cons (uv 6) (pa_cons (uv 7) (pa_cons (uv 8) (pa_cons (uv 5) (pa_cons (uv 3) pa_nil))))))))))
  pss_nil)
  (pss_cons (s_if (t_cmp (c_op o_eqI (uv 4) pe_int))
  (pss_cons (ps_set (i := 9) nd rfl (by first | exact Or.inl rfl | exact Or.inr rfl) (c_Book_parts.pe0 T.cl (hr.mono (by decide)) pass0 (uv 0)))
  (pss_cons (s_if (t_not (t_val (c__law_alike.pe (hr.mono (by decide)) pass0 (pa_cons (uv 9) (pa_cons (c__law_parts.pe (hr.mono (by decide)) pass0 (pa_cons (uv 6) pa_nil)) pa_nil)))))
  (pss_one (ps_ret pe_bl))
  pss_nil)
  (Evl.pss_cut (s_if (PW.pt (w_and (t_cmp (c_op o_gt (pe_callB l_seq (by rfl) M.m_len (by decide +kernel) (pa_cons (uv 9) pa_nil)) pe_int)) (pw_and1 (t_cmp (c_op o_eqI (pe_op o_mod (uv 3) pe_int) pe_int)))))
  (pss_one (ps_expr (pe_bm PySem.F.plainAttrs_list PySem.F.slot_list_append PySem.F.type_list_append m_append (pe_ix x_list (uv 9) pe_int plainIx) (pa_cons pe_str pa_nil))))
  pss_nil)
  (pss_one (ps_ret (c__law_keep.pe (hr.mono (by decide)) pass0 (pa_cons (uv 5) (pa_cons (uv 9) (pa_cons (u_lc (own := [("_law_part_here", 10)]) (g := (gName 10)) (tt := tYes) rfl nd (pi_list (uv 9)) (blkOk_by (N := N__law_asked) (sc := defScope s__law_asked) (own := [("_law_part_here", 10)]) (by decide +kernel)) (fun _ _ _ _ _ => (pg_name (i := 10) nd rfl (by first | exact Or.inl rfl | exact Or.inr rfl))) (fun _ _ _ _ _ => pts_nil) (fun _ _ _ _ _ => (pe_callTy b_list (by rfl) M.m_list (by decide +kernel) (pa_cons (uv 10) pa_nil)))) (pa_cons (pe_op o_div (uv 3) pe_int) pa_nil))))))))))
  pss_nil)
  (pss_cons (s_if (t_cmp (c_op o_eqI (uv 4) pe_int))
  (pss_cons (ps_set (i := 9) nd rfl (by first | exact Or.inl rfl | exact Or.inr rfl) (c_Book_heights.pe0 T.cl (hr.mono (by decide)) pass0 (uv 0)))
  (pss_one (ps_ret (v_and (c__law_heights.pe (hr.mono (by decide)) pass0 (pa_cons (uv 9) (pa_cons (uv 1) (pa_cons (uv 6) pa_nil)))) (pe_one (c__law_keep.pe (hr.mono (by decide)) pass0 (pa_cons (uv 5) (pa_cons (uv 9) (pa_cons (pe_callTy b_list (by rfl) M.m_list (by decide +kernel) (pa_cons (uv 9) pa_nil)) (pa_cons (uv 3) pa_nil))))))))))
  pss_nil)
  (pss_cons (s_if (t_cmp (c_op o_eqI (uv 4) pe_int))
  (pss_one (ps_ret (c__law_spare.pe (hr.mono (by decide)) pass0 (pa_cons (uv 0) (pa_cons (uv 1) (pa_cons (uv 3) pa_nil))))))
  pss_nil)
  (pss_cons (ps_set (i := 9) nd rfl (by first | exact Or.inl rfl | exact Or.inr rfl) (c_Book_kept.pe0 T.cl (hr.mono (by decide)) pass0 (uv 0)))
  (pss_one (ps_ret (v_and (c__law_rows.pe (hr.mono (by decide)) pass0 (pa_cons (uv 9) (pa_cons (uv 1) pa_nil))) (pe_one (c__law_keep.pe (hr.mono (by decide)) pass0 (pa_cons (uv 5) (pa_cons (uv 9) (pa_cons (pe_callTy b_list (by rfl) M.m_list (by decide +kernel) (pa_cons (uv 9) pa_nil)) (pa_cons (uv 3) pa_nil)))))))))))))))))), rd__law_asked T h⟩
abbrev s__law_deed : Stmt := top 51
theorem sc__law_deed : FnScope N__law_deed ["_law_book", "_law_rows_here", "_law_box", "_law_most", "_law_sighting_here", "_law_number", "_law_held"] (defScope s__law_deed) := ⟨rfl, rfl, rfl, by decide +kernel, rfl, by decide +kernel, by decide +kernel⟩
theorem ok__law_deed {A : Ad} {f : Addr} {fd : FuncData} (F : Fun K "_law_deed" "_law_deed" s__law_deed f fd) (hm : mg "_law_deed" = some (.ref f)) (hb : Binds K fd ["_law_book", "_law_rows_here", "_law_box", "_law_most", "_law_sighting_here", "_law_number", "_law_held"] []) (M : Mg mg) (G : Gx mg K A) (T : Tx K A) (c__law_no_sighting : Cal P w K mg base CX0 5 "_law_no_sighting" ["_law_book", "_law_one", "_law_other", "_law_rise_here", "_law_cell"] (sp__law_no_sighting K A)) (c__law_no_peg : Cal P w K mg base CX0 6 "_law_no_peg" ["_law_book", "_law_one", "_law_cell"] (sp__law_no_peg K A)) (c__law_no_number : Cal P w K mg base CX0 5 "_law_no_number" ["_law_book", "_law_box", "_law_rows_here", "_law_cell"] (sp__law_no_number K A)) (c__law_drop : Cal P w K mg base CX0 4 "_law_drop" ["_law_book", "_law_rows_here", "_law_number"] (sp__law_drop K A)) (c__law_take : Cal P w K mg base CX0 5 "_law_take" ["_law_book", "_law_rows_here", "_law_box", "_law_most", "_law_sighting_here", "_law_held"] (sp__law_take K A)) :
    Cal P w K mg base CX0 7 "_law_deed" ["_law_book", "_law_rows_here", "_law_box", "_law_most", "_law_sighting_here", "_law_number", "_law_held"] (sp__law_deed K A) := by
  refine ⟨f, fd, F.ok sc__law_deed (fun vs H Q E h => ?_) (fun cdv A' outer s H vs Q E hr h => ?_), hm, F.kp, hb⟩
  · unfold sp__law_deed at h
    first
      | (obtain ⟨rfl, _⟩ := h; rfl)
      | (obtain ⟨_, rfl, _⟩ := h; rfl)
      | (obtain ⟨_, _, rfl, _⟩ := h; rfl)
      | (obtain ⟨_, _, _, rfl, _⟩ := h; rfl)
      | (obtain ⟨_, _, _, _, rfl, _⟩ := h; rfl)
      | (obtain ⟨_, _, _, _, _, rfl, _⟩ := h; rfl)
      | (obtain ⟨_, _, _, _, _, _, rfl, _⟩ := h; rfl)
      | (obtain ⟨_, _, _, _, _, _, _, rfl, _⟩ := h; rfl)
      | (obtain ⟨_, _, _, _, _, _, _, _, rfl, _⟩ := h; rfl)
      | (obtain ⟨_, _, _, _, _, _, _, _, _, rfl, _⟩ := h; rfl)
      | (obtain ⟨_, _, _, _, _, _, _, _, _, _, rfl, _⟩ := h; rfl)
      | (obtain ⟨_, _, _, _, _, _, _, _, _, _, _, rfl, _⟩ := h; rfl)
      | (obtain ⟨_, _, _, _, _, _, _, _, _, _, _, _, rfl, _⟩ := h; rfl)
      | (obtain ⟨_, _, _, _, _, _, _, _, _, _, _, _, _, rfl, _⟩ := h; rfl)
      | (obtain ⟨_, _, _, _, _, _, _, _, _, _, _, _, _, _, rfl, _⟩ := h; rfl)
      | (obtain ⟨_, _, _, _, _, _, _, _, _, _, _, _, _, _, _, rfl, _⟩ := h; rfl)
      | (obtain ⟨_, _, _, _, _, _, _, _, _, _, _, _, _, _, _, _, rfl, _⟩ := h; rfl)
      | (obtain ⟨_, _, _, _, _, _, _, _, _, _, _, _, _, _, _, _, _, rfl, _⟩ := h; rfl)
      | (obtain ⟨_, _, _, _, _, _, _, _, _, _, _, _, _, _, _, _, _, _, rfl, _⟩ := h; rfl)
      | (obtain ⟨_, _, _, _, _, _, _, _, _, _, _, _, _, _, _, _, _, _, _, rfl, _⟩ := h; rfl)
      | (obtain ⟨_, _, _, _, _, _, _, _, _, _, _, _, _, _, _, _, _, _, _, _, rfl, _⟩ := h; rfl)
      | (obtain ⟨_, _, _, _, _, _, _, _, _, _, _, _, _, _, _, _, _, _, _, _, _, rfl, _⟩ := h; rfl)
      | (obtain ⟨_, _, _, _, _, _, _, _, _, _, _, _, _, _, _, _, _, _, _, _, _, _, rfl, _⟩ := h; rfl)
      | (obtain ⟨_, _, _, _, _, _, _, _, _, _, _, _, _, _, _, _, _, _, _, _, _, _, _, rfl, _⟩ := h; rfl)
      | (obtain ⟨_, _, _, _, _, _, _, _, _, _, _, _, _, _, _, _, _, _, _, _, _, _, _, _, rfl, _⟩ := h; rfl)
      | (obtain ⟨_, _, _, _, _, _, _, _, _, _, _, _, _, _, _, _, _, _, _, _, _, _, _, _, _, rfl, _⟩ := h; rfl)
      | (obtain ⟨_, _, _, _, _, _, _, _, _, _, _, _, _, _, _, _, _, _, _, _, _, _, _, _, _, _, rfl, _⟩ := h; rfl)
      | (obtain ⟨_, _, _, _, _, _, _, _, _, _, _, _, _, _, _, _, _, _, _, _, _, _, _, _, _, _, _, rfl, _⟩ := h; rfl)
  have hu := hu_of hr
  have hu64 := hr.units
  have hu65 := hr.u65
  have nd := sc__law_deed.nd
  exact ⟨t__law_deed K A, (pss_cons (ps_set (i := 7) nd rfl (by first | exact Or.inl rfl | exact Or.inr rfl) (pe_op o_mod (pe_op o_mod (pe_op o_mul (uv 5) pe_int) pe_int) pe_int))
  (pss_cons (s_if (t_cmp (c_op o_eqI (uv 7) pe_int))
  (pss_cons (s_if (t_cmp (c_op o_eqI (pe_op o_mod (uv 5) pe_int) pe_int))
  (pss_one (ps_ret (c__law_no_sighting.pe (hr.mono (by decide)) pass0 (pa_cons (uv 0) (pa_cons (pe_ix x_tup (uv 4) pe_int plainIx) (pa_cons (pe_ix x_tup (uv 4) pe_int plainIx) (pa_cons (pe_ix x_tup (uv 4) pe_int plainIx) (pa_cons (pe_op o_div (uv 5) pe_int) pa_nil))))))))
  pss_nil)
  (pss_cons (s_if (t_cmp (c_op o_eqI (pe_op o_mod (uv 5) pe_int) pe_int))
  (pss_one (ps_ret (c__law_no_peg.pe (hr.mono (by decide)) pass0 (pa_cons (uv 0) (pa_cons (pe_ix x_tup (uv 4) pe_int plainIx) (pa_cons (pe_op o_div (uv 5) pe_int) pa_nil))))))
  pss_nil)
  (pss_one (ps_ret (c__law_no_number.pe (hr.mono (by decide)) pass0 (pa_cons (uv 0) (pa_cons (uv 2) (pa_cons (uv 1) (pa_cons (pe_op o_div (uv 5) pe_int) pa_nil)))))))))
  pss_nil)
  (pss_cons (s_if (PW.pt (w_or (t_cmp (c_op o_ge (pe_callB l_seq (by rfl) M.m_len (by decide +kernel) (pa_cons (uv 1) pa_nil)) pe_int)) (pw_or1 (PW.pt (w_and (t_cmp (c_op o_gt (pe_callB l_seq (by rfl) M.m_len (by decide +kernel) (pa_cons (uv 1) pa_nil)) pe_int)) (pw_and1 (t_cmp (c_op o_gt (uv 7) pe_int))))))))
  (pss_one (ps_ret (c__law_drop.pe (hr.mono (by decide)) pass0 (pa_cons (uv 0) (pa_cons (uv 1) (pa_cons (pe_op o_div (uv 5) pe_int) pa_nil))))))
  pss_nil)
  (pss_one (ps_ret (c__law_take.pe (hr.mono (by decide)) pass0 (pa_cons (uv 0) (pa_cons (uv 1) (pa_cons (uv 2) (pa_cons (uv 3) (pa_cons (uv 4) (pa_cons (uv 6) pa_nil)))))))))))), rd__law_deed T h⟩
abbrev s_law : Stmt := top 52
theorem sc_law : FnScope N_law ["_law_script"] (defScope s_law) := ⟨rfl, rfl, rfl, by decide +kernel, rfl, by decide +kernel, by decide +kernel⟩
theorem ok_law {A : Ad} {f : Addr} {fd : FuncData} (F : Fun K "law" "law" s_law f fd) (hm : mg "law" = some (.ref f)) (hb : Binds K fd ["_law_script"] []) (M : Mg mg) (G : Gx mg K A) (T : Tx K A) (c__law_cell_at : Cal P w K mg base CX0 1 "_law_cell_at" ["_law_script", "_law_k"] (sp__law_cell_at K)) (c__law_pegs : Cal P w K mg base CX0 2 "_law_pegs" ["_law_cell", "_law_many"] (sp__law_pegs K)) (c__law_highs : Cal P w K mg base CX0 1 "_law_highs" ["_law_some", "_law_cell"] (sp__law_highs K)) (c_Book___init__ : CalK P w K mg base 1 A.Book "Book" ["self", "most"] (sp_Book___init__ K A) [.int 200]) (c__law_sighting : Cal P w K mg base CX0 1 "_law_sighting" ["_law_some", "_law_highs_here", "_law_cell", "_law_k"] (sp__law_sighting K)) (c__law_deed : Cal P w K mg base CX0 7 "_law_deed" ["_law_book", "_law_rows_here", "_law_box", "_law_most", "_law_sighting_here", "_law_number", "_law_held"] (sp__law_deed K A)) (c__law_asked : Cal P w K mg base CX0 7 "_law_asked" ["_law_book", "_law_rows_here", "_law_some", "_law_number", "_law_ask", "_law_held"] (sp__law_asked K A)) :
    Cal P w K mg base CX0 8 "law" ["_law_script"] (sp_law K) := by
  refine ⟨f, fd, F.ok sc_law (fun vs H Q E h => ?_) (fun cdv A' outer s H vs Q E hr h => ?_), hm, F.kp, hb⟩
  · unfold sp_law at h
    first
      | (obtain ⟨rfl, _⟩ := h; rfl)
      | (obtain ⟨_, rfl, _⟩ := h; rfl)
      | (obtain ⟨_, _, rfl, _⟩ := h; rfl)
      | (obtain ⟨_, _, _, rfl, _⟩ := h; rfl)
      | (obtain ⟨_, _, _, _, rfl, _⟩ := h; rfl)
      | (obtain ⟨_, _, _, _, _, rfl, _⟩ := h; rfl)
      | (obtain ⟨_, _, _, _, _, _, rfl, _⟩ := h; rfl)
      | (obtain ⟨_, _, _, _, _, _, _, rfl, _⟩ := h; rfl)
      | (obtain ⟨_, _, _, _, _, _, _, _, rfl, _⟩ := h; rfl)
      | (obtain ⟨_, _, _, _, _, _, _, _, _, rfl, _⟩ := h; rfl)
      | (obtain ⟨_, _, _, _, _, _, _, _, _, _, rfl, _⟩ := h; rfl)
      | (obtain ⟨_, _, _, _, _, _, _, _, _, _, _, rfl, _⟩ := h; rfl)
      | (obtain ⟨_, _, _, _, _, _, _, _, _, _, _, _, rfl, _⟩ := h; rfl)
      | (obtain ⟨_, _, _, _, _, _, _, _, _, _, _, _, _, rfl, _⟩ := h; rfl)
      | (obtain ⟨_, _, _, _, _, _, _, _, _, _, _, _, _, _, rfl, _⟩ := h; rfl)
      | (obtain ⟨_, _, _, _, _, _, _, _, _, _, _, _, _, _, _, rfl, _⟩ := h; rfl)
      | (obtain ⟨_, _, _, _, _, _, _, _, _, _, _, _, _, _, _, _, rfl, _⟩ := h; rfl)
      | (obtain ⟨_, _, _, _, _, _, _, _, _, _, _, _, _, _, _, _, _, rfl, _⟩ := h; rfl)
      | (obtain ⟨_, _, _, _, _, _, _, _, _, _, _, _, _, _, _, _, _, _, rfl, _⟩ := h; rfl)
      | (obtain ⟨_, _, _, _, _, _, _, _, _, _, _, _, _, _, _, _, _, _, _, rfl, _⟩ := h; rfl)
      | (obtain ⟨_, _, _, _, _, _, _, _, _, _, _, _, _, _, _, _, _, _, _, _, rfl, _⟩ := h; rfl)
      | (obtain ⟨_, _, _, _, _, _, _, _, _, _, _, _, _, _, _, _, _, _, _, _, _, rfl, _⟩ := h; rfl)
      | (obtain ⟨_, _, _, _, _, _, _, _, _, _, _, _, _, _, _, _, _, _, _, _, _, _, rfl, _⟩ := h; rfl)
      | (obtain ⟨_, _, _, _, _, _, _, _, _, _, _, _, _, _, _, _, _, _, _, _, _, _, _, rfl, _⟩ := h; rfl)
      | (obtain ⟨_, _, _, _, _, _, _, _, _, _, _, _, _, _, _, _, _, _, _, _, _, _, _, _, rfl, _⟩ := h; rfl)
      | (obtain ⟨_, _, _, _, _, _, _, _, _, _, _, _, _, _, _, _, _, _, _, _, _, _, _, _, _, rfl, _⟩ := h; rfl)
      | (obtain ⟨_, _, _, _, _, _, _, _, _, _, _, _, _, _, _, _, _, _, _, _, _, _, _, _, _, _, rfl, _⟩ := h; rfl)
      | (obtain ⟨_, _, _, _, _, _, _, _, _, _, _, _, _, _, _, _, _, _, _, _, _, _, _, _, _, _, _, rfl, _⟩ := h; rfl)
  have hu := hu_of hr
  have hu64 := hr.units
  have hu65 := hr.u65
  have nd := sc_law.nd
  exact ⟨t_law K A, (pss_cons (ps_set (i := 1) nd rfl (by first | exact Or.inl rfl | exact Or.inr rfl) (pe_op o_mod (pe_op o_mul (pe_op o_add (pe_op o_mod (c__law_cell_at.pe (hr.mono (by decide)) pass0 (pa_cons (uv 0) (pa_cons pe_int pa_nil))) pe_int) pe_int) pe_int) pe_int))
  (pss_cons (ps_set (i := 2) nd rfl (by first | exact Or.inl rfl | exact Or.inr rfl) (c__law_pegs.pe (hr.mono (by decide)) pass0 (pa_cons (c__law_cell_at.pe (hr.mono (by decide)) pass0 (pa_cons (uv 0) (pa_cons pe_int pa_nil))) (pa_cons (pe_op o_add pe_int (pe_op o_mod (c__law_cell_at.pe (hr.mono (by decide)) pass0 (pa_cons (uv 0) (pa_cons pe_int pa_nil))) pe_int)) pa_nil))))
  (pss_cons (ps_set (i := 3) nd rfl (by first | exact Or.inl rfl | exact Or.inr rfl) (c__law_highs.pe (hr.mono (by decide)) pass0 (pa_cons (uv 2) (pa_cons (c__law_cell_at.pe (hr.mono (by decide)) pass0 (pa_cons (uv 0) (pa_cons pe_int pa_nil))) pa_nil))))
  (pss_cons (ps_set (i := 4) nd rfl (by first | exact Or.inl rfl | exact Or.inr rfl) (pe_op o_mod (uv 1) pe_int))
  (pss_cons (ps_set (i := 5) nd rfl (by first | exact Or.inl rfl | exact Or.inr rfl) (c_Book___init__.pe (hr.mono (by decide)) (pa_cons (uv 4) pa_nil)))
  (Evl.pss_cut (s_if (t_cmp (c_op o_eqI (pe_op o_mod (pe_op o_div (uv 1) pe_int) pe_int) pe_int))
  (pss_cons (ps_set (i := 4) nd rfl (by first | exact Or.inl rfl | exact Or.inr rfl) pe_int)
  (pss_one (ps_set (i := 5) nd rfl (by first | exact Or.inl rfl | exact Or.inr rfl) (c_Book___init__.pe0 (hr.mono (by decide))))))
  pss_nil)
  (pss_cons (ps_set (i := 6) nd rfl (by first | exact Or.inl rfl | exact Or.inr rfl) (e_lst pa_nil))
  (pss_cons (ps_set (i := 7) nd rfl (by first | exact Or.inl rfl | exact Or.inr rfl) (e_lst (pa_cons pe_int pa_nil)))
  (pss_cons (ps_set (i := 8) nd rfl (by first | exact Or.inl rfl | exact Or.inr rfl) (e_lst pa_nil))
  (pss_cons (ps_for pnever rfl (pi_range2 (by rfl) M.m_range (pa_cons pe_int (pa_cons (pe_callB (b_min rfl) (by rfl) M.m_min (by decide +kernel) (pa_cons (pe_callB l_seq (by rfl) M.m_len (by decide +kernel) (pa_cons (uv 0) pa_nil)) (pa_cons pe_int pa_nil))) pa_nil))) (pg_name (i := 9) nd rfl (by first | exact Or.inl rfl | exact Or.inr rfl))
  (pss_cons (ps_set (i := 10) nd rfl (by first | exact Or.inl rfl | exact Or.inr rfl) (pe_op o_add (pe_op o_mod (pe_op o_add (pe_ix x_list (uv 0) (uv 9) plainIx) (pe_op o_mul (uv 9) (uv 9))) pe_int) pe_int))
  (pss_cons (ps_set (i := 11) nd rfl (by first | exact Or.inl rfl | exact Or.inr rfl) (c__law_sighting.pe (hr.mono (by decide)) pass0 (pa_cons (uv 2) (pa_cons (uv 3) (pa_cons (pe_ix x_list (uv 0) (uv 9) plainIx) (pa_cons (uv 9) pa_nil))))))
  (pss_cons (s_if (t_not (t_val (c__law_deed.pe (hr.mono (by decide)) pass0 (pa_cons (uv 5) (pa_cons (uv 6) (pa_cons (uv 7) (pa_cons (uv 4) (pa_cons (uv 11) (pa_cons (uv 10) (pa_cons (uv 8) pa_nil))))))))))
  (pss_one (ps_ret pe_bl))
  pss_nil)
  (pss_one (s_if (t_not (t_val (c__law_asked.pe (hr.mono (by decide)) pass0 (pa_cons (uv 5) (pa_cons (uv 6) (pa_cons (uv 2) (pa_cons (uv 10) (pa_cons (pe_op o_mod (pe_op o_mod (pe_op o_mul (uv 10) pe_int) pe_int) pe_int) (pa_cons (uv 8) pa_nil)))))))))
  (pss_one (ps_ret pe_bl))
  pss_nil))))))
  (pss_cons (ps_for pnever rfl (pi_range1 (by rfl) M.m_range (pa_cons pe_int pa_nil)) (pg_name (i := 9) nd rfl (by first | exact Or.inl rfl | exact Or.inr rfl))
  (pss_one (s_if (t_not (t_val (c__law_asked.pe (hr.mono (by decide)) pass0 (pa_cons (uv 5) (pa_cons (uv 6) (pa_cons (uv 2) (pa_cons (pe_op o_add (pe_callB l_seq (by rfl) M.m_len (by decide +kernel) (pa_cons (uv 0) pa_nil)) (pe_op o_mul (uv 9) pe_int)) (pa_cons (pe_op o_mod (pe_op o_add (uv 9) (pe_callB l_seq (by rfl) M.m_len (by decide +kernel) (pa_cons (uv 0) pa_nil))) pe_int) (pa_cons (uv 8) pa_nil)))))))))
  (pss_one (ps_ret pe_bl))
  pss_nil)))
  (pss_cons (ps_for pnever rfl (pi_list (uv 8)) (pg_name (i := 12) nd rfl (by first | exact Or.inl rfl | exact Or.inr rfl))
  (pss_one (s_if (t_cmp (c_op (op_neD hu64) (pe_ix x_list (uv 12) pe_int plainIx) (pe_ix x_list (uv 12) pe_int plainIx)))
  (pss_one (ps_ret pe_bl))
  pss_nil)))
  (pss_one (ps_ret pe_bl)))))))))))))), rd_law T h⟩
end
section
variable {P : Program} {w : World} {K : PySem.W.Frag} {mg : Str → Option Value} {base : Heap}
theorem fn_law {A : Ad} {f : Addr} {fd : FuncData} (F : Fun K "law" "law" s_law f fd) (M : Mg mg) (G : Gx mg K A) (T : Tx K A) (c__law_cell_at : Cal P w K mg base CX0 1 "_law_cell_at" ["_law_script", "_law_k"] (sp__law_cell_at K)) (c__law_pegs : Cal P w K mg base CX0 2 "_law_pegs" ["_law_cell", "_law_many"] (sp__law_pegs K)) (c__law_highs : Cal P w K mg base CX0 1 "_law_highs" ["_law_some", "_law_cell"] (sp__law_highs K)) (c_Book___init__ : CalK P w K mg base 1 A.Book "Book" ["self", "most"] (sp_Book___init__ K A) [.int 200]) (c__law_sighting : Cal P w K mg base CX0 1 "_law_sighting" ["_law_some", "_law_highs_here", "_law_cell", "_law_k"] (sp__law_sighting K)) (c__law_deed : Cal P w K mg base CX0 7 "_law_deed" ["_law_book", "_law_rows_here", "_law_box", "_law_most", "_law_sighting_here", "_law_number", "_law_held"] (sp__law_deed K A)) (c__law_asked : Cal P w K mg base CX0 7 "_law_asked" ["_law_book", "_law_rows_here", "_law_some", "_law_number", "_law_ask", "_law_held"] (sp__law_asked K A)) :
    FnOk P w K mg base CX0 8 f fd ["_law_script"] (sp_law K) := by
  refine F.ok sc_law (fun vs H Q E h => ?_) (fun cdv A' outer s H vs Q E hr h => ?_)
  · unfold sp_law at h
    first
      | (obtain ⟨rfl, _⟩ := h; rfl)
      | (obtain ⟨_, rfl, _⟩ := h; rfl)
      | (obtain ⟨_, _, rfl, _⟩ := h; rfl)
      | (obtain ⟨_, _, _, rfl, _⟩ := h; rfl)
      | (obtain ⟨_, _, _, _, rfl, _⟩ := h; rfl)
      | (obtain ⟨_, _, _, _, _, rfl, _⟩ := h; rfl)
      | (obtain ⟨_, _, _, _, _, _, rfl, _⟩ := h; rfl)
      | (obtain ⟨_, _, _, _, _, _, _, rfl, _⟩ := h; rfl)
      | (obtain ⟨_, _, _, _, _, _, _, _, rfl, _⟩ := h; rfl)
      | (obtain ⟨_, _, _, _, _, _, _, _, _, rfl, _⟩ := h; rfl)
      | (obtain ⟨_, _, _, _, _, _, _, _, _, _, rfl, _⟩ := h; rfl)
      | (obtain ⟨_, _, _, _, _, _, _, _, _, _, _, rfl, _⟩ := h; rfl)
      | (obtain ⟨_, _, _, _, _, _, _, _, _, _, _, _, rfl, _⟩ := h; rfl)
      | (obtain ⟨_, _, _, _, _, _, _, _, _, _, _, _, _, rfl, _⟩ := h; rfl)
      | (obtain ⟨_, _, _, _, _, _, _, _, _, _, _, _, _, _, rfl, _⟩ := h; rfl)
      | (obtain ⟨_, _, _, _, _, _, _, _, _, _, _, _, _, _, _, rfl, _⟩ := h; rfl)
      | (obtain ⟨_, _, _, _, _, _, _, _, _, _, _, _, _, _, _, _, rfl, _⟩ := h; rfl)
      | (obtain ⟨_, _, _, _, _, _, _, _, _, _, _, _, _, _, _, _, _, rfl, _⟩ := h; rfl)
      | (obtain ⟨_, _, _, _, _, _, _, _, _, _, _, _, _, _, _, _, _, _, rfl, _⟩ := h; rfl)
      | (obtain ⟨_, _, _, _, _, _, _, _, _, _, _, _, _, _, _, _, _, _, _, rfl, _⟩ := h; rfl)
      | (obtain ⟨_, _, _, _, _, _, _, _, _, _, _, _, _, _, _, _, _, _, _, _, rfl, _⟩ := h; rfl)
      | (obtain ⟨_, _, _, _, _, _, _, _, _, _, _, _, _, _, _, _, _, _, _, _, _, rfl, _⟩ := h; rfl)
      | (obtain ⟨_, _, _, _, _, _, _, _, _, _, _, _, _, _, _, _, _, _, _, _, _, _, rfl, _⟩ := h; rfl)
      | (obtain ⟨_, _, _, _, _, _, _, _, _, _, _, _, _, _, _, _, _, _, _, _, _, _, _, rfl, _⟩ := h; rfl)
      | (obtain ⟨_, _, _, _, _, _, _, _, _, _, _, _, _, _, _, _, _, _, _, _, _, _, _, _, rfl, _⟩ := h; rfl)
      | (obtain ⟨_, _, _, _, _, _, _, _, _, _, _, _, _, _, _, _, _, _, _, _, _, _, _, _, _, rfl, _⟩ := h; rfl)
      | (obtain ⟨_, _, _, _, _, _, _, _, _, _, _, _, _, _, _, _, _, _, _, _, _, _, _, _, _, _, rfl, _⟩ := h; rfl)
      | (obtain ⟨_, _, _, _, _, _, _, _, _, _, _, _, _, _, _, _, _, _, _, _, _, _, _, _, _, _, _, rfl, _⟩ := h; rfl)
  have hu := hu_of hr
  have hu64 := hr.units
  have hu65 := hr.u65
  have nd := sc_law.nd
  exact ⟨t_law K A, (pss_cons (ps_set (i := 1) nd rfl (by first | exact Or.inl rfl | exact Or.inr rfl) (pe_op o_mod (pe_op o_mul (pe_op o_add (pe_op o_mod (c__law_cell_at.pe (hr.mono (by decide)) pass0 (pa_cons (uv 0) (pa_cons pe_int pa_nil))) pe_int) pe_int) pe_int) pe_int))
  (pss_cons (ps_set (i := 2) nd rfl (by first | exact Or.inl rfl | exact Or.inr rfl) (c__law_pegs.pe (hr.mono (by decide)) pass0 (pa_cons (c__law_cell_at.pe (hr.mono (by decide)) pass0 (pa_cons (uv 0) (pa_cons pe_int pa_nil))) (pa_cons (pe_op o_add pe_int (pe_op o_mod (c__law_cell_at.pe (hr.mono (by decide)) pass0 (pa_cons (uv 0) (pa_cons pe_int pa_nil))) pe_int)) pa_nil))))
  (pss_cons (ps_set (i := 3) nd rfl (by first | exact Or.inl rfl | exact Or.inr rfl) (c__law_highs.pe (hr.mono (by decide)) pass0 (pa_cons (uv 2) (pa_cons (c__law_cell_at.pe (hr.mono (by decide)) pass0 (pa_cons (uv 0) (pa_cons pe_int pa_nil))) pa_nil))))
  (pss_cons (ps_set (i := 4) nd rfl (by first | exact Or.inl rfl | exact Or.inr rfl) (pe_op o_mod (uv 1) pe_int))
  (pss_cons (ps_set (i := 5) nd rfl (by first | exact Or.inl rfl | exact Or.inr rfl) (c_Book___init__.pe (hr.mono (by decide)) (pa_cons (uv 4) pa_nil)))
  (Evl.pss_cut (s_if (t_cmp (c_op o_eqI (pe_op o_mod (pe_op o_div (uv 1) pe_int) pe_int) pe_int))
  (pss_cons (ps_set (i := 4) nd rfl (by first | exact Or.inl rfl | exact Or.inr rfl) pe_int)
  (pss_one (ps_set (i := 5) nd rfl (by first | exact Or.inl rfl | exact Or.inr rfl) (c_Book___init__.pe0 (hr.mono (by decide))))))
  pss_nil)
  (pss_cons (ps_set (i := 6) nd rfl (by first | exact Or.inl rfl | exact Or.inr rfl) (e_lst pa_nil))
  (pss_cons (ps_set (i := 7) nd rfl (by first | exact Or.inl rfl | exact Or.inr rfl) (e_lst (pa_cons pe_int pa_nil)))
  (pss_cons (ps_set (i := 8) nd rfl (by first | exact Or.inl rfl | exact Or.inr rfl) (e_lst pa_nil))
  (pss_cons (ps_for pnever rfl (pi_range2 (by rfl) M.m_range (pa_cons pe_int (pa_cons (pe_callB (b_min rfl) (by rfl) M.m_min (by decide +kernel) (pa_cons (pe_callB l_seq (by rfl) M.m_len (by decide +kernel) (pa_cons (uv 0) pa_nil)) (pa_cons pe_int pa_nil))) pa_nil))) (pg_name (i := 9) nd rfl (by first | exact Or.inl rfl | exact Or.inr rfl))
  (pss_cons (ps_set (i := 10) nd rfl (by first | exact Or.inl rfl | exact Or.inr rfl) (pe_op o_add (pe_op o_mod (pe_op o_add (pe_ix x_list (uv 0) (uv 9) plainIx) (pe_op o_mul (uv 9) (uv 9))) pe_int) pe_int))
  (pss_cons (ps_set (i := 11) nd rfl (by first | exact Or.inl rfl | exact Or.inr rfl) (c__law_sighting.pe (hr.mono (by decide)) pass0 (pa_cons (uv 2) (pa_cons (uv 3) (pa_cons (pe_ix x_list (uv 0) (uv 9) plainIx) (pa_cons (uv 9) pa_nil))))))
  (pss_cons (s_if (t_not (t_val (c__law_deed.pe (hr.mono (by decide)) pass0 (pa_cons (uv 5) (pa_cons (uv 6) (pa_cons (uv 7) (pa_cons (uv 4) (pa_cons (uv 11) (pa_cons (uv 10) (pa_cons (uv 8) pa_nil))))))))))
  (pss_one (ps_ret pe_bl))
  pss_nil)
  (pss_one (s_if (t_not (t_val (c__law_asked.pe (hr.mono (by decide)) pass0 (pa_cons (uv 5) (pa_cons (uv 6) (pa_cons (uv 2) (pa_cons (uv 10) (pa_cons (pe_op o_mod (pe_op o_mod (pe_op o_mul (uv 10) pe_int) pe_int) pe_int) (pa_cons (uv 8) pa_nil)))))))))
  (pss_one (ps_ret pe_bl))
  pss_nil))))))
  (pss_cons (ps_for pnever rfl (pi_range1 (by rfl) M.m_range (pa_cons pe_int pa_nil)) (pg_name (i := 9) nd rfl (by first | exact Or.inl rfl | exact Or.inr rfl))
  (pss_one (s_if (t_not (t_val (c__law_asked.pe (hr.mono (by decide)) pass0 (pa_cons (uv 5) (pa_cons (uv 6) (pa_cons (uv 2) (pa_cons (pe_op o_add (pe_callB l_seq (by rfl) M.m_len (by decide +kernel) (pa_cons (uv 0) pa_nil)) (pe_op o_mul (uv 9) pe_int)) (pa_cons (pe_op o_mod (pe_op o_add (uv 9) (pe_callB l_seq (by rfl) M.m_len (by decide +kernel) (pa_cons (uv 0) pa_nil))) pe_int) (pa_cons (uv 8) pa_nil)))))))))
  (pss_one (ps_ret pe_bl))
  pss_nil)))
  (pss_cons (ps_for pnever rfl (pi_list (uv 8)) (pg_name (i := 12) nd rfl (by first | exact Or.inl rfl | exact Or.inr rfl))
  (pss_one (s_if (t_cmp (c_op (op_neD hu64) (pe_ix x_list (uv 12) pe_int plainIx) (pe_ix x_list (uv 12) pe_int plainIx)))
  (pss_one (ps_ret pe_bl))
  pss_nil)))
  (pss_one (ps_ret pe_bl)))))))))))))), rd_law T h⟩
end
theorem all_mk {l : PySem.W.OpenLaw} {w : World} {K : PySem.W.Frag} {h : Heap} {mg : Str → Option Value} {fa : Addr} {ABook APegError ANoSighting AFull AAgainst ANoNumber ANoWay ANoText : Addr} {oxnAgainst oxqAgainst : Str} {oxNAgainst : Addr} {oxbAgainst oxmAgainst oxsAgainst : List Value} {oxlAgainst : List Str} {oxaAgainst : Bool} {oxcAgainst : Option Bool} {oxdAgainst : Option Addr} {ox0Against ox1Against ox2Against ox3Against ox5Against : Option Value} {oxnNoWay oxqNoWay : Str} {oxNNoWay : Addr} {oxbNoWay oxmNoWay oxsNoWay : List Value} {oxlNoWay : List Str} {oxaNoWay : Bool} {oxcNoWay : Option Bool} {oxdNoWay : Option Addr} {ox0NoWay ox1NoWay ox2NoWay ox3NoWay ox5NoWay : Option Value} {f0 : Addr} {od0 an0 : Option Addr} {sl0 : Array (Option Value)} {oc0 kV0 dc0 pm0 cd0 ct0 : Value} {f1 : Addr} {od1 an1 : Option Addr} {sl1 : Array (Option Value)} {oc1 kV1 dc1 pm1 cd1 ct1 : Value} {f2 : Addr} {od2 an2 : Option Addr} {sl2 : Array (Option Value)} {oc2 kV2 dc2 pm2 cd2 ct2 : Value} {f3 : Addr} {od3 an3 : Option Addr} {sl3 : Array (Option Value)} {oc3 kV3 dc3 pm3 cd3 ct3 : Value} {f4 : Addr} {od4 an4 : Option Addr} {sl4 : Array (Option Value)} {oc4 kV4 dc4 pm4 cd4 ct4 : Value} {f5 : Addr} {od5 an5 : Option Addr} {sl5 : Array (Option Value)} {oc5 kV5 dc5 pm5 cd5 ct5 : Value} {f6 : Addr} {od6 an6 : Option Addr} {sl6 : Array (Option Value)} {oc6 kV6 dc6 pm6 cd6 ct6 : Value} {f7 : Addr} {od7 an7 : Option Addr} {sl7 : Array (Option Value)} {oc7 kV7 dc7 pm7 cd7 ct7 : Value} {f8 : Addr} {od8 an8 : Option Addr} {sl8 : Array (Option Value)} {oc8 kV8 dc8 pm8 cd8 ct8 : Value} {f9 : Addr} {od9 an9 : Option Addr} {sl9 : Array (Option Value)} {oc9 kV9 dc9 pm9 cd9 ct9 : Value} {f10 : Addr} {od10 an10 : Option Addr} {sl10 : Array (Option Value)} {oc10 kV10 dc10 pm10 cd10 ct10 : Value} {f11 : Addr} {od11 an11 : Option Addr} {sl11 : Array (Option Value)} {oc11 kV11 dc11 pm11 cd11 ct11 : Value} {dT11 : Addr} {dO11 : Option Addr} {dC11 : Value} {dK11 : Tok} {dN11 : Nat} {dS11 : Array (Option Value)} {f12 : Addr} {od12 an12 : Option Addr} {sl12 : Array (Option Value)} {oc12 kV12 dc12 pm12 cd12 ct12 : Value} {f13 : Addr} {od13 an13 : Option Addr} {sl13 : Array (Option Value)} {oc13 kV13 dc13 pm13 cd13 ct13 : Value} {f14 : Addr} {od14 an14 : Option Addr} {sl14 : Array (Option Value)} {oc14 kV14 dc14 pm14 cd14 ct14 : Value} {f15 : Addr} {od15 an15 : Option Addr} {sl15 : Array (Option Value)} {oc15 kV15 dc15 pm15 cd15 ct15 : Value} {f16 : Addr} {od16 an16 : Option Addr} {sl16 : Array (Option Value)} {oc16 kV16 dc16 pm16 cd16 ct16 : Value} {f17 : Addr} {od17 an17 : Option Addr} {sl17 : Array (Option Value)} {oc17 kV17 dc17 pm17 cd17 ct17 : Value} {f18 : Addr} {od18 an18 : Option Addr} {sl18 : Array (Option Value)} {oc18 kV18 dc18 pm18 cd18 ct18 : Value} {f19 : Addr} {od19 an19 : Option Addr} {sl19 : Array (Option Value)} {oc19 kV19 dc19 pm19 cd19 ct19 : Value} {f20 : Addr} {od20 an20 : Option Addr} {sl20 : Array (Option Value)} {oc20 kV20 dc20 pm20 cd20 ct20 : Value} {f21 : Addr} {od21 an21 : Option Addr} {sl21 : Array (Option Value)} {oc21 kV21 dc21 pm21 cd21 ct21 : Value} {f22 : Addr} {od22 an22 : Option Addr} {sl22 : Array (Option Value)} {oc22 kV22 dc22 pm22 cd22 ct22 : Value} {f23 : Addr} {od23 an23 : Option Addr} {sl23 : Array (Option Value)} {oc23 kV23 dc23 pm23 cd23 ct23 : Value} {f24 : Addr} {od24 an24 : Option Addr} {sl24 : Array (Option Value)} {oc24 kV24 dc24 pm24 cd24 ct24 : Value} {f25 : Addr} {od25 an25 : Option Addr} {sl25 : Array (Option Value)} {oc25 kV25 dc25 pm25 cd25 ct25 : Value} {f26 : Addr} {od26 an26 : Option Addr} {sl26 : Array (Option Value)} {oc26 kV26 dc26 pm26 cd26 ct26 : Value} {f27 : Addr} {od27 an27 : Option Addr} {sl27 : Array (Option Value)} {oc27 kV27 dc27 pm27 cd27 ct27 : Value} {f28 : Addr} {od28 an28 : Option Addr} {sl28 : Array (Option Value)} {oc28 kV28 dc28 pm28 cd28 ct28 : Value} {f29 : Addr} {od29 an29 : Option Addr} {sl29 : Array (Option Value)} {oc29 kV29 dc29 pm29 cd29 ct29 : Value} {f30 : Addr} {od30 an30 : Option Addr} {sl30 : Array (Option Value)} {oc30 kV30 dc30 pm30 cd30 ct30 : Value} {f31 : Addr} {od31 an31 : Option Addr} {sl31 : Array (Option Value)} {oc31 kV31 dc31 pm31 cd31 ct31 : Value} {f32 : Addr} {od32 an32 : Option Addr} {sl32 : Array (Option Value)} {oc32 kV32 dc32 pm32 cd32 ct32 : Value} {f33 : Addr} {od33 an33 : Option Addr} {sl33 : Array (Option Value)} {oc33 kV33 dc33 pm33 cd33 ct33 : Value} {f34 : Addr} {od34 an34 : Option Addr} {sl34 : Array (Option Value)} {oc34 kV34 dc34 pm34 cd34 ct34 : Value} {f35 : Addr} {od35 an35 : Option Addr} {sl35 : Array (Option Value)} {oc35 kV35 dc35 pm35 cd35 ct35 : Value} {f36 : Addr} {od36 an36 : Option Addr} {sl36 : Array (Option Value)} {oc36 kV36 dc36 pm36 cd36 ct36 : Value} {f37 : Addr} {od37 an37 : Option Addr} {sl37 : Array (Option Value)} {oc37 kV37 dc37 pm37 cd37 ct37 : Value} {f38 : Addr} {od38 an38 : Option Addr} {sl38 : Array (Option Value)} {oc38 kV38 dc38 pm38 cd38 ct38 : Value} {f39 : Addr} {od39 an39 : Option Addr} {sl39 : Array (Option Value)} {oc39 kV39 dc39 pm39 cd39 ct39 : Value} {f40 : Addr} {od40 an40 : Option Addr} {sl40 : Array (Option Value)} {oc40 kV40 dc40 pm40 cd40 ct40 : Value} {f41 : Addr} {od41 an41 : Option Addr} {sl41 : Array (Option Value)} {oc41 kV41 dc41 pm41 cd41 ct41 : Value} {f42 : Addr} {od42 an42 : Option Addr} {sl42 : Array (Option Value)} {oc42 kV42 dc42 pm42 cd42 ct42 : Value} {f43 : Addr} {od43 an43 : Option Addr} {sl43 : Array (Option Value)} {oc43 kV43 dc43 pm43 cd43 ct43 : Value} {f44 : Addr} {od44 an44 : Option Addr} {sl44 : Array (Option Value)} {oc44 kV44 dc44 pm44 cd44 ct44 : Value} {f45 : Addr} {od45 an45 : Option Addr} {sl45 : Array (Option Value)} {oc45 kV45 dc45 pm45 cd45 ct45 : Value} {f46 : Addr} {od46 an46 : Option Addr} {sl46 : Array (Option Value)} {oc46 kV46 dc46 pm46 cd46 ct46 : Value} {f47 : Addr} {od47 an47 : Option Addr} {sl47 : Array (Option Value)} {oc47 kV47 dc47 pm47 cd47 ct47 : Value} {f48 : Addr} {od48 an48 : Option Addr} {sl48 : Array (Option Value)} {oc48 kV48 dc48 pm48 cd48 ct48 : Value} {f49 : Addr} {od49 an49 : Option Addr} {sl49 : Array (Option Value)} {oc49 kV49 dc49 pm49 cd49 ct49 : Value} {tk_LETTERS : Tok} {tk_BOUND : Tok} (X : K.In h) (G : h.Ns mainGlobals mg) (hfa : mg "law" = some (.ref fa))
    (aaBook : PySem.W.nsIn K mainGlobals "Book" = some (some (.ref ABook)))
    (aaPegError : PySem.W.nsIn K mainGlobals "PegError" = some (some (.ref APegError)))
    (aaNoSighting : PySem.W.nsIn K mainGlobals "NoSighting" = some (some (.ref ANoSighting)))
    (aaFull : PySem.W.nsIn K mainGlobals "Full" = some (some (.ref AFull)))
    (aaAgainst : PySem.W.nsIn K mainGlobals "Against" = some (some (.ref AAgainst)))
    (aaNoNumber : PySem.W.nsIn K mainGlobals "NoNumber" = some (some (.ref ANoNumber)))
    (aaNoWay : PySem.W.nsIn K mainGlobals "NoWay" = some (some (.ref ANoWay)))
    (aaNoText : PySem.W.nsIn K mainGlobals "NoText" = some (some (.ref ANoText)))
    (rxNoSighting : PySem.W.excIn K ANoSighting [.type "ValueError", .type "Exception", .type "BaseException", .type "object"] "ValueError.__new__" = true)
    (rxFull : PySem.W.excIn K AFull [.type "ValueError", .type "Exception", .type "BaseException", .type "object"] "ValueError.__new__" = true)
    (rxNoNumber : PySem.W.excIn K ANoNumber [.type "ValueError", .type "Exception", .type "BaseException", .type "object"] "ValueError.__new__" = true)
    (pg : PySem.W.plainGet K ABook Str.empty = true)
    (hd : PySem.W.hasDictIn K ABook = true)
    (po : PySem.W.plainOver K ABook = true)
    (sa : PySem.W.findIn K (.ref ABook) "__setattr__" = some (some (.builtin "object.__setattr__")))
    (mk : PySem.W.makesIn K ABook = true)
    (kc : PySem.W.keepIn K (.ref ABook) = true)
    (n1 : PySem.W.findIn K (.ref ABook) "most" = some none)
    (n2 : PySem.W.findIn K (.ref ABook) "taken" = some none)
    (n3 : PySem.W.findIn K (.ref ABook) "by_number" = some none)
    (bha : PySem.W.findIn K (.ref ABook) "__class__" = some (some (.builtin "object.__class__")))
    (bhm : PySem.W.mroIn K ABook (.type "object") = some true)
    (pB : PySem.W.subIn K (.ref APegError) (.type "BaseException") = some true)
    (pD : PySem.W.hasDictIn K APegError = true)
    (pT : PySem.W.typeIn K (.ref APegError) = some (.type "type"))
    (suNoSighting : PySem.W.subIn K (.ref ANoSighting) (.ref APegError) = some true)
    (kvNoSighting : PySem.W.subIn K (.ref ANoSighting) (.type "ValueError") = some true)
    (clNoSighting : PySem.W.isClsIn K ANoSighting = true)
    (tyNoSighting : PySem.W.typeIn K (.ref ANoSighting) = some (.type "type"))
    (ehgNoSighting : PySem.W.findIn K (.ref ANoSighting) "__getattribute__" = some (some (.builtin "BaseException.__getattribute__")))
    (ehkNoSighting : PySem.W.findIn K (.ref ANoSighting) "__getattr__" = some none)
    (ehsNoSighting : PySem.W.subIn K (.ref ANoSighting) (.type "BaseException") = some true)
    (ehdNoSighting : PySem.W.hasDictIn K ANoSighting = true)
    (ehaNoSighting : PySem.W.findIn K (.ref ANoSighting) "__class__" = some (some (.builtin "object.__class__")))
    (ehmNoSighting : PySem.W.mroIn K ANoSighting (.type "object") = some true)
    (kiNoSighting_NoSighting : PySem.W.subIn K (.ref ANoSighting) (.ref ANoSighting) = some true)
    (kiNoSighting_Full : PySem.W.subIn K (.ref ANoSighting) (.ref AFull) = some false)
    (kiNoSighting_Against : PySem.W.subIn K (.ref ANoSighting) (.ref AAgainst) = some false)
    (kiNoSighting_NoNumber : PySem.W.subIn K (.ref ANoSighting) (.ref ANoNumber) = some false)
    (kiNoSighting_NoWay : PySem.W.subIn K (.ref ANoSighting) (.ref ANoWay) = some false)
    (kiNoSighting_NoText : PySem.W.subIn K (.ref ANoSighting) (.ref ANoText) = some false)
    (suFull : PySem.W.subIn K (.ref AFull) (.ref APegError) = some true)
    (kvFull : PySem.W.subIn K (.ref AFull) (.type "ValueError") = some true)
    (clFull : PySem.W.isClsIn K AFull = true)
    (tyFull : PySem.W.typeIn K (.ref AFull) = some (.type "type"))
    (ehgFull : PySem.W.findIn K (.ref AFull) "__getattribute__" = some (some (.builtin "BaseException.__getattribute__")))
    (ehkFull : PySem.W.findIn K (.ref AFull) "__getattr__" = some none)
    (ehsFull : PySem.W.subIn K (.ref AFull) (.type "BaseException") = some true)
    (ehdFull : PySem.W.hasDictIn K AFull = true)
    (ehaFull : PySem.W.findIn K (.ref AFull) "__class__" = some (some (.builtin "object.__class__")))
    (ehmFull : PySem.W.mroIn K AFull (.type "object") = some true)
    (kiFull_NoSighting : PySem.W.subIn K (.ref AFull) (.ref ANoSighting) = some false)
    (kiFull_Full : PySem.W.subIn K (.ref AFull) (.ref AFull) = some true)
    (kiFull_Against : PySem.W.subIn K (.ref AFull) (.ref AAgainst) = some false)
    (kiFull_NoNumber : PySem.W.subIn K (.ref AFull) (.ref ANoNumber) = some false)
    (kiFull_NoWay : PySem.W.subIn K (.ref AFull) (.ref ANoWay) = some false)
    (kiFull_NoText : PySem.W.subIn K (.ref AFull) (.ref ANoText) = some false)
    (suAgainst : PySem.W.subIn K (.ref AAgainst) (.ref APegError) = some true)
    (kvAgainst : PySem.W.subIn K (.ref AAgainst) (.type "ValueError") = some true)
    (clAgainst : PySem.W.isClsIn K AAgainst = true)
    (tyAgainst : PySem.W.typeIn K (.ref AAgainst) = some (.type "type"))
    (ehgAgainst : PySem.W.findIn K (.ref AAgainst) "__getattribute__" = some (some (.builtin "BaseException.__getattribute__")))
    (ehkAgainst : PySem.W.findIn K (.ref AAgainst) "__getattr__" = some none)
    (ehsAgainst : PySem.W.subIn K (.ref AAgainst) (.type "BaseException") = some true)
    (ehdAgainst : PySem.W.hasDictIn K AAgainst = true)
    (ehaAgainst : PySem.W.findIn K (.ref AAgainst) "__class__" = some (some (.builtin "object.__class__")))
    (ehmAgainst : PySem.W.mroIn K AAgainst (.type "object") = some true)
    (kiAgainst_NoSighting : PySem.W.subIn K (.ref AAgainst) (.ref ANoSighting) = some false)
    (kiAgainst_Full : PySem.W.subIn K (.ref AAgainst) (.ref AFull) = some false)
    (kiAgainst_Against : PySem.W.subIn K (.ref AAgainst) (.ref AAgainst) = some true)
    (kiAgainst_NoNumber : PySem.W.subIn K (.ref AAgainst) (.ref ANoNumber) = some false)
    (kiAgainst_NoWay : PySem.W.subIn K (.ref AAgainst) (.ref ANoWay) = some false)
    (kiAgainst_NoText : PySem.W.subIn K (.ref AAgainst) (.ref ANoText) = some false)
    (suNoNumber : PySem.W.subIn K (.ref ANoNumber) (.ref APegError) = some true)
    (kvNoNumber : PySem.W.subIn K (.ref ANoNumber) (.type "ValueError") = some true)
    (clNoNumber : PySem.W.isClsIn K ANoNumber = true)
    (tyNoNumber : PySem.W.typeIn K (.ref ANoNumber) = some (.type "type"))
    (ehgNoNumber : PySem.W.findIn K (.ref ANoNumber) "__getattribute__" = some (some (.builtin "BaseException.__getattribute__")))
    (ehkNoNumber : PySem.W.findIn K (.ref ANoNumber) "__getattr__" = some none)
    (ehsNoNumber : PySem.W.subIn K (.ref ANoNumber) (.type "BaseException") = some true)
    (ehdNoNumber : PySem.W.hasDictIn K ANoNumber = true)
    (ehaNoNumber : PySem.W.findIn K (.ref ANoNumber) "__class__" = some (some (.builtin "object.__class__")))
    (ehmNoNumber : PySem.W.mroIn K ANoNumber (.type "object") = some true)
    (kiNoNumber_NoSighting : PySem.W.subIn K (.ref ANoNumber) (.ref ANoSighting) = some false)
    (kiNoNumber_Full : PySem.W.subIn K (.ref ANoNumber) (.ref AFull) = some false)
    (kiNoNumber_Against : PySem.W.subIn K (.ref ANoNumber) (.ref AAgainst) = some false)
    (kiNoNumber_NoNumber : PySem.W.subIn K (.ref ANoNumber) (.ref ANoNumber) = some true)
    (kiNoNumber_NoWay : PySem.W.subIn K (.ref ANoNumber) (.ref ANoWay) = some false)
    (kiNoNumber_NoText : PySem.W.subIn K (.ref ANoNumber) (.ref ANoText) = some false)
    (suNoWay : PySem.W.subIn K (.ref ANoWay) (.ref APegError) = some true)
    (kvNoWay : PySem.W.subIn K (.ref ANoWay) (.type "ValueError") = some true)
    (clNoWay : PySem.W.isClsIn K ANoWay = true)
    (tyNoWay : PySem.W.typeIn K (.ref ANoWay) = some (.type "type"))
    (ehgNoWay : PySem.W.findIn K (.ref ANoWay) "__getattribute__" = some (some (.builtin "BaseException.__getattribute__")))
    (ehkNoWay : PySem.W.findIn K (.ref ANoWay) "__getattr__" = some none)
    (ehsNoWay : PySem.W.subIn K (.ref ANoWay) (.type "BaseException") = some true)
    (ehdNoWay : PySem.W.hasDictIn K ANoWay = true)
    (ehaNoWay : PySem.W.findIn K (.ref ANoWay) "__class__" = some (some (.builtin "object.__class__")))
    (ehmNoWay : PySem.W.mroIn K ANoWay (.type "object") = some true)
    (kiNoWay_NoSighting : PySem.W.subIn K (.ref ANoWay) (.ref ANoSighting) = some false)
    (kiNoWay_Full : PySem.W.subIn K (.ref ANoWay) (.ref AFull) = some false)
    (kiNoWay_Against : PySem.W.subIn K (.ref ANoWay) (.ref AAgainst) = some false)
    (kiNoWay_NoNumber : PySem.W.subIn K (.ref ANoWay) (.ref ANoNumber) = some false)
    (kiNoWay_NoWay : PySem.W.subIn K (.ref ANoWay) (.ref ANoWay) = some true)
    (kiNoWay_NoText : PySem.W.subIn K (.ref ANoWay) (.ref ANoText) = some false)
    (suNoText : PySem.W.subIn K (.ref ANoText) (.ref APegError) = some true)
    (kvNoText : PySem.W.subIn K (.ref ANoText) (.type "ValueError") = some true)
    (clNoText : PySem.W.isClsIn K ANoText = true)
    (tyNoText : PySem.W.typeIn K (.ref ANoText) = some (.type "type"))
    (ehgNoText : PySem.W.findIn K (.ref ANoText) "__getattribute__" = some (some (.builtin "BaseException.__getattribute__")))
    (ehkNoText : PySem.W.findIn K (.ref ANoText) "__getattr__" = some none)
    (ehsNoText : PySem.W.subIn K (.ref ANoText) (.type "BaseException") = some true)
    (ehdNoText : PySem.W.hasDictIn K ANoText = true)
    (ehaNoText : PySem.W.findIn K (.ref ANoText) "__class__" = some (some (.builtin "object.__class__")))
    (ehmNoText : PySem.W.mroIn K ANoText (.type "object") = some true)
    (kiNoText_NoSighting : PySem.W.subIn K (.ref ANoText) (.ref ANoSighting) = some false)
    (kiNoText_Full : PySem.W.subIn K (.ref ANoText) (.ref AFull) = some false)
    (kiNoText_Against : PySem.W.subIn K (.ref ANoText) (.ref AAgainst) = some false)
    (kiNoText_NoNumber : PySem.W.subIn K (.ref ANoText) (.ref ANoNumber) = some false)
    (kiNoText_NoWay : PySem.W.subIn K (.ref ANoText) (.ref ANoWay) = some false)
    (kiNoText_NoText : PySem.W.subIn K (.ref ANoText) (.ref ANoText) = some true)
    (pC : PySem.W.isClsIn K APegError = true)
    (pS : PySem.W.subIn K (.ref APegError) (.ref APegError) = some true)
    (iRd : PySem.W.readsIn K APegError (.type "type") = true)
    (iGa : PySem.W.specialIn K (.ref APegError) "__getattribute__" = some (some (.builtin "type.__getattribute__")))
    (iVi : PySem.W.findCls K (.ref APegError) (.type "type") "__init__" = some (.val (.builtin "ValueError.__init__")))
    (oxKAgainst : K.lookup AAgainst = some (excClassObj oxnAgainst oxqAgainst AAgainst oxNAgainst oxbAgainst oxmAgainst true oxlAgainst oxsAgainst oxaAgainst oxcAgainst oxdAgainst ox0Against ox1Against ox2Against ox3Against ox5Against "ValueError.__new__"))
    (oxSAgainst : PySem.W.findIn K (.ref AAgainst) "__setattr__" = some (some (.builtin "object.__setattr__")))
    (oxPAgainst : PySem.W.keepIn K (.ref AAgainst) = true)
    (oxAAgainst : PySem.W.findIn K (.ref AAgainst) "trail" = some none)
    (oxKNoWay : K.lookup ANoWay = some (excClassObj oxnNoWay oxqNoWay ANoWay oxNNoWay oxbNoWay oxmNoWay true oxlNoWay oxsNoWay oxaNoWay oxcNoWay oxdNoWay ox0NoWay ox1NoWay ox2NoWay ox3NoWay ox5NoWay "ValueError.__new__"))
    (oxSNoWay : PySem.W.findIn K (.ref ANoWay) "__setattr__" = some (some (.builtin "object.__setattr__")))
    (oxPNoWay : PySem.W.keepIn K (.ref ANoWay) = true)
    (oxANoWay : PySem.W.findIn K (.ref ANoWay) "near" = some none)
    (ehn : PySem.W.specialIn K (.builtin "object.__class__") "__get__" = some (some (.builtin "getset_descriptor.__get__")))
    (eht : PySem.W.takesIn K (.builtin "object.__class__") = some true)
    (rkNoSighting : PySem.W.keepIn K (.ref ANoSighting) = true)
    (rtNoSighting : PySem.W.typeIn K (.ref ANoSighting) = some (.type "type"))
    (rkFull : PySem.W.keepIn K (.ref AFull) = true)
    (rtFull : PySem.W.typeIn K (.ref AFull) = some (.type "type"))
    (rkNoNumber : PySem.W.keepIn K (.ref ANoNumber) = true)
    (rtNoNumber : PySem.W.typeIn K (.ref ANoNumber) = some (.type "type"))
    (a0 : PySem.W.findIn K (.ref AAgainst) "__init__" = some (some (.ref f0))) (i0 : PySem.W.typeIn K (.ref f0) = some (.type "function"))
    (l0 : K.lookup f0 = some ⟨oc0, od0, .func (PySem.W.fnOf "__init__" "Against.__init__" (defArgs s_Against___init__) (defBody s_Against___init__) (defScope s_Against___init__) .none kV0 dc0 pm0 an0 cd0 ct0), sl0⟩) (c0 : PySem.W.codeIn K cd0 "Against.__init__" = true) (k0 : PySem.W.keepIn K (.ref f0) = true)
    (a1 : PySem.W.findIn K (.ref ANoWay) "__init__" = some (some (.ref f1))) (i1 : PySem.W.typeIn K (.ref f1) = some (.type "function"))
    (l1 : K.lookup f1 = some ⟨oc1, od1, .func (PySem.W.fnOf "__init__" "NoWay.__init__" (defArgs s_NoWay___init__) (defBody s_NoWay___init__) (defScope s_NoWay___init__) .none kV1 dc1 pm1 an1 cd1 ct1), sl1⟩) (c1 : PySem.W.codeIn K cd1 "NoWay.__init__" = true) (k1 : PySem.W.keepIn K (.ref f1) = true)
    (a2 : PySem.W.nsIn K mainGlobals "is_whole" = some (some (.ref f2)))
    (l2 : K.lookup f2 = some ⟨oc2, od2, .func (PySem.W.fnOf "is_whole" "is_whole" (defArgs s_is_whole) (defBody s_is_whole) (defScope s_is_whole) .none kV2 dc2 pm2 an2 cd2 ct2), sl2⟩) (c2 : PySem.W.codeIn K cd2 "is_whole" = true) (k2 : PySem.W.keepIn K (.ref f2) = true)
    (a3 : PySem.W.nsIn K mainGlobals "is_peg" = some (some (.ref f3)))
    (l3 : K.lookup f3 = some ⟨oc3, od3, .func (PySem.W.fnOf "is_peg" "is_peg" (defArgs s_is_peg) (defBody s_is_peg) (defScope s_is_peg) .none kV3 dc3 pm3 an3 cd3 ct3), sl3⟩) (c3 : PySem.W.codeIn K cd3 "is_peg" = true) (k3 : PySem.W.keepIn K (.ref f3) = true)
    (a4 : PySem.W.nsIn K mainGlobals "is_sighting" = some (some (.ref f4)))
    (l4 : K.lookup f4 = some ⟨oc4, od4, .func (PySem.W.fnOf "is_sighting" "is_sighting" (defArgs s_is_sighting) (defBody s_is_sighting) (defScope s_is_sighting) .none kV4 dc4 pm4 an4 cd4 ct4), sl4⟩) (c4 : PySem.W.codeIn K cd4 "is_sighting" = true) (k4 : PySem.W.keepIn K (.ref f4) = true)
    (a5 : PySem.W.nsIn K mainGlobals "row_turned" = some (some (.ref f5)))
    (l5 : K.lookup f5 = some ⟨oc5, od5, .func (PySem.W.fnOf "row_turned" "row_turned" (defArgs s_row_turned) (defBody s_row_turned) (defScope s_row_turned) .none kV5 dc5 pm5 an5 cd5 ct5), sl5⟩) (c5 : PySem.W.codeIn K cd5 "row_turned" = true) (k5 : PySem.W.keepIn K (.ref f5) = true)
    (a6 : PySem.W.nsIn K mainGlobals "total" = some (some (.ref f6)))
    (l6 : K.lookup f6 = some ⟨oc6, od6, .func (PySem.W.fnOf "total" "total" (defArgs s_total) (defBody s_total) (defScope s_total) .none kV6 dc6 pm6 an6 cd6 ct6), sl6⟩) (c6 : PySem.W.codeIn K cd6 "total" = true) (k6 : PySem.W.keepIn K (.ref f6) = true)
    (a7 : PySem.W.nsIn K mainGlobals "leaving" = some (some (.ref f7)))
    (l7 : K.lookup f7 = some ⟨oc7, od7, .func (PySem.W.fnOf "leaving" "leaving" (defArgs s_leaving) (defBody s_leaving) (defScope s_leaving) .none kV7 dc7 pm7 an7 cd7 ct7), sl7⟩) (c7 : PySem.W.codeIn K cd7 "leaving" = true) (k7 : PySem.W.keepIn K (.ref f7) = true)
    (a8 : PySem.W.nsIn K mainGlobals "reached" = some (some (.ref f8)))
    (l8 : K.lookup f8 = some ⟨oc8, od8, .func (PySem.W.fnOf "reached" "reached" (defArgs s_reached) (defBody s_reached) (defScope s_reached) .none kV8 dc8 pm8 an8 cd8 ct8), sl8⟩) (c8 : PySem.W.codeIn K cd8 "reached" = true) (k8 : PySem.W.keepIn K (.ref f8) = true)
    (a9 : PySem.W.nsIn K mainGlobals "way_along" = some (some (.ref f9)))
    (l9 : K.lookup f9 = some ⟨oc9, od9, .func (PySem.W.fnOf "way_along" "way_along" (defArgs s_way_along) (defBody s_way_along) (defScope s_way_along) .none kV9 dc9 pm9 an9 cd9 ct9), sl9⟩) (c9 : PySem.W.codeIn K cd9 "way_along" = true) (k9 : PySem.W.keepIn K (.ref f9) = true)
    (a10 : PySem.W.nsIn K mainGlobals "part_of" = some (some (.ref f10)))
    (l10 : K.lookup f10 = some ⟨oc10, od10, .func (PySem.W.fnOf "part_of" "part_of" (defArgs s_part_of) (defBody s_part_of) (defScope s_part_of) .none kV10 dc10 pm10 an10 cd10 ct10), sl10⟩) (c10 : PySem.W.codeIn K cd10 "part_of" = true) (k10 : PySem.W.keepIn K (.ref f10) = true)
    (a11 : PySem.W.findIn K (.ref ABook) "__init__" = some (some (.ref f11))) (i11 : PySem.W.isFn K (.ref f11) = true)
    (l11 : K.lookup f11 = some ⟨oc11, od11, .func (PySem.W.fnOf "__init__" "Book.__init__" (defArgs s_Book___init__) (defBody s_Book___init__) (defScope s_Book___init__) (.ref dT11) kV11 dc11 pm11 an11 cd11 ct11), sl11⟩) (c11 : PySem.W.codeIn K cd11 "Book.__init__" = true) (k11 : PySem.W.keepIn K (.ref f11) = true)
    (t11 : K.lookup dT11 = some ⟨dC11, dO11, .seq #[.int 200 dK11] dN11, dS11⟩)
    (a12 : PySem.W.findIn K (.ref ABook) "kept" = some (some (.ref f12))) (i12 : PySem.W.isFn K (.ref f12) = true)
    (l12 : K.lookup f12 = some ⟨oc12, od12, .func (PySem.W.fnOf "kept" "Book.kept" (defArgs s_Book_kept) (defBody s_Book_kept) (defScope s_Book_kept) .none kV12 dc12 pm12 an12 cd12 ct12), sl12⟩) (c12 : PySem.W.codeIn K cd12 "Book.kept" = true) (k12 : PySem.W.keepIn K (.ref f12) = true)
    (a13 : PySem.W.findIn K (.ref ABook) "take" = some (some (.ref f13))) (i13 : PySem.W.isFn K (.ref f13) = true)
    (l13 : K.lookup f13 = some ⟨oc13, od13, .func (PySem.W.fnOf "take" "Book.take" (defArgs s_Book_take) (defBody s_Book_take) (defScope s_Book_take) .none kV13 dc13 pm13 an13 cd13 ct13), sl13⟩) (c13 : PySem.W.codeIn K cd13 "Book.take" = true) (k13 : PySem.W.keepIn K (.ref f13) = true)
    (a14 : PySem.W.findIn K (.ref ABook) "row_by" = some (some (.ref f14))) (i14 : PySem.W.isFn K (.ref f14) = true)
    (l14 : K.lookup f14 = some ⟨oc14, od14, .func (PySem.W.fnOf "row_by" "Book.row_by" (defArgs s_Book_row_by) (defBody s_Book_row_by) (defScope s_Book_row_by) .none kV14 dc14 pm14 an14 cd14 ct14), sl14⟩) (c14 : PySem.W.codeIn K cd14 "Book.row_by" = true) (k14 : PySem.W.keepIn K (.ref f14) = true)
    (a15 : PySem.W.findIn K (.ref ABook) "drop" = some (some (.ref f15))) (i15 : PySem.W.isFn K (.ref f15) = true)
    (l15 : K.lookup f15 = some ⟨oc15, od15, .func (PySem.W.fnOf "drop" "Book.drop" (defArgs s_Book_drop) (defBody s_Book_drop) (defScope s_Book_drop) .none kV15 dc15 pm15 an15 cd15 ct15), sl15⟩) (c15 : PySem.W.codeIn K cd15 "Book.drop" = true) (k15 : PySem.W.keepIn K (.ref f15) = true)
    (a16 : PySem.W.findIn K (.ref ABook) "way" = some (some (.ref f16))) (i16 : PySem.W.isFn K (.ref f16) = true)
    (l16 : K.lookup f16 = some ⟨oc16, od16, .func (PySem.W.fnOf "way" "Book.way" (defArgs s_Book_way) (defBody s_Book_way) (defScope s_Book_way) .none kV16 dc16 pm16 an16 cd16 ct16), sl16⟩) (c16 : PySem.W.codeIn K cd16 "Book.way" = true) (k16 : PySem.W.keepIn K (.ref f16) = true)
    (a17 : PySem.W.findIn K (.ref ABook) "rise" = some (some (.ref f17))) (i17 : PySem.W.isFn K (.ref f17) = true)
    (l17 : K.lookup f17 = some ⟨oc17, od17, .func (PySem.W.fnOf "rise" "Book.rise" (defArgs s_Book_rise) (defBody s_Book_rise) (defScope s_Book_rise) .none kV17 dc17 pm17 an17 cd17 ct17), sl17⟩) (c17 : PySem.W.codeIn K cd17 "Book.rise" = true) (k17 : PySem.W.keepIn K (.ref f17) = true)
    (a18 : PySem.W.findIn K (.ref ABook) "parts" = some (some (.ref f18))) (i18 : PySem.W.isFn K (.ref f18) = true)
    (l18 : K.lookup f18 = some ⟨oc18, od18, .func (PySem.W.fnOf "parts" "Book.parts" (defArgs s_Book_parts) (defBody s_Book_parts) (defScope s_Book_parts) .none kV18 dc18 pm18 an18 cd18 ct18), sl18⟩) (c18 : PySem.W.codeIn K cd18 "Book.parts" = true) (k18 : PySem.W.keepIn K (.ref f18) = true)
    (a19 : PySem.W.findIn K (.ref ABook) "heights" = some (some (.ref f19))) (i19 : PySem.W.isFn K (.ref f19) = true)
    (l19 : K.lookup f19 = some ⟨oc19, od19, .func (PySem.W.fnOf "heights" "Book.heights" (defArgs s_Book_heights) (defBody s_Book_heights) (defScope s_Book_heights) .none kV19 dc19 pm19 an19 cd19 ct19), sl19⟩) (c19 : PySem.W.codeIn K cd19 "Book.heights" = true) (k19 : PySem.W.keepIn K (.ref f19) = true)
    (a20 : PySem.W.findIn K (.ref ABook) "spare" = some (some (.ref f20))) (i20 : PySem.W.isFn K (.ref f20) = true)
    (l20 : K.lookup f20 = some ⟨oc20, od20, .func (PySem.W.fnOf "spare" "Book.spare" (defArgs s_Book_spare) (defBody s_Book_spare) (defScope s_Book_spare) .none kV20 dc20 pm20 an20 cd20 ct20), sl20⟩) (c20 : PySem.W.codeIn K cd20 "Book.spare" = true) (k20 : PySem.W.keepIn K (.ref f20) = true)
    (a21 : PySem.W.nsIn K mainGlobals "_law_cell_at" = some (some (.ref f21)))
    (l21 : K.lookup f21 = some ⟨oc21, od21, .func (PySem.W.fnOf "_law_cell_at" "_law_cell_at" (defArgs s__law_cell_at) (defBody s__law_cell_at) (defScope s__law_cell_at) .none kV21 dc21 pm21 an21 cd21 ct21), sl21⟩) (c21 : PySem.W.codeIn K cd21 "_law_cell_at" = true) (k21 : PySem.W.keepIn K (.ref f21) = true)
    (a22 : PySem.W.nsIn K mainGlobals "_law_whole" = some (some (.ref f22)))
    (l22 : K.lookup f22 = some ⟨oc22, od22, .func (PySem.W.fnOf "_law_whole" "_law_whole" (defArgs s__law_whole) (defBody s__law_whole) (defScope s__law_whole) .none kV22 dc22 pm22 an22 cd22 ct22), sl22⟩) (c22 : PySem.W.codeIn K cd22 "_law_whole" = true) (k22 : PySem.W.keepIn K (.ref f22) = true)
    (a23 : PySem.W.nsIn K mainGlobals "_law_word" = some (some (.ref f23)))
    (l23 : K.lookup f23 = some ⟨oc23, od23, .func (PySem.W.fnOf "_law_word" "_law_word" (defArgs s__law_word) (defBody s__law_word) (defScope s__law_word) .none kV23 dc23 pm23 an23 cd23 ct23), sl23⟩) (c23 : PySem.W.codeIn K cd23 "_law_word" = true) (k23 : PySem.W.keepIn K (.ref f23) = true)
    (a24 : PySem.W.nsIn K mainGlobals "_law_pegs" = some (some (.ref f24)))
    (l24 : K.lookup f24 = some ⟨oc24, od24, .func (PySem.W.fnOf "_law_pegs" "_law_pegs" (defArgs s__law_pegs) (defBody s__law_pegs) (defScope s__law_pegs) .none kV24 dc24 pm24 an24 cd24 ct24), sl24⟩) (c24 : PySem.W.codeIn K cd24 "_law_pegs" = true) (k24 : PySem.W.keepIn K (.ref f24) = true)
    (a25 : PySem.W.nsIn K mainGlobals "_law_highs" = some (some (.ref f25)))
    (l25 : K.lookup f25 = some ⟨oc25, od25, .func (PySem.W.fnOf "_law_highs" "_law_highs" (defArgs s__law_highs) (defBody s__law_highs) (defScope s__law_highs) .none kV25 dc25 pm25 an25 cd25 ct25), sl25⟩) (c25 : PySem.W.codeIn K cd25 "_law_highs" = true) (k25 : PySem.W.keepIn K (.ref f25) = true)
    (a26 : PySem.W.nsIn K mainGlobals "_law_sighting" = some (some (.ref f26)))
    (l26 : K.lookup f26 = some ⟨oc26, od26, .func (PySem.W.fnOf "_law_sighting" "_law_sighting" (defArgs s__law_sighting) (defBody s__law_sighting) (defScope s__law_sighting) .none kV26 dc26 pm26 an26 cd26 ct26), sl26⟩) (c26 : PySem.W.codeIn K cd26 "_law_sighting" = true) (k26 : PySem.W.keepIn K (.ref f26) = true)
    (a27 : PySem.W.nsIn K mainGlobals "_law_tops" = some (some (.ref f27)))
    (l27 : K.lookup f27 = some ⟨oc27, od27, .func (PySem.W.fnOf "_law_tops" "_law_tops" (defArgs s__law_tops) (defBody s__law_tops) (defScope s__law_tops) .none kV27 dc27 pm27 an27 cd27 ct27), sl27⟩) (c27 : PySem.W.codeIn K cd27 "_law_tops" = true) (k27 : PySem.W.keepIn K (.ref f27) = true)
    (a28 : PySem.W.nsIn K mainGlobals "_law_gap" = some (some (.ref f28)))
    (l28 : K.lookup f28 = some ⟨oc28, od28, .func (PySem.W.fnOf "_law_gap" "_law_gap" (defArgs s__law_gap) (defBody s__law_gap) (defScope s__law_gap) .none kV28 dc28 pm28 an28 cd28 ct28), sl28⟩) (c28 : PySem.W.codeIn K cd28 "_law_gap" = true) (k28 : PySem.W.keepIn K (.ref f28) = true)
    (a29 : PySem.W.nsIn K mainGlobals "_law_step" = some (some (.ref f29)))
    (l29 : K.lookup f29 = some ⟨oc29, od29, .func (PySem.W.fnOf "_law_step" "_law_step" (defArgs s__law_step) (defBody s__law_step) (defScope s__law_step) .none kV29 dc29 pm29 an29 cd29 ct29), sl29⟩) (c29 : PySem.W.codeIn K cd29 "_law_step" = true) (k29 : PySem.W.keepIn K (.ref f29) = true)
    (a30 : PySem.W.nsIn K mainGlobals "_law_way" = some (some (.ref f30)))
    (l30 : K.lookup f30 = some ⟨oc30, od30, .func (PySem.W.fnOf "_law_way" "_law_way" (defArgs s__law_way) (defBody s__law_way) (defScope s__law_way) .none kV30 dc30 pm30 an30 cd30 ct30), sl30⟩) (c30 : PySem.W.codeIn K cd30 "_law_way" = true) (k30 : PySem.W.keepIn K (.ref f30) = true)
    (a31 : PySem.W.nsIn K mainGlobals "_law_kind" = some (some (.ref f31)))
    (l31 : K.lookup f31 = some ⟨oc31, od31, .func (PySem.W.fnOf "_law_kind" "_law_kind" (defArgs s__law_kind) (defBody s__law_kind) (defScope s__law_kind) .none kV31 dc31 pm31 an31 cd31 ct31), sl31⟩) (c31 : PySem.W.codeIn K cd31 "_law_kind" = true) (k31 : PySem.W.keepIn K (.ref f31) = true)
    (a32 : PySem.W.nsIn K mainGlobals "_law_rows" = some (some (.ref f32)))
    (l32 : K.lookup f32 = some ⟨oc32, od32, .func (PySem.W.fnOf "_law_rows" "_law_rows" (defArgs s__law_rows) (defBody s__law_rows) (defScope s__law_rows) .none kV32 dc32 pm32 an32 cd32 ct32), sl32⟩) (c32 : PySem.W.codeIn K cd32 "_law_rows" = true) (k32 : PySem.W.keepIn K (.ref f32) = true)
    (a33 : PySem.W.nsIn K mainGlobals "_law_part" = some (some (.ref f33)))
    (l33 : K.lookup f33 = some ⟨oc33, od33, .func (PySem.W.fnOf "_law_part" "_law_part" (defArgs s__law_part) (defBody s__law_part) (defScope s__law_part) .none kV33 dc33 pm33 an33 cd33 ct33), sl33⟩) (c33 : PySem.W.codeIn K cd33 "_law_part" = true) (k33 : PySem.W.keepIn K (.ref f33) = true)
    (a34 : PySem.W.nsIn K mainGlobals "_law_keep" = some (some (.ref f34)))
    (l34 : K.lookup f34 = some ⟨oc34, od34, .func (PySem.W.fnOf "_law_keep" "_law_keep" (defArgs s__law_keep) (defBody s__law_keep) (defScope s__law_keep) .none kV34 dc34 pm34 an34 cd34 ct34), sl34⟩) (c34 : PySem.W.codeIn K cd34 "_law_keep" = true) (k34 : PySem.W.keepIn K (.ref f34) = true)
    (a35 : PySem.W.nsIn K mainGlobals "_law_near" = some (some (.ref f35)))
    (l35 : K.lookup f35 = some ⟨oc35, od35, .func (PySem.W.fnOf "_law_near" "_law_near" (defArgs s__law_near) (defBody s__law_near) (defScope s__law_near) .none kV35 dc35 pm35 an35 cd35 ct35), sl35⟩) (c35 : PySem.W.codeIn K cd35 "_law_near" = true) (k35 : PySem.W.keepIn K (.ref f35) = true)
    (a36 : PySem.W.nsIn K mainGlobals "_law_rise" = some (some (.ref f36)))
    (l36 : K.lookup f36 = some ⟨oc36, od36, .func (PySem.W.fnOf "_law_rise" "_law_rise" (defArgs s__law_rise) (defBody s__law_rise) (defScope s__law_rise) .none kV36 dc36 pm36 an36 cd36 ct36), sl36⟩) (c36 : PySem.W.codeIn K cd36 "_law_rise" = true) (k36 : PySem.W.keepIn K (.ref f36) = true)
    (a37 : PySem.W.nsIn K mainGlobals "_law_parts" = some (some (.ref f37)))
    (l37 : K.lookup f37 = some ⟨oc37, od37, .func (PySem.W.fnOf "_law_parts" "_law_parts" (defArgs s__law_parts) (defBody s__law_parts) (defScope s__law_parts) .none kV37 dc37 pm37 an37 cd37 ct37), sl37⟩) (c37 : PySem.W.codeIn K cd37 "_law_parts" = true) (k37 : PySem.W.keepIn K (.ref f37) = true)
    (a38 : PySem.W.nsIn K mainGlobals "_law_alike" = some (some (.ref f38)))
    (l38 : K.lookup f38 = some ⟨oc38, od38, .func (PySem.W.fnOf "_law_alike" "_law_alike" (defArgs s__law_alike) (defBody s__law_alike) (defScope s__law_alike) .none kV38 dc38 pm38 an38 cd38 ct38), sl38⟩) (c38 : PySem.W.codeIn K cd38 "_law_alike" = true) (k38 : PySem.W.keepIn K (.ref f38) = true)
    (a39 : PySem.W.nsIn K mainGlobals "_law_heights" = some (some (.ref f39)))
    (l39 : K.lookup f39 = some ⟨oc39, od39, .func (PySem.W.fnOf "_law_heights" "_law_heights" (defArgs s__law_heights) (defBody s__law_heights) (defScope s__law_heights) .none kV39 dc39 pm39 an39 cd39 ct39), sl39⟩) (c39 : PySem.W.codeIn K cd39 "_law_heights" = true) (k39 : PySem.W.keepIn K (.ref f39) = true)
    (a40 : PySem.W.nsIn K mainGlobals "_law_take" = some (some (.ref f40)))
    (l40 : K.lookup f40 = some ⟨oc40, od40, .func (PySem.W.fnOf "_law_take" "_law_take" (defArgs s__law_take) (defBody s__law_take) (defScope s__law_take) .none kV40 dc40 pm40 an40 cd40 ct40), sl40⟩) (c40 : PySem.W.codeIn K cd40 "_law_take" = true) (k40 : PySem.W.keepIn K (.ref f40) = true)
    (a41 : PySem.W.nsIn K mainGlobals "_law_drop" = some (some (.ref f41)))
    (l41 : K.lookup f41 = some ⟨oc41, od41, .func (PySem.W.fnOf "_law_drop" "_law_drop" (defArgs s__law_drop) (defBody s__law_drop) (defScope s__law_drop) .none kV41 dc41 pm41 an41 cd41 ct41), sl41⟩) (c41 : PySem.W.codeIn K cd41 "_law_drop" = true) (k41 : PySem.W.keepIn K (.ref f41) = true)
    (a42 : PySem.W.nsIn K mainGlobals "_law_no_sighting" = some (some (.ref f42)))
    (l42 : K.lookup f42 = some ⟨oc42, od42, .func (PySem.W.fnOf "_law_no_sighting" "_law_no_sighting" (defArgs s__law_no_sighting) (defBody s__law_no_sighting) (defScope s__law_no_sighting) .none kV42 dc42 pm42 an42 cd42 ct42), sl42⟩) (c42 : PySem.W.codeIn K cd42 "_law_no_sighting" = true) (k42 : PySem.W.keepIn K (.ref f42) = true)
    (a43 : PySem.W.nsIn K mainGlobals "_law_no_peg" = some (some (.ref f43)))
    (l43 : K.lookup f43 = some ⟨oc43, od43, .func (PySem.W.fnOf "_law_no_peg" "_law_no_peg" (defArgs s__law_no_peg) (defBody s__law_no_peg) (defScope s__law_no_peg) .none kV43 dc43 pm43 an43 cd43 ct43), sl43⟩) (c43 : PySem.W.codeIn K cd43 "_law_no_peg" = true) (k43 : PySem.W.keepIn K (.ref f43) = true)
    (a44 : PySem.W.nsIn K mainGlobals "_law_no_number" = some (some (.ref f44)))
    (l44 : K.lookup f44 = some ⟨oc44, od44, .func (PySem.W.fnOf "_law_no_number" "_law_no_number" (defArgs s__law_no_number) (defBody s__law_no_number) (defScope s__law_no_number) .none kV44 dc44 pm44 an44 cd44 ct44), sl44⟩) (c44 : PySem.W.codeIn K cd44 "_law_no_number" = true) (k44 : PySem.W.keepIn K (.ref f44) = true)
    (a45 : PySem.W.nsIn K mainGlobals "_law_way_told" = some (some (.ref f45)))
    (l45 : K.lookup f45 = some ⟨oc45, od45, .func (PySem.W.fnOf "_law_way_told" "_law_way_told" (defArgs s__law_way_told) (defBody s__law_way_told) (defScope s__law_way_told) .none kV45 dc45 pm45 an45 cd45 ct45), sl45⟩) (c45 : PySem.W.codeIn K cd45 "_law_way_told" = true) (k45 : PySem.W.keepIn K (.ref f45) = true)
    (a46 : PySem.W.nsIn K mainGlobals "_law_spare" = some (some (.ref f46)))
    (l46 : K.lookup f46 = some ⟨oc46, od46, .func (PySem.W.fnOf "_law_spare" "_law_spare" (defArgs s__law_spare) (defBody s__law_spare) (defScope s__law_spare) .none kV46 dc46 pm46 an46 cd46 ct46), sl46⟩) (c46 : PySem.W.codeIn K cd46 "_law_spare" = true) (k46 : PySem.W.keepIn K (.ref f46) = true)
    (a47 : PySem.W.nsIn K mainGlobals "_law_asked" = some (some (.ref f47)))
    (l47 : K.lookup f47 = some ⟨oc47, od47, .func (PySem.W.fnOf "_law_asked" "_law_asked" (defArgs s__law_asked) (defBody s__law_asked) (defScope s__law_asked) .none kV47 dc47 pm47 an47 cd47 ct47), sl47⟩) (c47 : PySem.W.codeIn K cd47 "_law_asked" = true) (k47 : PySem.W.keepIn K (.ref f47) = true)
    (a48 : PySem.W.nsIn K mainGlobals "_law_deed" = some (some (.ref f48)))
    (l48 : K.lookup f48 = some ⟨oc48, od48, .func (PySem.W.fnOf "_law_deed" "_law_deed" (defArgs s__law_deed) (defBody s__law_deed) (defScope s__law_deed) .none kV48 dc48 pm48 an48 cd48 ct48), sl48⟩) (c48 : PySem.W.codeIn K cd48 "_law_deed" = true) (k48 : PySem.W.keepIn K (.ref f48) = true)
    (a49 : PySem.W.nsIn K mainGlobals "law" = some (some (.ref f49)))
    (l49 : K.lookup f49 = some ⟨oc49, od49, .func (PySem.W.fnOf "law" "law" (defArgs s_law) (defBody s_law) (defScope s_law) .none kV49 dc49 pm49 an49 cd49 ct49), sl49⟩) (c49 : PySem.W.codeIn K cd49 "law" = true) (k49 : PySem.W.keepIn K (.ref f49) = true)
    (z_int : PySem.W.nsIn K mainGlobals "int" = some none)
    (z_isinstance : PySem.W.nsIn K mainGlobals "isinstance" = some none)
    (z_bool : PySem.W.nsIn K mainGlobals "bool" = some none)
    (z_str : PySem.W.nsIn K mainGlobals "str" = some none)
    (z_len : PySem.W.nsIn K mainGlobals "len" = some none)
    (z_tuple : PySem.W.nsIn K mainGlobals "tuple" = some none)
    (z_abs : PySem.W.nsIn K mainGlobals "abs" = some none)
    (z_list : PySem.W.nsIn K mainGlobals "list" = some none)
    (z_reversed : PySem.W.nsIn K mainGlobals "reversed" = some none)
    (z_sorted : PySem.W.nsIn K mainGlobals "sorted" = some none)
    (z_range : PySem.W.nsIn K mainGlobals "range" = some none)
    (z_ValueError : PySem.W.nsIn K mainGlobals "ValueError" = some none)
    (z_sum : PySem.W.nsIn K mainGlobals "sum" = some none)
    (z_min : PySem.W.nsIn K mainGlobals "min" = some none)
    (z_LETTERS : PySem.W.nsIn K mainGlobals "LETTERS" = some (some (.str "abcdefghijklmnopqrstuvwxyz" tk_LETTERS)))
    (z_BOUND : PySem.W.nsIn K mainGlobals "BOUND" = some (some (.int (10 ^ 60) tk_BOUND)))
    (oxVAgainst : PySem.HandSPX.refsVE oxmAgainst = true)
    (oxVNoWay : PySem.HandSPX.refsVE oxmNoWay = true) :
    ∃ fd : FuncData, (∀ (s : Shared) (v : Value), BindsTo s fd ⟨[v], []⟩ [("_law_script", v)]) ∧ ∀ base : Heap, K.In base → base.Ns mainGlobals mg → FnOk l.prog w K mg base CX0 8 fa fd ["_law_script"] (sp_law K) := by
  have e := hfa.symm.trans (PySem.W.mg_of X G a49)
  cases e
  have M : Mg mg := ⟨PySem.W.mg_none_of X G z_int, PySem.W.mg_none_of X G z_isinstance, PySem.W.mg_none_of X G z_bool, PySem.W.mg_none_of X G z_str, PySem.W.mg_none_of X G z_len, PySem.W.mg_none_of X G z_tuple, PySem.W.mg_none_of X G z_abs, PySem.W.mg_none_of X G z_list, PySem.W.mg_none_of X G z_reversed, PySem.W.mg_none_of X G z_sorted, PySem.W.mg_none_of X G z_range, PySem.W.mg_none_of X G z_ValueError, PySem.W.mg_none_of X G z_sum, PySem.W.mg_none_of X G z_min, ⟨_, PySem.W.mg_of X G z_LETTERS⟩, ⟨_, PySem.W.mg_of X G z_BOUND⟩⟩
  let A : Ad := ⟨ABook, APegError, ANoSighting, AFull, AAgainst, ANoNumber, ANoWay, ANoText⟩
  have T : Tx K A := ⟨⟨pg, hd, po, sa⟩, n1, n2, n3, fun e => (match e with | .sighting => suNoSighting | .full => suFull | .against => suAgainst | .number => suNoNumber | .way => suNoWay | .text => suNoText), pB, pD, pT, fun e => (match e with | .sighting => ⟨ehgNoSighting, ehkNoSighting, ehsNoSighting, ehdNoSighting, ehaNoSighting, ehn, eht, ehmNoSighting⟩ | .full => ⟨ehgFull, ehkFull, ehsFull, ehdFull, ehaFull, ehn, eht, ehmFull⟩ | .against => ⟨ehgAgainst, ehkAgainst, ehsAgainst, ehdAgainst, ehaAgainst, ehn, eht, ehmAgainst⟩ | .number => ⟨ehgNoNumber, ehkNoNumber, ehsNoNumber, ehdNoNumber, ehaNoNumber, ehn, eht, ehmNoNumber⟩ | .way => ⟨ehgNoWay, ehkNoWay, ehsNoWay, ehdNoWay, ehaNoWay, ehn, eht, ehmNoWay⟩ | .text => ⟨ehgNoText, ehkNoText, ehsNoText, ehdNoText, ehaNoText, ehn, eht, ehmNoText⟩), fun e c => (match e, c with | .sighting, .sighting => kit_ref clNoSighting tyNoSighting kiNoSighting_NoSighting kiNoSighting_NoSighting | .sighting, .full => kit_ref clFull tyFull kiNoSighting_Full kiFull_Full | .sighting, .against => kit_ref clAgainst tyAgainst kiNoSighting_Against kiAgainst_Against | .sighting, .number => kit_ref clNoNumber tyNoNumber kiNoSighting_NoNumber kiNoNumber_NoNumber | .sighting, .way => kit_ref clNoWay tyNoWay kiNoSighting_NoWay kiNoWay_NoWay | .sighting, .text => kit_ref clNoText tyNoText kiNoSighting_NoText kiNoText_NoText | .full, .sighting => kit_ref clNoSighting tyNoSighting kiFull_NoSighting kiNoSighting_NoSighting | .full, .full => kit_ref clFull tyFull kiFull_Full kiFull_Full | .full, .against => kit_ref clAgainst tyAgainst kiFull_Against kiAgainst_Against | .full, .number => kit_ref clNoNumber tyNoNumber kiFull_NoNumber kiNoNumber_NoNumber | .full, .way => kit_ref clNoWay tyNoWay kiFull_NoWay kiNoWay_NoWay | .full, .text => kit_ref clNoText tyNoText kiFull_NoText kiNoText_NoText | .against, .sighting => kit_ref clNoSighting tyNoSighting kiAgainst_NoSighting kiNoSighting_NoSighting | .against, .full => kit_ref clFull tyFull kiAgainst_Full kiFull_Full | .against, .against => kit_ref clAgainst tyAgainst kiAgainst_Against kiAgainst_Against | .against, .number => kit_ref clNoNumber tyNoNumber kiAgainst_NoNumber kiNoNumber_NoNumber | .against, .way => kit_ref clNoWay tyNoWay kiAgainst_NoWay kiNoWay_NoWay | .against, .text => kit_ref clNoText tyNoText kiAgainst_NoText kiNoText_NoText | .number, .sighting => kit_ref clNoSighting tyNoSighting kiNoNumber_NoSighting kiNoSighting_NoSighting | .number, .full => kit_ref clFull tyFull kiNoNumber_Full kiFull_Full | .number, .against => kit_ref clAgainst tyAgainst kiNoNumber_Against kiAgainst_Against | .number, .number => kit_ref clNoNumber tyNoNumber kiNoNumber_NoNumber kiNoNumber_NoNumber | .number, .way => kit_ref clNoWay tyNoWay kiNoNumber_NoWay kiNoWay_NoWay | .number, .text => kit_ref clNoText tyNoText kiNoNumber_NoText kiNoText_NoText | .way, .sighting => kit_ref clNoSighting tyNoSighting kiNoWay_NoSighting kiNoSighting_NoSighting | .way, .full => kit_ref clFull tyFull kiNoWay_Full kiFull_Full | .way, .against => kit_ref clAgainst tyAgainst kiNoWay_Against kiAgainst_Against | .way, .number => kit_ref clNoNumber tyNoNumber kiNoWay_NoNumber kiNoNumber_NoNumber | .way, .way => kit_ref clNoWay tyNoWay kiNoWay_NoWay kiNoWay_NoWay | .way, .text => kit_ref clNoText tyNoText kiNoWay_NoText kiNoText_NoText | .text, .sighting => kit_ref clNoSighting tyNoSighting kiNoText_NoSighting kiNoSighting_NoSighting | .text, .full => kit_ref clFull tyFull kiNoText_Full kiFull_Full | .text, .against => kit_ref clAgainst tyAgainst kiNoText_Against kiAgainst_Against | .text, .number => kit_ref clNoNumber tyNoNumber kiNoText_NoNumber kiNoNumber_NoNumber | .text, .way => kit_ref clNoWay tyNoWay kiNoText_NoWay kiNoWay_NoWay | .text, .text => kit_ref clNoText tyNoText kiNoText_NoText kiNoText_NoText), fun e => (match e with | .sighting => kit_ref pC pT suNoSighting pS | .full => kit_ref pC pT suFull pS | .against => kit_ref pC pT suAgainst pS | .number => kit_ref pC pT suNoNumber pS | .way => kit_ref pC pT suNoWay pS | .text => kit_ref pC pT suNoText pS), fun e => (match e with | .sighting => kit_tyV (by decide +kernel) kvNoSighting | .full => kit_tyV (by decide +kernel) kvFull | .against => kit_tyV (by decide +kernel) kvAgainst | .number => kit_tyV (by decide +kernel) kvNoNumber | .way => kit_tyV (by decide +kernel) kvNoWay | .text => kit_tyV (by decide +kernel) kvNoText), bha, bhm, PySem.W.exm_ref ehsFull ehdFull tyFull kiFull_Full, fun e c => (match e, c with | .sighting, .sighting => PySem.W.exm_ref ehsNoSighting ehdNoSighting tyNoSighting kiNoSighting_NoSighting | .sighting, .full => PySem.W.exm_ref ehsFull ehdFull tyFull kiNoSighting_Full | .sighting, .against => PySem.W.exm_ref ehsAgainst ehdAgainst tyAgainst kiNoSighting_Against | .sighting, .number => PySem.W.exm_ref ehsNoNumber ehdNoNumber tyNoNumber kiNoSighting_NoNumber | .sighting, .way => PySem.W.exm_ref ehsNoWay ehdNoWay tyNoWay kiNoSighting_NoWay | .sighting, .text => PySem.W.exm_ref ehsNoText ehdNoText tyNoText kiNoSighting_NoText | .full, .sighting => PySem.W.exm_ref ehsNoSighting ehdNoSighting tyNoSighting kiFull_NoSighting | .full, .full => PySem.W.exm_ref ehsFull ehdFull tyFull kiFull_Full | .full, .against => PySem.W.exm_ref ehsAgainst ehdAgainst tyAgainst kiFull_Against | .full, .number => PySem.W.exm_ref ehsNoNumber ehdNoNumber tyNoNumber kiFull_NoNumber | .full, .way => PySem.W.exm_ref ehsNoWay ehdNoWay tyNoWay kiFull_NoWay | .full, .text => PySem.W.exm_ref ehsNoText ehdNoText tyNoText kiFull_NoText | .against, .sighting => PySem.W.exm_ref ehsNoSighting ehdNoSighting tyNoSighting kiAgainst_NoSighting | .against, .full => PySem.W.exm_ref ehsFull ehdFull tyFull kiAgainst_Full | .against, .against => PySem.W.exm_ref ehsAgainst ehdAgainst tyAgainst kiAgainst_Against | .against, .number => PySem.W.exm_ref ehsNoNumber ehdNoNumber tyNoNumber kiAgainst_NoNumber | .against, .way => PySem.W.exm_ref ehsNoWay ehdNoWay tyNoWay kiAgainst_NoWay | .against, .text => PySem.W.exm_ref ehsNoText ehdNoText tyNoText kiAgainst_NoText | .number, .sighting => PySem.W.exm_ref ehsNoSighting ehdNoSighting tyNoSighting kiNoNumber_NoSighting | .number, .full => PySem.W.exm_ref ehsFull ehdFull tyFull kiNoNumber_Full | .number, .against => PySem.W.exm_ref ehsAgainst ehdAgainst tyAgainst kiNoNumber_Against | .number, .number => PySem.W.exm_ref ehsNoNumber ehdNoNumber tyNoNumber kiNoNumber_NoNumber | .number, .way => PySem.W.exm_ref ehsNoWay ehdNoWay tyNoWay kiNoNumber_NoWay | .number, .text => PySem.W.exm_ref ehsNoText ehdNoText tyNoText kiNoNumber_NoText | .way, .sighting => PySem.W.exm_ref ehsNoSighting ehdNoSighting tyNoSighting kiNoWay_NoSighting | .way, .full => PySem.W.exm_ref ehsFull ehdFull tyFull kiNoWay_Full | .way, .against => PySem.W.exm_ref ehsAgainst ehdAgainst tyAgainst kiNoWay_Against | .way, .number => PySem.W.exm_ref ehsNoNumber ehdNoNumber tyNoNumber kiNoWay_NoNumber | .way, .way => PySem.W.exm_ref ehsNoWay ehdNoWay tyNoWay kiNoWay_NoWay | .way, .text => PySem.W.exm_ref ehsNoText ehdNoText tyNoText kiNoWay_NoText | .text, .sighting => PySem.W.exm_ref ehsNoSighting ehdNoSighting tyNoSighting kiNoText_NoSighting | .text, .full => PySem.W.exm_ref ehsFull ehdFull tyFull kiNoText_Full | .text, .against => PySem.W.exm_ref ehsAgainst ehdAgainst tyAgainst kiNoText_Against | .text, .number => PySem.W.exm_ref ehsNoNumber ehdNoNumber tyNoNumber kiNoText_NoNumber | .text, .way => PySem.W.exm_ref ehsNoWay ehdNoWay tyNoWay kiNoText_NoWay | .text, .text => PySem.W.exm_ref ehsNoText ehdNoText tyNoText kiNoText_NoText), iRd, iGa, iVi, ⟨⟨_, _, _, _, _, _, _, _, _, _, _, _, _, _, _, oxKAgainst, oxVAgainst⟩, oxSAgainst, ehsAgainst, tyAgainst, oxPAgainst⟩, ⟨⟨_, _, _, _, _, _, _, _, _, _, _, _, _, _, _, oxKNoWay, oxVNoWay⟩, oxSNoWay, ehsNoWay, tyNoWay, oxPNoWay⟩, oxAAgainst, oxANoWay⟩
  have GX : Gx mg K A := ⟨PySem.W.mg_of X G aaBook, PySem.W.mg_of X G aaPegError, PySem.W.mg_of X G aaNoSighting, PySem.W.mg_of X G aaFull, PySem.W.mg_of X G aaAgainst, PySem.W.mg_of X G aaNoNumber, PySem.W.mg_of X G aaNoWay, PySem.W.mg_of X G aaNoText, rxNoSighting, rkNoSighting, ehsNoSighting, rtNoSighting, rxFull, rkFull, ehsFull, rtFull, rxNoNumber, rkNoNumber, ehsNoNumber, rtNoNumber⟩
  have F0 := fun_mk (st := s_Against___init__) l0 c0 k0
  have b0 := F0.binds (ps := ["self", "trail"]) fun _ _ _ _ _ _ us hl => match us, hl with | [_, _], _ => rfl
  have F1 := fun_mk (st := s_NoWay___init__) l1 c1 k1
  have b1 := F1.binds (ps := ["self", "near"]) fun _ _ _ _ _ _ us hl => match us, hl with | [_, _], _ => rfl
  have F2 := fun_mk (st := s_is_whole) l2 c2 k2
  have b2 := F2.binds (ps := ["thing"]) fun _ _ _ _ _ _ us hl => match us, hl with | [_], _ => rfl
  have F3 := fun_mk (st := s_is_peg) l3 c3 k3
  have b3 := F3.binds (ps := ["thing"]) fun _ _ _ _ _ _ us hl => match us, hl with | [_], _ => rfl
  have F4 := fun_mk (st := s_is_sighting) l4 c4 k4
  have b4 := F4.binds (ps := ["thing"]) fun _ _ _ _ _ _ us hl => match us, hl with | [_], _ => rfl
  have F5 := fun_mk (st := s_row_turned) l5 c5 k5
  have b5 := F5.binds (ps := ["row"]) fun _ _ _ _ _ _ us hl => match us, hl with | [_], _ => rfl
  have F6 := fun_mk (st := s_total) l6 c6 k6
  have b6 := F6.binds (ps := ["steps"]) fun _ _ _ _ _ _ us hl => match us, hl with | [_], _ => rfl
  have F7 := fun_mk (st := s_leaving) l7 c7 k7
  have b7 := F7.binds (ps := ["rows"]) fun _ _ _ _ _ _ us hl => match us, hl with | [_], _ => rfl
  have F8 := fun_mk (st := s_reached) l8 c8 k8
  have b8 := F8.binds (ps := ["links", "one"]) fun _ _ _ _ _ _ us hl => match us, hl with | [_, _], _ => rfl
  have F9 := fun_mk (st := s_way_along) l9 c9 k9
  have b9 := F9.binds (ps := ["rows", "one", "other"]) fun _ _ _ _ _ _ us hl => match us, hl with | [_, _, _], _ => rfl
  have F10 := fun_mk (st := s_part_of) l10 c10 k10
  have b10 := F10.binds (ps := ["rows", "one"]) fun _ _ _ _ _ _ us hl => match us, hl with | [_, _], _ => rfl
  have F11 : FunD K "__init__" "Book.__init__" (defArgs s_Book___init__) (defBody s_Book___init__) (defScope s_Book___init__) [.int 200] [] f11 _ := ⟨⟨oc11, od11, .ref dT11, kV11, dc11, pm11, an11, cd11, ct11, sl11, rfl, l11, c11, .inr ⟨(fun z => nomatch z), dT11, _, [.int 200 dK11], dN11, rfl, t11, rfl, .cons ⟨_, rfl⟩ .nil⟩, .inl rfl⟩, k11⟩
  have bx11 := F11.binds1 (ps := ["self", "most"]) 1 0 (fun z => nomatch z) rfl (fun T kV doc pm an cdv ct us its hu hi => match us, its, hu, hi with | [_], [_], _, _ => ⟨_, rfl, rfl⟩)
  have by11 : Binds K _ ["self", "most"] [] := (by
    obtain ⟨ds, hv, hb⟩ := F11.binds1 (ps := ["self", "most"]) 2 1 (fun z => nomatch z) rfl (fun T kV doc pm an cdv ct us its hu hi => match us, its, hu, hi with | [_, _], [_], _, _ => ⟨_, rfl, rfl⟩)
    cases hv
    exact hb)
  have F12 := fun_mk (st := s_Book_kept) l12 c12 k12
  have b12 := F12.binds (ps := ["self"]) fun _ _ _ _ _ _ us hl => match us, hl with | [_], _ => rfl
  have F13 := fun_mk (st := s_Book_take) l13 c13 k13
  have b13 := F13.binds (ps := ["self", "one", "other", "rise"]) fun _ _ _ _ _ _ us hl => match us, hl with | [_, _, _, _], _ => rfl
  have F14 := fun_mk (st := s_Book_row_by) l14 c14 k14
  have b14 := F14.binds (ps := ["self", "number"]) fun _ _ _ _ _ _ us hl => match us, hl with | [_, _], _ => rfl
  have F15 := fun_mk (st := s_Book_drop) l15 c15 k15
  have b15 := F15.binds (ps := ["self", "number"]) fun _ _ _ _ _ _ us hl => match us, hl with | [_, _], _ => rfl
  have F16 := fun_mk (st := s_Book_way) l16 c16 k16
  have b16 := F16.binds (ps := ["self", "one", "other"]) fun _ _ _ _ _ _ us hl => match us, hl with | [_, _, _], _ => rfl
  have F17 := fun_mk (st := s_Book_rise) l17 c17 k17
  have b17 := F17.binds (ps := ["self", "one", "other"]) fun _ _ _ _ _ _ us hl => match us, hl with | [_, _, _], _ => rfl
  have F18 := fun_mk (st := s_Book_parts) l18 c18 k18
  have b18 := F18.binds (ps := ["self"]) fun _ _ _ _ _ _ us hl => match us, hl with | [_], _ => rfl
  have F19 := fun_mk (st := s_Book_heights) l19 c19 k19
  have b19 := F19.binds (ps := ["self"]) fun _ _ _ _ _ _ us hl => match us, hl with | [_], _ => rfl
  have F20 := fun_mk (st := s_Book_spare) l20 c20 k20
  have b20 := F20.binds (ps := ["self", "number"]) fun _ _ _ _ _ _ us hl => match us, hl with | [_, _], _ => rfl
  have F21 := fun_mk (st := s__law_cell_at) l21 c21 k21
  have b21 := F21.binds (ps := ["_law_script", "_law_k"]) fun _ _ _ _ _ _ us hl => match us, hl with | [_, _], _ => rfl
  have F22 := fun_mk (st := s__law_whole) l22 c22 k22
  have b22 := F22.binds (ps := ["_law_found"]) fun _ _ _ _ _ _ us hl => match us, hl with | [_], _ => rfl
  have F23 := fun_mk (st := s__law_word) l23 c23 k23
  have b23 := F23.binds (ps := ["_law_number"]) fun _ _ _ _ _ _ us hl => match us, hl with | [_], _ => rfl
  have F24 := fun_mk (st := s__law_pegs) l24 c24 k24
  have b24 := F24.binds (ps := ["_law_cell", "_law_many"]) fun _ _ _ _ _ _ us hl => match us, hl with | [_, _], _ => rfl
  have F25 := fun_mk (st := s__law_highs) l25 c25 k25
  have b25 := F25.binds (ps := ["_law_some", "_law_cell"]) fun _ _ _ _ _ _ us hl => match us, hl with | [_, _], _ => rfl
  have F26 := fun_mk (st := s__law_sighting) l26 c26 k26
  have b26 := F26.binds (ps := ["_law_some", "_law_highs_here", "_law_cell", "_law_k"]) fun _ _ _ _ _ _ us hl => match us, hl with | [_, _, _, _], _ => rfl
  have F27 := fun_mk (st := s__law_tops) l27 c27 k27
  have b27 := F27.binds (ps := ["_law_rows_here"]) fun _ _ _ _ _ _ us hl => match us, hl with | [_], _ => rfl
  have F28 := fun_mk (st := s__law_gap) l28 c28 k28
  have b28 := F28.binds (ps := ["_law_tops_here", "_law_one", "_law_other"]) fun _ _ _ _ _ _ us hl => match us, hl with | [_, _, _], _ => rfl
  have F29 := fun_mk (st := s__law_step) l29 c29 k29
  have b29 := F29.binds (ps := ["_law_step_here", "_law_rows_here"]) fun _ _ _ _ _ _ us hl => match us, hl with | [_, _], _ => rfl
  have F30 := fun_mk (st := s__law_way) l30 c30 k30
  have b30 := F30.binds (ps := ["_law_found", "_law_rows_here", "_law_one", "_law_other"]) fun _ _ _ _ _ _ us hl => match us, hl with | [_, _, _, _], _ => rfl
  have F31 := fun_mk (st := s__law_kind) l31 c31 k31
  have b31 := F31.binds (ps := ["_law_e"]) fun _ _ _ _ _ _ us hl => match us, hl with | [_], _ => rfl
  have F32 := fun_mk (st := s__law_rows) l32 c32 k32
  have b32 := F32.binds (ps := ["_law_found", "_law_rows_here"]) fun _ _ _ _ _ _ us hl => match us, hl with | [_, _], _ => rfl
  have F33 := fun_mk (st := s__law_part) l33 c33 k33
  have b33 := F33.binds (ps := ["_law_tops_here", "_law_one"]) fun _ _ _ _ _ _ us hl => match us, hl with | [_, _], _ => rfl
  have F34 := fun_mk (st := s__law_keep) l34 c34 k34
  have b34 := F34.binds (ps := ["_law_held", "_law_told", "_law_copied", "_law_number"]) fun _ _ _ _ _ _ us hl => match us, hl with | [_, _, _, _], _ => rfl
  have F35 := fun_mk (st := s__law_near) l35 c35 k35
  have b35 := F35.binds (ps := ["_law_refused", "_law_near_here", "_law_tops_here", "_law_one", "_law_held", "_law_number"]) fun _ _ _ _ _ _ us hl => match us, hl with | [_, _, _, _, _, _], _ => rfl
  have F36 := fun_mk (st := s__law_rise) l36 c36 k36
  have b36 := F36.binds (ps := ["_law_book", "_law_tops_here", "_law_one", "_law_other", "_law_held", "_law_number"]) fun _ _ _ _ _ _ us hl => match us, hl with | [_, _, _, _, _, _], _ => rfl
  have F37 := fun_mk (st := s__law_parts) l37 c37 k37
  have b37 := F37.binds (ps := ["_law_tops_here"]) fun _ _ _ _ _ _ us hl => match us, hl with | [_], _ => rfl
  have F38 := fun_mk (st := s__law_alike) l38 c38 k38
  have b38 := F38.binds (ps := ["_law_found", "_law_due"]) fun _ _ _ _ _ _ us hl => match us, hl with | [_, _], _ => rfl
  have F39 := fun_mk (st := s__law_heights) l39 c39 k39
  have b39 := F39.binds (ps := ["_law_found", "_law_rows_here", "_law_tops_here"]) fun _ _ _ _ _ _ us hl => match us, hl with | [_, _, _], _ => rfl
  have F40 := fun_mk (st := s__law_take) l40 c40 k40
  have b40 := F40.binds (ps := ["_law_book", "_law_rows_here", "_law_box", "_law_most", "_law_sighting_here", "_law_held"]) fun _ _ _ _ _ _ us hl => match us, hl with | [_, _, _, _, _, _], _ => rfl
  have F41 := fun_mk (st := s__law_drop) l41 c41 k41
  have b41 := F41.binds (ps := ["_law_book", "_law_rows_here", "_law_number"]) fun _ _ _ _ _ _ us hl => match us, hl with | [_, _, _], _ => rfl
  have F42 := fun_mk (st := s__law_no_sighting) l42 c42 k42
  have b42 := F42.binds (ps := ["_law_book", "_law_one", "_law_other", "_law_rise_here", "_law_cell"]) fun _ _ _ _ _ _ us hl => match us, hl with | [_, _, _, _, _], _ => rfl
  have F43 := fun_mk (st := s__law_no_peg) l43 c43 k43
  have b43 := F43.binds (ps := ["_law_book", "_law_one", "_law_cell"]) fun _ _ _ _ _ _ us hl => match us, hl with | [_, _, _], _ => rfl
  have F44 := fun_mk (st := s__law_no_number) l44 c44 k44
  have b44 := F44.binds (ps := ["_law_book", "_law_box", "_law_rows_here", "_law_cell"]) fun _ _ _ _ _ _ us hl => match us, hl with | [_, _, _, _], _ => rfl
  have F45 := fun_mk (st := s__law_way_told) l45 c45 k45
  have b45 := F45.binds (ps := ["_law_book", "_law_rows_here", "_law_tops_here", "_law_one", "_law_other", "_law_held", "_law_number"]) fun _ _ _ _ _ _ us hl => match us, hl with | [_, _, _, _, _, _, _], _ => rfl
  have F46 := fun_mk (st := s__law_spare) l46 c46 k46
  have b46 := F46.binds (ps := ["_law_book", "_law_rows_here", "_law_number"]) fun _ _ _ _ _ _ us hl => match us, hl with | [_, _, _], _ => rfl
  have F47 := fun_mk (st := s__law_asked) l47 c47 k47
  have b47 := F47.binds (ps := ["_law_book", "_law_rows_here", "_law_some", "_law_number", "_law_ask", "_law_held"]) fun _ _ _ _ _ _ us hl => match us, hl with | [_, _, _, _, _, _], _ => rfl
  have F48 := fun_mk (st := s__law_deed) l48 c48 k48
  have b48 := F48.binds (ps := ["_law_book", "_law_rows_here", "_law_box", "_law_most", "_law_sighting_here", "_law_number", "_law_held"]) fun _ _ _ _ _ _ us hl => match us, hl with | [_, _, _, _, _, _, _], _ => rfl
  have F49 := fun_mk (st := s_law) l49 c49 k49
  have b49 := F49.binds (ps := ["_law_script"]) fun _ _ _ _ _ _ us hl => match us, hl with | [_], _ => rfl
  refine ⟨PySem.W.fnOf "law" "law" (defArgs s_law) (defBody s_law) (defScope s_law) .none kV49 dc49 pm49 an49 cd49 ct49, fun s v => .of_eq rfl, fun base _ _ => ?_⟩
  have C_Against___init__ := ok_Against___init__ (P := l.prog) (w := w) (base := base) F0 a0 i0 b0 M GX T 
  have C_NoWay___init__ := ok_NoWay___init__ (P := l.prog) (w := w) (base := base) F1 a1 i1 b1 M GX T 
  have C_is_whole := ok_is_whole (P := l.prog) (w := w) (base := base) F2 (PySem.W.mg_of X G a2) b2 M 
  have C_is_peg := ok_is_peg (P := l.prog) (w := w) (base := base) F3 (PySem.W.mg_of X G a3) b3 M 
  have C_is_sighting := ok_is_sighting (P := l.prog) (w := w) (base := base) F4 (PySem.W.mg_of X G a4) b4 M C_is_peg C_is_whole
  have C_row_turned := ok_row_turned (P := l.prog) (w := w) (base := base) F5 (PySem.W.mg_of X G a5) b5 M 
  have C_total := ok_total (P := l.prog) (w := w) (base := base) F6 (PySem.W.mg_of X G a6) b6 M 
  have C_leaving := ok_leaving (P := l.prog) (w := w) (base := base) F7 (PySem.W.mg_of X G a7) b7 M C_row_turned
  have C_reached := ok_reached (P := l.prog) (w := w) (base := base) F8 (PySem.W.mg_of X G a8) b8 M 
  have C_way_along := ok_way_along (P := l.prog) (w := w) (base := base) F9 (PySem.W.mg_of X G a9) b9 M C_reached C_leaving
  have C_part_of := ok_part_of (P := l.prog) (w := w) (base := base) F10 (PySem.W.mg_of X G a10) b10 M C_reached C_leaving
  have C_Book___init__ := ok_Book___init__ (P := l.prog) (w := w) (base := base) F11 ⟨mk, a11, i11, kc⟩ by11 bx11 M GX T 
  have C_Book_kept := ok_Book_kept (P := l.prog) (w := w) (base := base) F12 ⟨a12, i12, k12⟩ b12 M GX T 
  have C_Book_take := ok_Book_take (P := l.prog) (w := w) (base := base) F13 ⟨a13, i13, k13⟩ b13 M GX T C_is_sighting C_way_along C_Book_kept C_total C_Against___init__
  have C_Book_row_by := ok_Book_row_by (P := l.prog) (w := w) (base := base) F14 ⟨a14, i14, k14⟩ b14 M GX T C_is_whole
  have C_Book_drop := ok_Book_drop (P := l.prog) (w := w) (base := base) F15 ⟨a15, i15, k15⟩ b15 M GX T C_Book_row_by
  have C_Book_way := ok_Book_way (P := l.prog) (w := w) (base := base) F16 ⟨a16, i16, k16⟩ b16 M GX T C_is_peg C_Book_kept C_way_along C_part_of C_NoWay___init__
  have C_Book_rise := ok_Book_rise (P := l.prog) (w := w) (base := base) F17 ⟨a17, i17, k17⟩ b17 M GX T C_total C_Book_way
  have C_Book_parts := ok_Book_parts (P := l.prog) (w := w) (base := base) F18 ⟨a18, i18, k18⟩ b18 M GX T C_leaving C_Book_kept C_reached
  have C_Book_heights := ok_Book_heights (P := l.prog) (w := w) (base := base) F19 ⟨a19, i19, k19⟩ b19 M GX T C_leaving C_Book_kept C_reached
  have C_Book_spare := ok_Book_spare (P := l.prog) (w := w) (base := base) F20 ⟨a20, i20, k20⟩ b20 M GX T C_Book_row_by C_Book_kept C_way_along
  have C__law_cell_at := ok__law_cell_at (P := l.prog) (w := w) (base := base) F21 (PySem.W.mg_of X G a21) b21 M 
  have C__law_whole := ok__law_whole (P := l.prog) (w := w) (base := base) F22 (PySem.W.mg_of X G a22) b22 M 
  have C__law_word := ok__law_word (P := l.prog) (w := w) (base := base) F23 (PySem.W.mg_of X G a23) b23 M 
  have C__law_pegs := ok__law_pegs (P := l.prog) (w := w) (base := base) F24 (PySem.W.mg_of X G a24) b24 M C__law_word
  have C__law_highs := ok__law_highs (P := l.prog) (w := w) (base := base) F25 (PySem.W.mg_of X G a25) b25 M 
  have C__law_sighting := ok__law_sighting (P := l.prog) (w := w) (base := base) F26 (PySem.W.mg_of X G a26) b26 M 
  have C__law_tops := ok__law_tops (P := l.prog) (w := w) (base := base) F27 (PySem.W.mg_of X G a27) b27 M 
  have C__law_gap := ok__law_gap (P := l.prog) (w := w) (base := base) F28 (PySem.W.mg_of X G a28) b28 M 
  have C__law_step := ok__law_step (P := l.prog) (w := w) (base := base) F29 (PySem.W.mg_of X G a29) b29 M C__law_whole
  have C__law_way := ok__law_way (P := l.prog) (w := w) (base := base) F30 (PySem.W.mg_of X G a30) b30 M C__law_step
  have C__law_kind := ok__law_kind (P := l.prog) (w := w) (base := base) F31 (PySem.W.mg_of X G a31) b31 M GX T 
  have C__law_rows := ok__law_rows (P := l.prog) (w := w) (base := base) F32 (PySem.W.mg_of X G a32) b32 M C__law_whole
  have C__law_part := ok__law_part (P := l.prog) (w := w) (base := base) F33 (PySem.W.mg_of X G a33) b33 M 
  have C__law_keep := ok__law_keep (P := l.prog) (w := w) (base := base) F34 (PySem.W.mg_of X G a34) b34 M 
  have C__law_near := ok__law_near (P := l.prog) (w := w) (base := base) F35 (PySem.W.mg_of X G a35) b35 M GX T C__law_kind C__law_part C__law_keep
  have C__law_rise := ok__law_rise (P := l.prog) (w := w) (base := base) F36 (PySem.W.mg_of X G a36) b36 M GX T C__law_gap C_Book_rise C__law_near C__law_whole
  have C__law_parts := ok__law_parts (P := l.prog) (w := w) (base := base) F37 (PySem.W.mg_of X G a37) b37 M C__law_part
  have C__law_alike := ok__law_alike (P := l.prog) (w := w) (base := base) F38 (PySem.W.mg_of X G a38) b38 M 
  have C__law_heights := ok__law_heights (P := l.prog) (w := w) (base := base) F39 (PySem.W.mg_of X G a39) b39 M C__law_whole C__law_parts
  have C__law_take := ok__law_take (P := l.prog) (w := w) (base := base) F40 (PySem.W.mg_of X G a40) b40 M GX T C__law_gap C__law_tops C_Book_take C__law_whole C__law_kind C__law_way C__law_keep
  have C__law_drop := ok__law_drop (P := l.prog) (w := w) (base := base) F41 (PySem.W.mg_of X G a41) b41 M GX T C_Book_drop C__law_whole
  have C__law_no_sighting := ok__law_no_sighting (P := l.prog) (w := w) (base := base) F42 (PySem.W.mg_of X G a42) b42 M GX T C_Book_take C__law_kind
  have C__law_no_peg := ok__law_no_peg (P := l.prog) (w := w) (base := base) F43 (PySem.W.mg_of X G a43) b43 M GX T C_Book_rise C_Book_way C__law_kind
  have C__law_no_number := ok__law_no_number (P := l.prog) (w := w) (base := base) F44 (PySem.W.mg_of X G a44) b44 M GX T C_Book_drop C_Book_spare C__law_kind
  have C__law_way_told := ok__law_way_told (P := l.prog) (w := w) (base := base) F45 (PySem.W.mg_of X G a45) b45 M GX T C_Book_way C__law_gap C__law_near C__law_way C__law_keep
  have C__law_spare := ok__law_spare (P := l.prog) (w := w) (base := base) F46 (PySem.W.mg_of X G a46) b46 M GX T C_Book_spare C__law_gap C__law_tops
  have C__law_asked := ok__law_asked (P := l.prog) (w := w) (base := base) F47 (PySem.W.mg_of X G a47) b47 M GX T C__law_tops C__law_rise C__law_way_told C_Book_parts C__law_alike C__law_parts C__law_keep C_Book_heights C__law_heights C__law_spare C_Book_kept C__law_rows
  have C__law_deed := ok__law_deed (P := l.prog) (w := w) (base := base) F48 (PySem.W.mg_of X G a48) b48 M GX T C__law_no_sighting C__law_no_peg C__law_no_number C__law_drop C__law_take
  exact fn_law F49 M GX T C__law_cell_at C__law_pegs C__law_highs C_Book___init__ C__law_sighting C__law_deed C__law_asked
theorem walk {l : PySem.W.OpenLaw} {q : Program} {loose : List Str} {XP : (Str → Option Value) → Heap → Prop} {YP : World → Heap → Prop} {d : DefRec} {K : Params → PySem.W.Frag} (hn : l.most = some 63) (hdf : d.params.defaults = [])
    (hY : ∀ (w : World) (h : Heap), YP w h → (K w.params).In h)
    (F : ∀ (w : World) (mg : Str → Option Value) (fa : Addr) (h : Heap), (K w.params).In h → h.Ns mainGlobals mg → mg d.name = some (.ref fa) →
      ∃ fd : FuncData, (∀ (s : Shared) (u : Value), BindsTo s fd ⟨[u], []⟩ [("_law_script", u)]) ∧ ∀ base : Heap, (K w.params).In base → base.Ns mainGlobals mg → FnOk l.prog w (K w.params) mg base CX0 8 fa fd ["_law_script"] (sp_law (K w.params))) :
    PySem.W.WalkO q loose XP YP l.row.toRowW d [] (fun f vs => PySem.call f vs) :=
  L2.walk_of (n := 63) (k := 8) (x := "_law_script") (CX := fun _ => CX0) (sp := fun w => sp_law (K w.params)) hn (by decide) hdf ⟨rfl, by decide, by decide⟩ hY F (fun _ _ a ns hl _ hS => ⟨a, ns, rfl, hS, hl, fun _ => rfl⟩) fun _ _ _ _ _ z => z
end Peg
open PySem PySem.W PyProof.Rows
set_option maxRecDepth 100000 in
set_option maxHeartbeats 0 in
theorem PySem.Challenge.cw_pegrise_k09_whole_deeds_holds : PySem.Challenge.rw_pegrise_k09_whole_deeds.Holds := by
  w_on; o_law; k_head; (case hw => w_witness2)
  k_fill
  refine Peg.walk (l := PySem.Challenge.rw_pegrise_k09_whole_deeds) rfl rfl (fun w h Y => PySem.W.kIn_of Y) ?F
  case F =>
    intro w mg fa h KX G hmg
    refine' Peg.all_mk KX G hmg ?aaBook ?aaPegError ?aaNoSighting ?aaFull ?aaAgainst ?aaNoNumber ?aaNoWay ?aaNoText ?rxNoSighting ?rxFull ?rxNoNumber ?pg ?hd ?po ?sa ?mk ?kc ?n1 ?n2 ?n3 ?bha ?bhm ?pB ?pD ?pT ?suNoSighting ?kvNoSighting ?clNoSighting ?tyNoSighting ?ehgNoSighting ?ehkNoSighting ?ehsNoSighting ?ehdNoSighting ?ehaNoSighting ?ehmNoSighting ?kiNoSighting_NoSighting ?kiNoSighting_Full ?kiNoSighting_Against ?kiNoSighting_NoNumber ?kiNoSighting_NoWay ?kiNoSighting_NoText ?suFull ?kvFull ?clFull ?tyFull ?ehgFull ?ehkFull ?ehsFull ?ehdFull ?ehaFull ?ehmFull ?kiFull_NoSighting ?kiFull_Full ?kiFull_Against ?kiFull_NoNumber ?kiFull_NoWay ?kiFull_NoText ?suAgainst ?kvAgainst ?clAgainst ?tyAgainst ?ehgAgainst ?ehkAgainst ?ehsAgainst ?ehdAgainst ?ehaAgainst ?ehmAgainst ?kiAgainst_NoSighting ?kiAgainst_Full ?kiAgainst_Against ?kiAgainst_NoNumber ?kiAgainst_NoWay ?kiAgainst_NoText ?suNoNumber ?kvNoNumber ?clNoNumber ?tyNoNumber ?ehgNoNumber ?ehkNoNumber ?ehsNoNumber ?ehdNoNumber ?ehaNoNumber ?ehmNoNumber ?kiNoNumber_NoSighting ?kiNoNumber_Full ?kiNoNumber_Against ?kiNoNumber_NoNumber ?kiNoNumber_NoWay ?kiNoNumber_NoText ?suNoWay ?kvNoWay ?clNoWay ?tyNoWay ?ehgNoWay ?ehkNoWay ?ehsNoWay ?ehdNoWay ?ehaNoWay ?ehmNoWay ?kiNoWay_NoSighting ?kiNoWay_Full ?kiNoWay_Against ?kiNoWay_NoNumber ?kiNoWay_NoWay ?kiNoWay_NoText ?suNoText ?kvNoText ?clNoText ?tyNoText ?ehgNoText ?ehkNoText ?ehsNoText ?ehdNoText ?ehaNoText ?ehmNoText ?kiNoText_NoSighting ?kiNoText_Full ?kiNoText_Against ?kiNoText_NoNumber ?kiNoText_NoWay ?kiNoText_NoText ?pC ?pS ?iRd ?iGa ?iVi ?oxKAgainst ?oxSAgainst ?oxPAgainst ?oxAAgainst ?oxKNoWay ?oxSNoWay ?oxPNoWay ?oxANoWay ?ehn ?eht ?rkNoSighting ?rtNoSighting ?rkFull ?rtFull ?rkNoNumber ?rtNoNumber ?a0 ?i0 ?l0 ?c0 ?k0 ?a1 ?i1 ?l1 ?c1 ?k1 ?a2 ?l2 ?c2 ?k2 ?a3 ?l3 ?c3 ?k3 ?a4 ?l4 ?c4 ?k4 ?a5 ?l5 ?c5 ?k5 ?a6 ?l6 ?c6 ?k6 ?a7 ?l7 ?c7 ?k7 ?a8 ?l8 ?c8 ?k8 ?a9 ?l9 ?c9 ?k9 ?a10 ?l10 ?c10 ?k10 ?a11 ?i11 ?l11 ?c11 ?k11 ?t11 ?a12 ?i12 ?l12 ?c12 ?k12 ?a13 ?i13 ?l13 ?c13 ?k13 ?a14 ?i14 ?l14 ?c14 ?k14 ?a15 ?i15 ?l15 ?c15 ?k15 ?a16 ?i16 ?l16 ?c16 ?k16 ?a17 ?i17 ?l17 ?c17 ?k17 ?a18 ?i18 ?l18 ?c18 ?k18 ?a19 ?i19 ?l19 ?c19 ?k19 ?a20 ?i20 ?l20 ?c20 ?k20 ?a21 ?l21 ?c21 ?k21 ?a22 ?l22 ?c22 ?k22 ?a23 ?l23 ?c23 ?k23 ?a24 ?l24 ?c24 ?k24 ?a25 ?l25 ?c25 ?k25 ?a26 ?l26 ?c26 ?k26 ?a27 ?l27 ?c27 ?k27 ?a28 ?l28 ?c28 ?k28 ?a29 ?l29 ?c29 ?k29 ?a30 ?l30 ?c30 ?k30 ?a31 ?l31 ?c31 ?k31 ?a32 ?l32 ?c32 ?k32 ?a33 ?l33 ?c33 ?k33 ?a34 ?l34 ?c34 ?k34 ?a35 ?l35 ?c35 ?k35 ?a36 ?l36 ?c36 ?k36 ?a37 ?l37 ?c37 ?k37 ?a38 ?l38 ?c38 ?k38 ?a39 ?l39 ?c39 ?k39 ?a40 ?l40 ?c40 ?k40 ?a41 ?l41 ?c41 ?k41 ?a42 ?l42 ?c42 ?k42 ?a43 ?l43 ?c43 ?k43 ?a44 ?l44 ?c44 ?k44 ?a45 ?l45 ?c45 ?k45 ?a46 ?l46 ?c46 ?k46 ?a47 ?l47 ?c47 ?k47 ?a48 ?l48 ?c48 ?k48 ?a49 ?l49 ?c49 ?k49 ?z_int ?z_isinstance ?z_bool ?z_str ?z_len ?z_tuple ?z_abs ?z_list ?z_reversed ?z_sorted ?z_range ?z_ValueError ?z_sum ?z_min ?z_LETTERS ?z_BOUND ?oxVAgainst ?oxVNoWay
    (case aaBook => k_is)
    (case aaPegError => k_is)
    (case aaNoSighting => k_is)
    (case aaFull => k_is)
    (case aaAgainst => k_is)
    (case aaNoNumber => k_is)
    (case aaNoWay => k_is)
    (case aaNoText => k_is)
    (case rxNoSighting => k_exc)
    (case rxFull => k_exc)
    (case rxNoNumber => k_exc)
    (case pg => k_is)
    (case hd => k_is)
    (case po => k_is)
    (case sa => k_is)
    (case mk => k_is)
    (case kc => k_is)
    (case n1 => k_is)
    (case n2 => k_is)
    (case n3 => k_is)
    (case bha => k_is)
    (case bhm => k_is)
    (case pB => k_is)
    (case pD => k_is)
    (case pT => k_is)
    (case suNoSighting => k_is)
    (case kvNoSighting => k_is)
    (case clNoSighting => k_is)
    (case tyNoSighting => k_is)
    (case ehgNoSighting => k_is)
    (case ehkNoSighting => k_is)
    (case ehsNoSighting => k_is)
    (case ehdNoSighting => k_is)
    (case ehaNoSighting => k_is)
    (case ehmNoSighting => k_is)
    (case kiNoSighting_NoSighting => k_is)
    (case kiNoSighting_Full => k_is)
    (case kiNoSighting_Against => k_is)
    (case kiNoSighting_NoNumber => k_is)
    (case kiNoSighting_NoWay => k_is)
    (case kiNoSighting_NoText => k_is)
    (case suFull => k_is)
    (case kvFull => k_is)
    (case clFull => k_is)
    (case tyFull => k_is)
    (case ehgFull => k_is)
    (case ehkFull => k_is)
    (case ehsFull => k_is)
    (case ehdFull => k_is)
    (case ehaFull => k_is)
    (case ehmFull => k_is)
    (case kiFull_NoSighting => k_is)
    (case kiFull_Full => k_is)
    (case kiFull_Against => k_is)
    (case kiFull_NoNumber => k_is)
    (case kiFull_NoWay => k_is)
    (case kiFull_NoText => k_is)
    (case suAgainst => k_is)
    (case kvAgainst => k_is)
    (case clAgainst => k_is)
    (case tyAgainst => k_is)
    (case ehgAgainst => k_is)
    (case ehkAgainst => k_is)
    (case ehsAgainst => k_is)
    (case ehdAgainst => k_is)
    (case ehaAgainst => k_is)
    (case ehmAgainst => k_is)
    (case kiAgainst_NoSighting => k_is)
    (case kiAgainst_Full => k_is)
    (case kiAgainst_Against => k_is)
    (case kiAgainst_NoNumber => k_is)
    (case kiAgainst_NoWay => k_is)
    (case kiAgainst_NoText => k_is)
    (case suNoNumber => k_is)
    (case kvNoNumber => k_is)
    (case clNoNumber => k_is)
    (case tyNoNumber => k_is)
    (case ehgNoNumber => k_is)
    (case ehkNoNumber => k_is)
    (case ehsNoNumber => k_is)
    (case ehdNoNumber => k_is)
    (case ehaNoNumber => k_is)
    (case ehmNoNumber => k_is)
    (case kiNoNumber_NoSighting => k_is)
    (case kiNoNumber_Full => k_is)
    (case kiNoNumber_Against => k_is)
    (case kiNoNumber_NoNumber => k_is)
    (case kiNoNumber_NoWay => k_is)
    (case kiNoNumber_NoText => k_is)
    (case suNoWay => k_is)
    (case kvNoWay => k_is)
    (case clNoWay => k_is)
    (case tyNoWay => k_is)
    (case ehgNoWay => k_is)
    (case ehkNoWay => k_is)
    (case ehsNoWay => k_is)
    (case ehdNoWay => k_is)
    (case ehaNoWay => k_is)
    (case ehmNoWay => k_is)
    (case kiNoWay_NoSighting => k_is)
    (case kiNoWay_Full => k_is)
    (case kiNoWay_Against => k_is)
    (case kiNoWay_NoNumber => k_is)
    (case kiNoWay_NoWay => k_is)
    (case kiNoWay_NoText => k_is)
    (case suNoText => k_is)
    (case kvNoText => k_is)
    (case clNoText => k_is)
    (case tyNoText => k_is)
    (case ehgNoText => k_is)
    (case ehkNoText => k_is)
    (case ehsNoText => k_is)
    (case ehdNoText => k_is)
    (case ehaNoText => k_is)
    (case ehmNoText => k_is)
    (case kiNoText_NoSighting => k_is)
    (case kiNoText_Full => k_is)
    (case kiNoText_Against => k_is)
    (case kiNoText_NoNumber => k_is)
    (case kiNoText_NoWay => k_is)
    (case kiNoText_NoText => k_is)
    (case pC => k_is)
    (case pS => k_is)
    (case iRd => k_is)
    (case iGa => k_is)
    (case iVi => k_is)
    (case oxKAgainst => k_is)
    (case oxSAgainst => k_is)
    (case oxPAgainst => k_is)
    (case oxAAgainst => k_is)
    (case oxKNoWay => k_is)
    (case oxSNoWay => k_is)
    (case oxPNoWay => k_is)
    (case oxANoWay => k_is)
    (case ehn => k_is)
    (case eht => k_is)
    (case rkNoSighting => k_is)
    (case rtNoSighting => k_is)
    (case rkFull => k_is)
    (case rtFull => k_is)
    (case rkNoNumber => k_is)
    (case rtNoNumber => k_is)
    (case a0 => k_is)
    (case i0 => k_is)
    (case l0 => k_is)
    (case c0 => k_is)
    (case k0 => k_is)
    (case a1 => k_is)
    (case i1 => k_is)
    (case l1 => k_is)
    (case c1 => k_is)
    (case k1 => k_is)
    (case a2 => k_is)
    (case l2 => k_is)
    (case c2 => k_is)
    (case k2 => k_is)
    (case a3 => k_is)
    (case l3 => k_is)
    (case c3 => k_is)
    (case k3 => k_is)
    (case a4 => k_is)
    (case l4 => k_is)
    (case c4 => k_is)
    (case k4 => k_is)
    (case a5 => k_is)
    (case l5 => k_is)
    (case c5 => k_is)
    (case k5 => k_is)
    (case a6 => k_is)
    (case l6 => k_is)
    (case c6 => k_is)
    (case k6 => k_is)
    (case a7 => k_is)
    (case l7 => k_is)
    (case c7 => k_is)
    (case k7 => k_is)
    (case a8 => k_is)
    (case l8 => k_is)
    (case c8 => k_is)
    (case k8 => k_is)
    (case a9 => k_is)
    (case l9 => k_is)
    (case c9 => k_is)
    (case k9 => k_is)
    (case a10 => k_is)
    (case l10 => k_is)
    (case c10 => k_is)
    (case k10 => k_is)
    (case a11 => k_is)
    (case i11 => k_is)
    (case l11 => k_is)
    (case c11 => k_is)
    (case k11 => k_is)
    (case t11 => k_is)
    (case a12 => k_is)
    (case i12 => k_is)
    (case l12 => k_is)
    (case c12 => k_is)
    (case k12 => k_is)
    (case a13 => k_is)
    (case i13 => k_is)
    (case l13 => k_is)
    (case c13 => k_is)
    (case k13 => k_is)
    (case a14 => k_is)
    (case i14 => k_is)
    (case l14 => k_is)
    (case c14 => k_is)
    (case k14 => k_is)
    (case a15 => k_is)
    (case i15 => k_is)
    (case l15 => k_is)
    (case c15 => k_is)
    (case k15 => k_is)
    (case a16 => k_is)
    (case i16 => k_is)
    (case l16 => k_is)
    (case c16 => k_is)
    (case k16 => k_is)
    (case a17 => k_is)
    (case i17 => k_is)
    (case l17 => k_is)
    (case c17 => k_is)
    (case k17 => k_is)
    (case a18 => k_is)
    (case i18 => k_is)
    (case l18 => k_is)
    (case c18 => k_is)
    (case k18 => k_is)
    (case a19 => k_is)
    (case i19 => k_is)
    (case l19 => k_is)
    (case c19 => k_is)
    (case k19 => k_is)
    (case a20 => k_is)
    (case i20 => k_is)
    (case l20 => k_is)
    (case c20 => k_is)
    (case k20 => k_is)
    (case a21 => k_is)
    (case l21 => k_is)
    (case c21 => k_is)
    (case k21 => k_is)
    (case a22 => k_is)
    (case l22 => k_is)
    (case c22 => k_is)
    (case k22 => k_is)
    (case a23 => k_is)
    (case l23 => k_is)
    (case c23 => k_is)
    (case k23 => k_is)
    (case a24 => k_is)
    (case l24 => k_is)
    (case c24 => k_is)
    (case k24 => k_is)
    (case a25 => k_is)
    (case l25 => k_is)
    (case c25 => k_is)
    (case k25 => k_is)
    (case a26 => k_is)
    (case l26 => k_is)
    (case c26 => k_is)
    (case k26 => k_is)
    (case a27 => k_is)
    (case l27 => k_is)
    (case c27 => k_is)
    (case k27 => k_is)
    (case a28 => k_is)
    (case l28 => k_is)
    (case c28 => k_is)
    (case k28 => k_is)
    (case a29 => k_is)
    (case l29 => k_is)
    (case c29 => k_is)
    (case k29 => k_is)
    (case a30 => k_is)
    (case l30 => k_is)
    (case c30 => k_is)
    (case k30 => k_is)
    (case a31 => k_is)
    (case l31 => k_is)
    (case c31 => k_is)
    (case k31 => k_is)
    (case a32 => k_is)
    (case l32 => k_is)
    (case c32 => k_is)
    (case k32 => k_is)
    (case a33 => k_is)
    (case l33 => k_is)
    (case c33 => k_is)
    (case k33 => k_is)
    (case a34 => k_is)
    (case l34 => k_is)
    (case c34 => k_is)
    (case k34 => k_is)
    (case a35 => k_is)
    (case l35 => k_is)
    (case c35 => k_is)
    (case k35 => k_is)
    (case a36 => k_is)
    (case l36 => k_is)
    (case c36 => k_is)
    (case k36 => k_is)
    (case a37 => k_is)
    (case l37 => k_is)
    (case c37 => k_is)
    (case k37 => k_is)
    (case a38 => k_is)
    (case l38 => k_is)
    (case c38 => k_is)
    (case k38 => k_is)
    (case a39 => k_is)
    (case l39 => k_is)
    (case c39 => k_is)
    (case k39 => k_is)
    (case a40 => k_is)
    (case l40 => k_is)
    (case c40 => k_is)
    (case k40 => k_is)
    (case a41 => k_is)
    (case l41 => k_is)
    (case c41 => k_is)
    (case k41 => k_is)
    (case a42 => k_is)
    (case l42 => k_is)
    (case c42 => k_is)
    (case k42 => k_is)
    (case a43 => k_is)
    (case l43 => k_is)
    (case c43 => k_is)
    (case k43 => k_is)
    (case a44 => k_is)
    (case l44 => k_is)
    (case c44 => k_is)
    (case k44 => k_is)
    (case a45 => k_is)
    (case l45 => k_is)
    (case c45 => k_is)
    (case k45 => k_is)
    (case a46 => k_is)
    (case l46 => k_is)
    (case c46 => k_is)
    (case k46 => k_is)
    (case a47 => k_is)
    (case l47 => k_is)
    (case c47 => k_is)
    (case k47 => k_is)
    (case a48 => k_is)
    (case l48 => k_is)
    (case c48 => k_is)
    (case k48 => k_is)
    (case a49 => k_is)
    (case l49 => k_is)
    (case c49 => k_is)
    (case k49 => k_is)
    (case z_int => k_is)
    (case z_isinstance => k_is)
    (case z_bool => k_is)
    (case z_str => k_is)
    (case z_len => k_is)
    (case z_tuple => k_is)
    (case z_abs => k_is)
    (case z_list => k_is)
    (case z_reversed => k_is)
    (case z_sorted => k_is)
    (case z_range => k_is)
    (case z_ValueError => k_is)
    (case z_sum => k_is)
    (case z_min => k_is)
    (case z_LETTERS => k_is)
    (case z_BOUND => k_is)
    (case oxVAgainst => rfl)
    (case oxVNoWay => rfl)
